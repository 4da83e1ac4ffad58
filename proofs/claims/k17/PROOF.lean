import PyProof.Rows.All
import HandS.HeadHook1
import HandS.HeadHook2
import HandS.HeadHook3
import HandS.HeadHook4
import HandS.EndTab
import HandS.ExcIs
import HandS.ExcField
import HandS.ExcInit
import HandS.ExcOwn
import Wide.All
import OpenK.AllK
import Wide.FinOn
import PyProof.EqAt
import PyProof.EqKinds
import PyProof.TupleCall
import HandS.Base
import HandS.Call
import HandS.List
import HandS.Comp
import HandS.Dict
import HandS.Iter
import HandS.Text
import HandS.More
import HandS.Ends
import HandS.Words
import HandS.Lambda
import HandS.IsInst
import HandS.Replace
import HandS.RaiseMore
import HandS.Defaults
import HandS.Style
import PyProof.Draws
import PyProof.EnumMake
import PyProof.EnumFor
import HandS.Small
import HandS.NoneIn
import HandS.Deep
import HandS.Walk
import KE.KEqNest
import PyProof.DictUpdate
import HandS.WordsDict
import HandS.SetFor
import KE.KExcIs
import PySem.Challenge.RW_attachhall_k17_texts_of_no_steps
import Lean
import HandS.HeadEnd
import HandS.Head0
import HandS.Head1
import HandS.Head2
set_option Elab.async false
set_option linter.all false
set_option hygiene false
namespace AH
end AH
namespace TL
end TL
set_option maxRecDepth 100000
set_option maxHeartbeats 2000000
namespace AH
open PySem L2 TL PySem.Spec PyProof.Rows
def entI (e : DictEntry) : Option (Str × Int × Int) := match e.key, e.val with
  | .str x _, .int i _ => some (x, e.hash, i)
  | _, _ => none
def dicX (K : PySem.W.Frag) (a : Addr) : Option (List (Option (Str × Int × Int))) := match K.lookup a with
  | some ⟨.type c, none, .dict es _, sl⟩ => (match decide (c = "dict") && (sl.isEmpty && !(a == sysModules)) with
    | true => some (es.toList.map entI)
    | false => none)
  | _ => none
abbrev Kvs := List (List Nat × Int)
def kvX (P : Params) (kvs : Kvs) : List (Option (Str × Int × Int)) := kvs.map fun q => some (⟨q.1.toArray⟩, PyData.keyHash P ⟨q.1.toArray⟩, q.2)
abbrev TabX : Type := Str × Kvs
abbrev AlX : Type := He.AlD × List (Option (List (Option (Str × Int × Int))))
def obsX (fa : List He.Fa) (fn : List He.DefD) (ts : List TabX) (K : PySem.W.Frag) : AlX := (He.obsD fa fn K, ts.map fun t => dicX K (He.ga K t.1))
def valX (fn : List He.DefD) (ts : List TabX) (w : World) : AlX := (He.valD fn, ts.map fun t => some (kvX w.params t.2))
def SaysX (fa : List He.Fa) (fn : List He.DefD) (ts : List TabX) (w : World) (K : PySem.W.Frag) : Prop := obsX fa fn ts K = valX fn ts w
theorem SaysX.d {fa : List He.Fa} {fn : List He.DefD} {ts : List TabX} {w : World} {K : PySem.W.Frag} (c : SaysX fa fn ts w K) : He.SaysD fa fn K := congrArg (fun z : AlX => z.1) c
end AH
set_option maxRecDepth 100000
set_option maxHeartbeats 2000000
namespace AH
open PySem L2 TL PySem.Spec PyProof.Rows
abbrev AlE : Type := AlX × Bool
abbrev FragB : Type := PySem.W.Frag → Bool
def obsEK (fa : List He.Fa) (fn : List He.DefD) (ts : List TabX) (tf : List He.Defn) (ex : FragB) (g : Addr → Option Obj) (K : PySem.W.Frag) : AlE := (obsX fa fn ts K, ex K && He.tabsB g tf K)
def obsEG (n : Nat) (fa : List He.Fa) (fn : List He.DefD) (ts : List TabX) (tf : List He.Defn) (ex : FragB) (g : Addr → Option Obj) : AlE := obsEK fa fn ts tf ex g (He.frT g (He.asD g n ++ [cStatics]))
structure SaysE (fa : List He.Fa) (fn : List He.DefD) (ts : List TabX) (tf : List He.Defn) (ex : FragB) (w : World) (h : Heap) (K : PySem.W.Frag) : Prop where
  x : SaysX fa fn ts w K
  ex : ex K = true
  cd : ∀ p ∈ tf, PySem.W.codeHdIn K (He.codeOf K p) (He.tabOf K (He.codeOf K p)) = true
  no : ∀ p ∈ tf, K.lookup (He.tabOf K (He.codeOf K p)) = none
  em : ∀ p ∈ tf, h.get? (He.tabOf K (He.codeOf K p)) = some { cls := .none, data := .fields #[] }
theorem saysE_of {n : Nat} {fa : List He.Fa} {fn : List He.DefD} {ts : List TabX} {tf : List He.Defn} {ex : FragB} {w : World} {h : Heap} (e : obsEG n fa fn ts tf ex h.get? = (valX fn ts w, true)) : SaysE fa fn ts tf ex w h (He.frT h.get? (He.asD h.get? n ++ [cStatics])) := by
  have e1 : obsX fa fn ts (He.frT h.get? (He.asD h.get? n ++ [cStatics])) = valX fn ts w := congrArg Prod.fst e
  have e2 : (ex (He.frT h.get? (He.asD h.get? n ++ [cStatics])) && He.tabsB h.get? tf (He.frT h.get? (He.asD h.get? n ++ [cStatics]))) = true := congrArg Prod.snd e
  obtain ⟨h1, h2⟩ := Bool.and_eq_true_iff.mp e2
  have each := fun p hp => Bool.and_eq_true_iff.mp (List.all_eq_true.mp h2 p hp)
  have emp : ∀ p ∈ tf, ∃ o, h.get? (He.tabOf (He.frT h.get? (He.asD h.get? n ++ [cStatics])) (He.codeOf (He.frT h.get? (He.asD h.get? n ++ [cStatics])) p)) = some o ∧ He.emptyTab o = true := by
    intro p hp
    have z := (each p hp).2
    show ∃ o, h.get? (He.cT (He.frT h.get? (He.asD h.get? n ++ [cStatics])) p).2 = some o ∧ _
    generalize h.get? (He.cT (He.frT h.get? (He.asD h.get? n ++ [cStatics])) p).2 = y at z
    cases y with
    | none => cases z
    | some o => exact ⟨o, rfl, z⟩
  refine ⟨e1, h1, fun p hp => (each p hp).1, fun p hp => ?_, fun p hp => ?_⟩
  · obtain ⟨o, q, z⟩ := emp p hp
    exact He.frT_none q z
  · obtain ⟨o, q, z⟩ := emp p hp
    rw [q, He.emptyTab_eq z]
def hookE (n : Nat) (fa : List He.Fa) (fn : List He.DefD) (ts : List TabX) (tf : List He.Defn) (ex : FragB) : PySem.W.Hook where
  α := AlE
  obs := fun s => obsEG n fa fn ts tf ex s.heap.get?
  val := fun w => (valX fn ts w, true)
  says := fun w h => ∃ K : PySem.W.Frag, K.In h ∧ SaysE fa fn ts tf ex w h K
  of := fun _ _ e => ⟨_, He.frT_in, saysE_of e⟩
  keeps := fun _ _ _ z k => by
    obtain ⟨K, hK, c⟩ := z
    exact ⟨K, PySem.W.Frag.In.keeps hK k, c.x, c.ex, c.cd, c.no, fun p hp => k _ _ (c.em p hp)⟩
theorem obsEG_eq {n : Nat} {fa : List He.Fa} {fn : List He.DefD} {ts : List TabX} {tf : List He.Defn} {ex : FragB} {g : Addr → Option Obj} {s : Shared} (h : ∀ a, g a = s.heap.get? a) : obsEG n fa fn ts tf ex g = (hookE n fa fn ts tf ex).obs s := by
  have e : g = s.heap.get? := funext h
  rw [e]
  rfl
def excB (K : PySem.W.Frag) (C : Addr) : Bool := xfB K C && (decide (PySem.W.findIn K (.ref C) "__class__" = some (some (.builtin "object.__class__"))) &&
  (decide (PySem.W.specialIn K (.builtin "object.__class__") "__get__" = some (some (.builtin "getset_descriptor.__get__"))) && (decide (PySem.W.takesIn K (.builtin "object.__class__") = some true) && decide (PySem.W.mroIn K C (.type "object") = some true))))
theorem excB_ok {K : PySem.W.Frag} {C : Addr} (h : excB K C = true) : ExcC K C ∧ XfC K C := by
  unfold excB at h
  simp only [Bool.and_eq_true, decide_eq_true_eq] at h
  obtain ⟨h0, h1, h2, h3, h4⟩ := h
  have x := xfB_ok h0
  exact ⟨⟨x.ga, x.gg, x.exC, x.hdC, h1, h2, h3, h4⟩, x⟩
def kindsX : List Str := ["BadCount", "BadFields", "BadLook", "BadSign", "BadSize", "BadText", "NoLook"]
/-- what told's except suite asks -/
def toldB (K : PySem.W.Frag) : Bool := kindsX.all fun x => excB K (He.ga K x) && (decide (PySem.W.exmOne K (.ref (He.ga K x)) (.ref (He.ga K "HallError")) = some true) && (decide (PySem.W.kitOne K (.ref (He.ga K x)) (.type "ValueError") = some true) &&
  kindsX.all fun y => decide (PySem.W.kitOne K (.ref (He.ga K x)) (.ref (He.ga K y)) = some (decide (x = y)))))
structure ToldK (K : PySem.W.Frag) : Prop where
  c : ∀ x ∈ kindsX, ExcC K (He.ga K x) ∧ XfC K (He.ga K x)
  m : ∀ x ∈ kindsX, PySem.W.exmOne K (.ref (He.ga K x)) (.ref (He.ga K "HallError")) = some true
  v : ∀ x ∈ kindsX, PySem.W.kitOne K (.ref (He.ga K x)) (.type "ValueError") = some true
  k : ∀ x ∈ kindsX, ∀ y ∈ kindsX, PySem.W.kitOne K (.ref (He.ga K x)) (.ref (He.ga K y)) = some (decide (x = y))
theorem toldB_ok {K : PySem.W.Frag} (h : toldB K = true) : ToldK K := by
  have e := fun x hx => List.all_eq_true.mp h x hx
  simp only [Bool.and_eq_true, decide_eq_true_eq, List.all_eq_true] at e
  exact ⟨fun x hx => excB_ok (e x hx).1, fun x hx => (e x hx).2.1, fun x hx => (e x hx).2.2.1, fun x hx => (e x hx).2.2.2⟩
/-- a class with an own __init__ that stores f -/
def oexB (K : PySem.W.Frag) (x f : Str) : Bool := (match K.lookup (He.ga K x) with
    | some ⟨.type t, _, .cls cd, sl⟩ => (match cd.mro, sl.toList with
      | .ref C :: bm, [_, _, _, _, some (.builtin n), _] => decide (t = "type") && (decide (C = He.ga K x) && (decide (n = "ValueError.__new__") && (!cd.hasDel && (cd.hasDict && PySem.HandSPX.refsVE bm))))
      | _, _ => false)
    | _ => false) && (decide (PySem.W.findIn K (.ref (He.ga K x)) "__setattr__" = some (some (.builtin "object.__setattr__"))) && (decide (PySem.W.typeIn K (.ref (He.ga K x)) = some (.type "type")) && (PySem.W.keepIn K (.ref (He.ga K x)) &&
    (decide (PySem.W.findIn K (.ref (He.ga K x)) f = some none) && (decide (PySem.W.subIn K (.ref (He.ga K x)) (.type "BaseException") = some true) &&
    (decide (PySem.W.findIn K (.ref (He.ga K x)) "__init__" = some (some (.ref (He.ma K (He.ga K x) "__init__")))) && decide (PySem.W.typeIn K (.ref (He.ma K (He.ga K x) "__init__")) = some (.type "function"))))))))
structure OexK (K : PySem.W.Frag) (x f : Str) : Prop where
  o : OexC K (He.ga K x)
  n : PySem.W.findIn K (.ref (He.ga K x)) f = some none
  i : PySem.W.findIn K (.ref (He.ga K x)) "__init__" = some (some (.ref (He.ma K (He.ga K x) "__init__")))
  t : PySem.W.typeIn K (.ref (He.ma K (He.ga K x) "__init__")) = some (.type "function")
theorem oexB_ok {K : PySem.W.Frag} {x f : Str} (h : oexB K x f = true) : OexK K x f := by
  unfold oexB at h
  rw [Bool.and_eq_true] at h
  obtain ⟨h0, h⟩ := h
  simp only [Bool.and_eq_true, decide_eq_true_eq] at h
  obtain ⟨h1, h2, h3, h4, h5, h6, h7⟩ := h
  refine ⟨⟨?_, h1, h5, h2, h3⟩, h4, h6, h7⟩
  split at h0
  · rename_i t dd cd sl hl
    split at h0
    · rename_i C bm k0 k1 k2 k3 n k5 hm hs
      simp only [Bool.and_eq_true, decide_eq_true_eq, Bool.not_eq_true'] at h0
      obtain ⟨rfl, rfl, rfl, hd, hh, hr⟩ := h0
      obtain ⟨nm, bs, mro, ns, qn, hd', sn, sub, ab, col, del⟩ := cd
      dsimp only at hm hd hh
      subst hm hd hh
      obtain ⟨sl⟩ := sl
      dsimp only at hs
      subst hs
      exact ⟨nm, qn, ns, bs, bm, sn, sub, ab, col, dd, k0, k1, k2, k3, k5, hl, hr⟩
    · cases h0
  · cases h0
/-- HallError.__init__(self, ..) goes to ValueError's -/
def hinB (K : PySem.W.Frag) : Bool := decide (PySem.W.specialIn K (.ref (He.ga K "HallError")) "__getattribute__" = some (some (.builtin "type.__getattribute__"))) && (PySem.W.readsIn K (He.ga K "HallError") (.type "type") &&
  (match PySem.W.findCls K (.ref (He.ga K "HallError")) (.type "type") "__init__" with
    | some (.val (.builtin s)) => decide (s = "ValueError.__init__")
    | _ => false))
structure HinK (K : PySem.W.Frag) : Prop where
  g : PySem.W.specialIn K (.ref (He.ga K "HallError")) "__getattribute__" = some (some (.builtin "type.__getattribute__"))
  r : PySem.W.readsIn K (He.ga K "HallError") (.type "type") = true
  f : PySem.W.findCls K (.ref (He.ga K "HallError")) (.type "type") "__init__" = some (.val (.builtin "ValueError.__init__"))
theorem hinB_ok {K : PySem.W.Frag} (h : hinB K = true) : HinK K := by
  unfold hinB at h
  rw [Bool.and_eq_true, Bool.and_eq_true, decide_eq_true_eq] at h
  obtain ⟨h1, h2, h3⟩ := h
  refine ⟨h1, h2, ?_⟩
  split at h3
  · rename_i s e
    rw [of_decide_eq_true h3] at e
    exact e
  · cases h3
/-- a law's end, tables of code objects told -/
theorem walk_ofTE {l : PySem.W.OpenLaw} {n k : Nat} {q : Program} {loose : List Str} {XP : (Str → Option Value) → Heap → Prop} {YP : World → Heap → Prop} {d : DefRec} {x : Str} (most : l.most = some n) (small : n ≤ sizeLine) (nodef : d.params.defaults = []) (room : Room k callerA)
    (F : ∀ (w : World) (mg : Str → Option Value) (fa : Addr) (h : Heap), YP w h → h.Ns mainGlobals mg → mg d.name = some (.ref fa) → ∃ K : PySem.W.Frag, K.In h ∧ LamX.LawAtS l w K CX0 k n x mg fa h) :
    PySem.W.WalkO q loose XP YP l.row.toRowW d [] (fun f vs => PySem.call f vs) := by
  apply Att.attach_callB most nodef
  intro w s₀ s₁ mg mb fa o pm cd doc a vs ns G Y ho hd hcd hmg hobj hi1 hl1 hb1 hg1
  obtain ⟨K, inK, fd, cs, sp, t1, t2, t3, b, p, f⟩ := F w mg fa _ Y G.T.g hmg
  exact LamX.law_callTs inK G.T.g G.T.b G.T.builtins G.T.nolimit hg1 t1 t2 t3 G.T.bmain hobj hi1 (Nat.le_trans hl1 small) room f b (fun H hH hS => p H a ns hl1 hb1 hH hS) fun _ _ _ z => z
end AH
set_option maxRecDepth 100000
set_option maxHeartbeats 0
namespace K17
open PySem PySem.Spec PyProof.Rows L2 AH TL
def kv_ROAD : Kvs := [([99, 97, 114, 114, 121], 1), ([108, 111, 115, 101], 1), ([116, 119, 105, 99, 101], 1), ([99, 117, 116], 2)]
def kv_SHAPES : Kvs := [([99, 111, 109, 101], 4), ([112, 114, 101, 115, 115], 1), ([115, 105, 122, 101], 3), ([108, 101, 97, 118, 101], 1), ([103, 111, 110, 101], 1), ([98, 101, 97, 116], 0), ([115, 101, 110, 100], 0), ([115, 101, 116, 116, 108, 101], 0)]
def top (i : Nat) : Stmt := PySem.Challenge.pw_attachhall_k17_texts_of_no_steps.main.body.getD i (.Pass ⟨0, 0, 0, 0⟩)
abbrev s_BadText___init__ : Stmt := inClass (top 8) 0
abbrev s_BadSign___init__ : Stmt := inClass (top 3) 0
abbrev s_number_of : Stmt := top 16
abbrev s_step_of : Stmt := top 20
abbrev s_read : Stmt := top 21
abbrev s__law_begun : Stmt := top 23
abbrev s__law_take : Stmt := top 24
abbrev s__law_alike : Stmt := top 25
abbrev s__law_told : Stmt := top 26
abbrev s__law_anystep : Stmt := top 28
abbrev s__law_rows : Stmt := top 29
abbrev s__law_number : Stmt := top 30
abbrev s__law_step : Stmt := top 31
abbrev s__law_spoilt : Stmt := top 32
abbrev s_law : Stmt := top 33
def D_BadText___init__ : He.DefD := ⟨("BadText", some "__init__"), "__init__", "BadText.__init__", defArgs s_BadText___init__, defBody s_BadText___init__, defScope s_BadText___init__, [], []⟩
def D_BadSign___init__ : He.DefD := ⟨("BadSign", some "__init__"), "__init__", "BadSign.__init__", defArgs s_BadSign___init__, defBody s_BadSign___init__, defScope s_BadSign___init__, [], []⟩
def D_number_of : He.DefD := ⟨("number_of", none), "number_of", "number_of", defArgs s_number_of, defBody s_number_of, defScope s_number_of, [], []⟩
def D_step_of : He.DefD := ⟨("step_of", none), "step_of", "step_of", defArgs s_step_of, defBody s_step_of, defScope s_step_of, [], []⟩
def D_read : He.DefD := ⟨("read", none), "read", "read", defArgs s_read, defBody s_read, defScope s_read, [], []⟩
def D__law_begun : He.DefD := ⟨("_law_begun", none), "_law_begun", "_law_begun", defArgs s__law_begun, defBody s__law_begun, defScope s__law_begun, [], []⟩
def D__law_take : He.DefD := ⟨("_law_take", none), "_law_take", "_law_take", defArgs s__law_take, defBody s__law_take, defScope s__law_take, [], []⟩
def D__law_alike : He.DefD := ⟨("_law_alike", none), "_law_alike", "_law_alike", defArgs s__law_alike, defBody s__law_alike, defScope s__law_alike, [], []⟩
def D__law_told : He.DefD := ⟨("_law_told", none), "_law_told", "_law_told", defArgs s__law_told, defBody s__law_told, defScope s__law_told, [], []⟩
def D__law_anystep : He.DefD := ⟨("_law_anystep", none), "_law_anystep", "_law_anystep", defArgs s__law_anystep, defBody s__law_anystep, defScope s__law_anystep, [], []⟩
def D__law_rows : He.DefD := ⟨("_law_rows", none), "_law_rows", "_law_rows", defArgs s__law_rows, defBody s__law_rows, defScope s__law_rows, [], []⟩
def D__law_number : He.DefD := ⟨("_law_number", none), "_law_number", "_law_number", defArgs s__law_number, defBody s__law_number, defScope s__law_number, [], []⟩
def D__law_step : He.DefD := ⟨("_law_step", none), "_law_step", "_law_step", defArgs s__law_step, defBody s__law_step, defScope s__law_step, [], []⟩
def D__law_spoilt : He.DefD := ⟨("_law_spoilt", none), "_law_spoilt", "_law_spoilt", defArgs s__law_spoilt, defBody s__law_spoilt, defScope s__law_spoilt, [], []⟩
def D_law : He.DefD := ⟨("law", none), "law", "law", defArgs s_law, defBody s_law, defScope s_law, [], []⟩
def fn0 : List He.DefD := [D_BadText___init__, D_BadSign___init__, D_number_of, D_step_of, D_read, D__law_begun, D__law_take, D__law_alike, D__law_told, D__law_anystep, D__law_rows, D__law_number, D__law_step, D__law_spoilt, D_law]
def fn : List He.DefD := fn0
def fa0 : List He.Fa := [.glo "HallError", .glo "BadCount", .glo "BadFields", .glo "BadLook", .glo "BadSign", .glo "BadSize", .glo "BadText", .glo "NoLook", .str "BACK" "<", .str "BLANK" " ", .str "ENDS" ";", .str "FIGURES" "0123456789", .str "LETTERS" "abcdefghijklmnopqrstuvwxyz", .int "MOST_FIGURES" 6, .free "ValueError", .free "bool", .free "enumerate", .free "int", .free "isinstance", .free "len", .free "list", .free "range", .free "str", .free "tuple", .glo "number_of", .glo "step_of", .glo "read", .glo "_law_begun", .glo "_law_take", .glo "_law_alike"]
def fa1 : List He.Fa := [.glo "_law_told", .glo "_law_anystep", .glo "_law_rows", .glo "_law_number", .glo "_law_step", .glo "_law_spoilt", .glo "law", .glo "ROAD", .glo "SHAPES"]
def fa : List He.Fa := fa0 ++ fa1
def nms0 : List PySem.Str := ["HallError", "BadSize", "BadSign", "BadFields", "BadLook", "BadCount", "NoLook", "BadText", "LETTERS", "FIGURES", "BLANK", "BACK", "ENDS", "MOST_FIGURES", "number_of", "SHAPES", "ROAD", "step_of", "read", "_law_begun", "_law_take", "_law_alike", "_law_told", "_law_all", "_law_anystep", "_law_rows", "_law_number", "_law_step", "_law_spoilt"]
def nms : List PySem.Str := nms0
abbrev R : PySem.W.OpenRow := PySem.W.OpenLaw.row PySem.Challenge.rw_attachhall_k17_texts_of_no_steps
def ts : List TabX := [("ROAD", kv_ROAD), ("SHAPES", kv_SHAPES)]
def tf : List He.Defn := [("law", none)]
def exF (K : PySem.W.Frag) : Bool := toldB K && (hinB K && (oexB K "BadSign" "place" && (oexB K "BadText" "row" && decide (tf.map fun p => He.tabOf K (He.codeOf K p)).Nodup)))
abbrev hk : PySem.W.Hook := hookE 5 fa fn ts tf exF
def ob (s : PySem.W.SharedT) : AlE := obsEG 5 fa fn ts tf exF (HandSHeadRun.getT s)
theorem ob_eq (s : PySem.W.SharedT) : ob s = hk.obs s.abs := obsEG_eq (HandSHeadRun.getT_eq s)
theorem runF (w : World) : HandSHeadRun.RunEq R (PySem.W.view R.prog [33]) hk ob 12000 nms (w.withFollow "special-get-raises" false) := by
  intro os
  kernel_rfl
theorem runT (w : World) : HandSHeadRun.RunEq R (PySem.W.view R.prog [33]) hk ob 12000 nms (w.withFollow "special-get-raises" true) := by
  intro os
  kernel_rfl
theorem run : ∀ w : World, HandSHeadRun.RunEq R (PySem.W.view R.prog [33]) hk ob 12000 nms w :=
  PySem.W.byRow2 "special-get-raises" runF runT
theorem exF_is {K : PySem.W.Frag} (h : exF K = true) : toldB K = true ∧ hinB K = true ∧ oexB K "BadSign" "place" = true ∧ oexB K "BadText" "row" = true := by
  simp only [exF, Bool.and_eq_true] at h
  exact ⟨h.1, h.2.1, h.2.2.1, h.2.2.2.1⟩
theorem exF_nd {K : PySem.W.Frag} (h : exF K = true) : (tf.map fun p => He.tabOf K (He.codeOf K p)).Nodup := by
  simp only [exF, Bool.and_eq_true, decide_eq_true_eq] at h
  exact h.2.2.2.2
end K17
set_option maxRecDepth 100000
set_option maxHeartbeats 2000000
namespace AH
open PySem L2
inductive D where
  | non | bl (b : Bool) | int (i : Int) | str (c : List Nat) | tup (xs : List D) | lst (xs : List D) | ref (l : Nat) | raw (v : V) | scr (ns : List Int)
  /-- an exception at a, its dict at d: names, what they hold -/
  | exn (a : Addr) (d : Option Addr) (ns : List Str) (vs : List D)
inductive DK where
  | i (n : Int) | s (c : List Nat)
  deriving DecidableEq
def DK.key : DK → Key
  | .i n => .inl n
  | .s c => .inr ⟨c.toArray⟩
theorem DK.key_inj : ∀ {a b : DK}, a.key = b.key → a = b
  | .i n, .i m, h => by
    have e : n = m := Sum.inl.inj h
    rw [e]
  | .s c, .s d, h => by
    have e : (⟨c.toArray⟩ : Str) = ⟨d.toArray⟩ := Sum.inr.inj h
    have e2 : c.toArray = d.toArray := congrArg Str.cps e
    have e3 : c = d := by
      have := congrArg Array.toList e2
      simpa using this
    rw [e3]
  | .i _, .s _, h => nomatch h
  | .s _, .i _, h => nomatch h
inductive MO where
  | lst (xs : List D)
  | dic (lk : Bool) (kvs : List (DK × D))
  | dit (lk : Bool) (kvs : List (List DK × D))
  | ins (c : Nat) (fs : List D)
  /-- a table of code objects, of lambdas of the name q -/
  | tab (t : Nat) (q : Str)
structure Sto where
  next : Nat
  get : Nat → Option MO
def Sto.set (S : Sto) (l : Nat) (o : MO) : Sto := ⟨S.next, fun k => if k = l then some o else S.get k⟩
def Sto.new (S : Sto) (o : MO) : Sto := ⟨S.next + 1, fun k => if k = S.next then some o else S.get k⟩
structure Wd where
  io : Nat → Option Addr
  S : Sto
  B : Addr → Prop
  H : Hp
def Wd.U (w : Wd) (a : Addr) : Prop := ∃ l, w.io l = some a
def Wd.Ex (w : Wd) (a : Addr) : Prop := w.B a ∨ w.U a
def Wd.withB (w : Wd) (B : Addr → Prop) : Wd := { w with B := B }
def Wd.ban (w : Wd) (p : Addr) : Wd := { w with B := fun a => w.B a ∨ a = p }
structure Gx where
  cm : Nat → Addr
  fl : Nat → List Str
  tm : Nat → Addr := fun _ => 0
  tl : List (Nat × Str) := []
def Kw (K : PySem.W.Frag) (a : Addr) (xs : List V) : Prop :=
  ∃ (o : Obj) (its : Array Value) (n : Nat), K.lookup a = some o ∧ o.cls = .type "list" ∧ o.dict = none ∧ o.data = .seq its n ∧ its.size ≤ sizeLine ∧ Vals xs its.toList
mutual
inductive RV (K : PySem.W.Frag) (w : Wd) : V → D → Prop
  | non : RV K w .non .non
  | bl {b} : RV K w (.bl b) (.bl b)
  | int {i} : RV K w (.int i) (.int i)
  | str {c : List Nat} : RV K w (.str ⟨c.toArray⟩) (.str c)
  | tup {a vs ds} : w.H a = some (.tup vs) → ¬ w.Ex a → RVs K w vs ds → RV K w (.ref a) (.tup ds)
  | lst {a vs ds} : w.H a = some (.lst vs) → ¬ w.Ex a → RVs K w vs ds → RV K w (.ref a) (.lst ds)
  | ref {l a} : w.io l = some a → RV K w (.ref a) (.ref l)
  | raw {v} : RV K w v (.raw v)
  | scr {a ns} : ((∃ o, w.H a = some (.frz o (.lst (ns.map V.int))) ∧ ¬ w.Ex a) ∨ Kw K a (ns.map V.int)) → RV K w (.ref a) (.scr ns)
  | scl {a} {ns : List Int} : w.H a = some (.lst (ns.map V.int)) → ¬ w.Ex a → RV K w (.ref a) (.scr ns)
  | ex0 {a} : RV K w (.ref a) (.exn a none [] [])
  | exd {a dd ys ds} : w.H dd = some (.xd ys) → ¬ w.Ex dd → RVs K w (ys.map (·.2)) ds → RV K w (.ref a) (.exn a (some dd) (ys.map (·.1)) ds)
inductive RVs (K : PySem.W.Frag) (w : Wd) : List V → List D → Prop
  | nil : RVs K w [] []
  | cons {v vs d ds} : RV K w v d → RVs K w vs ds → RVs K w (v :: vs) (d :: ds)
end
/-- data by value stays what it is -/
structure Mv (w w' : Wd) : Prop where
  io : ∀ l a, w.io l = some a → w'.io l = some a
  hp : ∀ a o, w.H a = some o → ¬ w.Ex a → w'.H a = some o ∧ ¬ w'.Ex a
  fz : ∀ a o u, w.H a = some (.frz o u) → w'.H a = some (.frz o u)
theorem Mv.refl (w : Wd) : Mv w w := ⟨fun _ _ h => h, fun _ _ h k => ⟨h, k⟩, fun _ _ _ h => h⟩
theorem Mv.trans {a b c : Wd} (x : Mv a b) (y : Mv b c) : Mv a c := ⟨fun l p h => y.io l p (x.io l p h), fun p o h k => let ⟨h1, k1⟩ := x.hp p o h k; y.hp p o h1 k1, fun p o u h => y.fz p o u (x.fz p o u h)⟩
mutual
theorem RV.mono {K : PySem.W.Frag} {w w' : Wd} (m : Mv w w') : ∀ {v : V} {d : D}, RV K w v d → RV K w' v d
  | _, _, .non => .non
  | _, _, .bl => .bl
  | _, _, .int => .int
  | _, _, .str => .str
  | _, _, .tup h k r => .tup (m.hp _ _ h k).1 (m.hp _ _ h k).2 (RVs.mono m r)
  | _, _, .lst h k r => .lst (m.hp _ _ h k).1 (m.hp _ _ h k).2 (RVs.mono m r)
  | _, _, .ref h => .ref (m.io _ _ h)
  | _, _, .raw => .raw
  | _, _, .scr (.inl ⟨o, h, k⟩) => .scr (.inl ⟨o, (m.hp _ _ h k).1, (m.hp _ _ h k).2⟩)
  | _, _, .scr (.inr h) => .scr (.inr h)
  | _, _, .scl h k => .scl (m.hp _ _ h k).1 (m.hp _ _ h k).2
  | _, _, .ex0 => .ex0
  | _, _, .exd h k r => .exd (m.hp _ _ h k).1 (m.hp _ _ h k).2 (RVs.mono m r)
theorem RVs.mono {K : PySem.W.Frag} {w w' : Wd} (m : Mv w w') : ∀ {v : List V} {d : List D}, RVs K w v d → RVs K w' v d
  | _, _, .nil => .nil
  | _, _, .cons r s => .cons (RV.mono m r) (RVs.mono m s)
end
section
variable {K : PySem.W.Frag} {w : Wd}
theorem RVs.length : ∀ {vs : List V} {ds : List D}, RVs K w vs ds → vs.length = ds.length
  | _, _, .nil => rfl
  | _, _, .cons _ s => congrArg (· + 1) (RVs.length s)
theorem RVs.get : ∀ {vs : List V} {ds : List D} {i : Nat} {d : D}, RVs K w vs ds → ds[i]? = some d → ∃ v, vs[i]? = some v ∧ RV K w v d
  | _, _, _, _, .nil, e => by simp at e
  | _, _, 0, _, .cons r _, e => by
    simp at e
    subst e
    exact ⟨_, rfl, r⟩
  | _, _, i + 1, d, .cons _ s, e => by
    obtain ⟨v, h1, h2⟩ := RVs.get (i := i) (d := d) s (by simpa using e)
    exact ⟨v, by simpa using h1, h2⟩
theorem RVs.append : ∀ {vs us : List V} {ds es : List D}, RVs K w vs ds → RVs K w us es → RVs K w (vs ++ us) (ds ++ es)
  | _, _, _, _, .nil, s => s
  | _, _, _, _, .cons r t, s => .cons r (RVs.append t s)
theorem RVs.take : ∀ {vs : List V} {ds : List D} (n : Nat), RVs K w vs ds → RVs K w (vs.take n) (ds.take n)
  | _, _, 0, _ => .nil
  | _, _, _ + 1, .nil => .nil
  | _, _, n + 1, .cons r t => .cons r (RVs.take n t)
theorem RVs.drop : ∀ {vs : List V} {ds : List D} (n : Nat), RVs K w vs ds → RVs K w (vs.drop n) (ds.drop n)
  | _, _, 0, r => r
  | _, _, _ + 1, .nil => .nil
  | _, _, n + 1, .cons _ t => RVs.drop n t
theorem RVs.set {v : V} {d : D} (r : RV K w v d) : ∀ {vs : List V} {ds : List D} (i : Nat), RVs K w vs ds → RVs K w (vs.set i v) (ds.set i d)
  | _, _, _, .nil => .nil
  | _, _, 0, .cons _ t => .cons r t
  | _, _, i + 1, .cons q t => .cons q (RVs.set r i t)
theorem RVs.eraseIdx : ∀ {vs : List V} {ds : List D} (i : Nat), RVs K w vs ds → RVs K w (vs.eraseIdx i) (ds.eraseIdx i)
  | _, _, _, .nil => .nil
  | _, _, 0, .cons _ t => t
  | _, _, i + 1, .cons q t => .cons q (RVs.eraseIdx i t)
theorem RVs.one {v : V} {d : D} (r : RV K w v d) : RVs K w [v] [d] := .cons r .nil
theorem RVs.of_ints : ∀ (ns : List Int), RVs K w (ns.map V.int) (ns.map D.int)
  | [] => .nil
  | n :: ns => .cons .int (RVs.of_ints ns)
theorem RVs.of_strs : ∀ (ns : List (List Nat)), RVs K w ((ns.map fun c => (⟨c.toArray⟩ : Str)).map V.str) (ns.map D.str)
  | [] => .nil
  | n :: ns => .cons .str (RVs.of_strs ns)
end
/-- pairs by key -/
abbrev RK (K : PySem.W.Frag) (w : Wd) : List (Key × V) → List (DK × D) → Prop := Paired fun p q => p.1 = q.1.key ∧ RV K w p.2 q.2
abbrev RT (K : PySem.W.Frag) (w : Wd) : List (List Key × V) → List (List DK × D) → Prop := Paired fun p q => p.1 = q.1.map DK.key ∧ RV K w p.2 q.2
def RO (K : PySem.W.Frag) (G : Gx) (w : Wd) (a : Addr) : MO → Prop
  | .lst ds => ∃ vs, w.H a = some (.lst vs) ∧ RVs K w vs ds
  | .dic lk kvs => ∃ ks, (match lk with | false => w.H a = some (.dK ks) | true => ∃ od, w.H a = some (.frz od (.dK ks))) ∧ RK K w ks kvs
  | .dit lk kvs => ∃ ks, (match lk with | false => w.H a = some (.dT ks) | true => ∃ od, w.H a = some (.frz od (.dT ks))) ∧ RT K w ks kvs
  | .ins c ds => ∃ dx gs, w.H a = some (.ins (G.cm c) dx gs) ∧ gs.map (·.1) = (G.fl c).take ds.length ∧ ds.length ≤ (G.fl c).length ∧ RVs K w (gs.map (·.2)) ds
  | .tab t q => (a = G.tm t ∧ (t, q) ∈ G.tl) ∧ ∃ ps : Array Value, w.H a = some (.tbl ps) ∧ TriplesOk ps.toList ∧ ∀ (pos : Pos) (cv : Value), codeAmong pos ps.toList = some cv → ∃ c, cv = .ref c ∧ w.H c = some (LamX.CodeO c q) ∧ ¬ w.Ex c
theorem RO.mono {K : PySem.W.Frag} {G : Gx} {w w' : Wd} {a : Addr} (m : Mv w w') (e : w'.H a = w.H a) : ∀ {o : MO}, RO K G w a o → RO K G w' a o
  | .lst ds, ⟨vs, h, r⟩ => ⟨vs, by rw [e]; exact h, r.mono m⟩
  | .dic false kvs, ⟨ks, h, r⟩ => ⟨ks, by show w'.H a = _; rw [e]; exact h, L2.Paired.mapP r fun _ _ q => ⟨q.1, q.2.mono m⟩⟩
  | .dic true kvs, ⟨ks, ⟨od, h⟩, r⟩ => ⟨ks, ⟨od, by rw [e]; exact h⟩, L2.Paired.mapP r fun _ _ q => ⟨q.1, q.2.mono m⟩⟩
  | .dit false kvs, ⟨ks, h, r⟩ => ⟨ks, by show w'.H a = _; rw [e]; exact h, L2.Paired.mapP r fun _ _ q => ⟨q.1, q.2.mono m⟩⟩
  | .dit true kvs, ⟨ks, ⟨od, h⟩, r⟩ => ⟨ks, ⟨od, by rw [e]; exact h⟩, L2.Paired.mapP r fun _ _ q => ⟨q.1, q.2.mono m⟩⟩
  | .ins c ds, ⟨dx, gs, h, h1, h2, r⟩ => ⟨dx, gs, by rw [e]; exact h, h1, h2, r.mono m⟩
  | .tab t q, ⟨h0, ps, h, h1, h2⟩ => ⟨h0, ps, by rw [e]; exact h, h1, fun pos cv hc => let ⟨c, e1, e2, e3⟩ := h2 pos cv hc; ⟨c, e1, m.hp _ _ e2 e3⟩⟩
theorem RO.some {K : PySem.W.Frag} {G : Gx} {w : Wd} {a : Addr} : ∀ {o : MO}, RO K G w a o → ∃ u, w.H a = some u
  | .lst ds, ⟨vs, h, r⟩ => ⟨_, h⟩
  | .dic false kvs, ⟨ks, h, r⟩ => ⟨_, h⟩
  | .dic true kvs, ⟨ks, ⟨od, h⟩, r⟩ => ⟨_, h⟩
  | .dit false kvs, ⟨ks, h, r⟩ => ⟨_, h⟩
  | .dit true kvs, ⟨ks, ⟨od, h⟩, r⟩ => ⟨_, h⟩
  | .ins c ds, ⟨dx, gs, h, h1, h2, r⟩ => ⟨_, h⟩
  | .tab t q, ⟨h0, ps, h, h1, h2⟩ => ⟨_, h⟩
structure Ok (K : PySem.W.Frag) (G : Gx) (w : Wd) : Prop where
  obj : ∀ l o, w.S.get l = some o → ∃ a, w.io l = some a ∧ RO K G w a o
  inj : ∀ l l' a, w.io l = some a → w.io l' = some a → l = l'
  dom : ∀ l, w.S.get l = none → w.io l = none
  nxt : ∀ l, w.S.next ≤ l → w.S.get l = none
  dis : ∀ a, w.B a → ¬ w.U a
  bh : ∀ a, w.B a → ∃ o, w.H a = some o
  tb : ∀ a ps, w.H a = some (.tbl ps) → w.U a
  bx : ∀ a φ, w.B a → w.H a ≠ some (.ext φ)
theorem Ok.uh {K : PySem.W.Frag} {G : Gx} {w : Wd} (k : Ok K G w) {a : Addr} (h : w.U a) : ∃ o, w.H a = some o := by
  obtain ⟨l, h⟩ := h
  cases e : w.S.get l with
  | none =>
    rw [k.dom l e] at h
    cases h
  | some o =>
    obtain ⟨b, h1, h2⟩ := k.obj l o e
    rw [h] at h1
    cases h1
    exact h2.some
theorem Ok.exh {K : PySem.W.Frag} {G : Gx} {w : Wd} (k : Ok K G w) {a : Addr} (h : w.Ex a) : ∃ o, w.H a = some o := h.elim (k.bh a) k.uh
theorem Ok.fresh {K : PySem.W.Frag} {G : Gx} {w : Wd} (k : Ok K G w) {a : Addr} (h : w.H a = none) : ¬ w.Ex a := fun e => by
  obtain ⟨o, q⟩ := k.exh e
  rw [h] at q
  cases q
/-- B grows less -/
theorem Mv.shrink {w : Wd} {B : Addr → Prop} (h : ∀ a, B a → w.B a) : Mv w (w.withB B) := ⟨fun _ _ e => e, fun a o e k => ⟨e, fun z => k (z.elim (fun b => .inl (h a b)) .inr)⟩, fun _ _ _ h => h⟩
theorem Ok.shrink {K : PySem.W.Frag} {G : Gx} {w : Wd} {B : Addr → Prop} (k : Ok K G w) (h : ∀ a, B a → w.B a) : Ok K G (w.withB B) :=
  ⟨fun l o e => let ⟨a, h1, h2⟩ := k.obj l o e; ⟨a, h1, h2.mono (Mv.shrink h) rfl⟩, k.inj, k.dom, k.nxt, fun a b => k.dis a (h a b), fun a b => k.bh a (h a b), k.tb, fun a φ b => k.bx a φ (h a b)⟩
/-- a step that leaves what is not in the store -/
structure Fr (w w' : Wd) : Prop where
  io : ∀ l a, w.io l = some a → w'.io l = some a
  hp : ∀ a o, w.H a = some o → ¬ w.U a → w'.H a = some o ∧ ¬ w'.U a
  fz : ∀ a o u, w.H a = some (.frz o u) → w'.H a = some (.frz o u)
  bb : w'.B = w.B
theorem Fr.refl (w : Wd) : Fr w w := ⟨fun _ _ h => h, fun _ _ h k => ⟨h, k⟩, fun _ _ _ h => h, rfl⟩
theorem Fr.trans {a b c : Wd} (x : Fr a b) (y : Fr b c) : Fr a c := ⟨fun l p h => y.io l p (x.io l p h), fun p o h k => let ⟨h1, k1⟩ := x.hp p o h k; y.hp p o h1 k1, fun p o u h => y.fz p o u (x.fz p o u h), y.bb.trans x.bb⟩
theorem Fr.mv {w w' : Wd} (f : Fr w w') : Mv w w' := ⟨f.io, fun a o h k => by
  obtain ⟨h1, k1⟩ := f.hp a o h fun z => k (.inr z)
  refine ⟨h1, fun z => z.elim (fun b => ?_) k1⟩
  rw [f.bb] at b
  exact k (.inl b), f.fz⟩
theorem Fr.free {w w' : Wd} (f : Fr w w') (hu : ∀ a, w.U a → ∃ o, w.H a = some o) (hu' : ∀ a, w.H a = none → True) {p : Addr} (h : w'.H p = none) (k : ∀ a, w.U a → ∃ o, w'.H a = some o) : w.H p = none := by
  cases e : w.H p with
  | none => rfl
  | some o =>
    by_cases u : w.U p
    · obtain ⟨o', q⟩ := k p u
      rw [h] at q
      cases q
    · rw [(f.hp p o e u).1] at h
      cases h
theorem Fr.free' {K : PySem.W.Frag} {G : Gx} {w w' : Wd} (f : Fr w w') (k' : Ok K G w') {p : Addr} (h : w'.H p = none) : w.H p = none := by
  cases e : w.H p with
  | none => rfl
  | some o =>
    by_cases u : w.U p
    · obtain ⟨l, q⟩ := u
      obtain ⟨o', q⟩ := k'.uh ⟨l, f.io l p q⟩
      rw [h] at q
      cases q
    · rw [(f.hp p o e u).1] at h
      cases h
/-- a new object that is by value -/
def Wd.add (w : Wd) (p : Addr) (o : HO) : Wd := { w with H := upd w.H p o }
theorem Fr.add {w : Wd} {p : Addr} {o : HO} (h : w.H p = none) : Fr w (w.add p o) := ⟨fun _ _ e => e, fun a u e k => ⟨by
  show upd w.H p o a = some u
  rw [upd_ne (ne_of_none e h)]
  exact e, k⟩, fun a q u e => by
  show upd w.H p o a = some (.frz q u)
  rw [upd_ne (ne_of_none e h)]
  exact e, rfl⟩
theorem Ok.add {K : PySem.W.Frag} {G : Gx} {w : Wd} {p : Addr} {o : HO} (k : Ok K G w) (h : w.H p = none) (nt : ∀ ps, o ≠ .tbl ps := by intro ps z; cases z) : Ok K G (w.add p o) where
  obj := fun l u e => by
    obtain ⟨a, h1, h2⟩ := k.obj l u e
    obtain ⟨z, hz⟩ := h2.some
    refine ⟨a, h1, h2.mono (Fr.add h).mv ?_⟩
    show upd w.H p o a = w.H a
    exact upd_ne (ne_of_none hz h)
  inj := k.inj
  dom := k.dom
  nxt := k.nxt
  dis := k.dis
  bh := fun a b => by
    obtain ⟨z, hz⟩ := k.bh a b
    refine ⟨z, ?_⟩
    show upd w.H p o a = _
    rw [upd_ne (ne_of_none hz h)]
    exact hz
  tb := fun a ps e => by
    have e : upd w.H p o a = some (.tbl ps) := e
    by_cases q : a = p
    · rw [q, upd_same] at e
      exact absurd (Option.some.inj e) (nt ps)
    · rw [upd_ne q] at e
      exact k.tb a ps e
  bx := fun a φ b => by
    obtain ⟨z, hz⟩ := k.bh a b
    show upd w.H p o a ≠ _
    rw [upd_ne (ne_of_none hz h)]
    exact k.bx a φ b
/-- the store's object at l is another -/
def Wd.put (w : Wd) (l : Nat) (o : MO) (a : Addr) (u : HO) : Wd := { w with S := w.S.set l o, H := upd w.H a u }
theorem Fr.put {w : Wd} {l : Nat} {a : Addr} {o : MO} {u : HO} (h : w.io l = some a) (nf : ∀ q z, w.H a ≠ some (.frz q z)) : Fr w (w.put l o a u) := ⟨fun _ _ e => e, fun b z e k => ⟨by
  show upd w.H a u b = some z
  rw [upd_ne (fun (q : b = a) => k ⟨l, by rw [q]; exact h⟩)]
  exact e, k⟩, fun b q z e => by
  show upd w.H a u b = some (.frz q z)
  rw [upd_ne (fun (y : b = a) => nf q z (by rw [← y]; exact e))]
  exact e, rfl⟩
theorem Ok.put {K : PySem.W.Frag} {G : Gx} {w : Wd} {l : Nat} {a : Addr} {o0 o : MO} {u : HO} (k : Ok K G w) (h0 : w.S.get l = some o0) (h : w.io l = some a) (nf : ∀ q z, w.H a ≠ some (.frz q z)) (r : RO K G (w.put l o a u) a o) : Ok K G (w.put l o a u) where
  obj := fun l' o' e => by
    have e' : (if l' = l then some o else w.S.get l') = some o' := e
    by_cases q : l' = l
    · rw [if_pos q] at e'
      cases e'
      subst q
      exact ⟨a, h, r⟩
    · rw [if_neg q] at e'
      obtain ⟨b, h1, h2⟩ := k.obj l' o' e'
      refine ⟨b, h1, h2.mono (Fr.put h nf).mv ?_⟩
      show upd w.H a u b = w.H b
      exact upd_ne fun (z : b = a) => q (k.inj l' l b h1 (by rw [z]; exact h))
  inj := k.inj
  dom := fun l' e => by
    have e' : (if l' = l then some o else w.S.get l') = none := e
    by_cases q : l' = l
    · rw [if_pos q] at e'
      cases e'
    · rw [if_neg q] at e'
      exact k.dom l' e'
  nxt := fun l' e => by
    have e1 : w.S.get l' = none := k.nxt l' e
    show (if l' = l then some o else w.S.get l') = none
    rw [if_neg (fun q => by rw [q, h0] at e1; cases e1)]
    exact e1
  dis := k.dis
  bh := fun b hb => by
    obtain ⟨z, hz⟩ := k.bh b hb
    by_cases q : b = a
    · exact ⟨u, by show upd w.H a u b = _; rw [q, upd_same]⟩
    · exact ⟨z, by show upd w.H a u b = _; rw [upd_ne q]; exact hz⟩
  tb := fun b ps e => by
    have e : upd w.H a u b = some (.tbl ps) := e
    by_cases q : b = a
    · rw [q]
      exact ⟨l, h⟩
    · rw [upd_ne q] at e
      exact k.tb b ps e
  bx := fun b φ hb => by
    show upd w.H a u b ≠ _
    rw [upd_ne (fun (q : b = a) => k.dis b hb ⟨l, by rw [q]; exact h⟩)]
    exact k.bx b φ hb
theorem Ok.noio {K : PySem.W.Frag} {G : Gx} {w : Wd} (k : Ok K G w) : w.io w.S.next = none := k.dom _ (k.nxt _ (Nat.le_refl _))
end AH
set_option maxRecDepth 100000
set_option maxHeartbeats 2000000
namespace AH
open PySem L2
inductive Sl where
  | no | val (d : D) | acc (ds : List D)
abbrev Rho := List Sl
abbrev Ev := Rho → Sto → Option (D × Sto)
abbrev EvL := Rho → Sto → Option (List D × Sto)
abbrev EvT := Rho → Sto → Option (Bool × Sto)
structure RS (K : PySem.W.Frag) (w : Wd) (σ : St) (ρ : Rho) : Prop where
  len : σ.length = ρ.length
  val : ∀ (i : Nat) (d : D), ρ[i]? = some (.val d) → ∃ v, σ[i]? = some (some v) ∧ RV K w v d
  acc : ∀ (i : Nat) (ds : List D), ρ[i]? = some (.acc ds) → ∃ a vs, σ[i]? = some (some (.ref a)) ∧ w.H a = some (.lst vs) ∧ RVs K w vs ds ∧ w.B a
theorem RS.fr {K : PySem.W.Frag} {G : Gx} {w w' : Wd} {σ : St} {ρ : Rho} (r : RS K w σ ρ) (k : Ok K G w) (f : Fr w w') : RS K w' σ ρ :=
  ⟨r.len, fun i d h => let ⟨v, h1, h2⟩ := r.val i d h; ⟨v, h1, h2.mono f.mv⟩, fun i ds h => by
    obtain ⟨a, vs, h1, h2, h3, h4⟩ := r.acc i ds h
    exact ⟨a, vs, h1, (f.hp a _ h2 (k.dis a h4)).1, h3.mono f.mv, by rw [f.bb]; exact h4⟩⟩
section
variable (K : PySem.W.Frag) (G : Gx)
/-- what follows a value; a new list; a test; arguments -/
abbrev Kd (w : Wd) (d : D) (S' : Sto) (Q : VK) : Prop := ∀ v w', w'.S = S' → Fr w w' → Ok K G w' → RV K w' v d → Q v w'.H
abbrev Kf (w : Wd) (ds : List D) (S' : Sto) (Q : VK) : Prop := ∀ p vs w', w'.S = S' → Fr w w' → w.H p = none → Ok K G (w'.ban p) → w'.H p = some (.lst vs) → RVs K (w'.ban p) vs ds → Q (.ref p) w'.H
abbrev Kt (w : Wd) (b : Bool) (S' : Sto) (Q : Bool → Hp → Prop) : Prop := ∀ w', w'.S = S' → Fr w w' → Ok K G w' → Q b w'.H
abbrev Ka (w : Wd) (ds : List D) (S' : Sto) (Q : List V → Hp → Prop) : Prop := ∀ vs w', w'.S = S' → Fr w w' → Ok K G w' → RVs K w' vs ds → Q vs w'.H
def SE (te : TE) (ev : Ev) : Prop := ∀ w σ ρ d S', Ok K G w → RS K w σ ρ → ev ρ w.S = some (d, S') → ∀ Q, Kd K G w d S' Q → te σ w.H Q
def SF (te : TE) (ev : EvL) : Prop := ∀ w σ ρ ds S', Ok K G w → RS K w σ ρ → ev ρ w.S = some (ds, S') → ∀ Q, Kf K G w ds S' Q → te σ w.H Q
def STt (tt : TT) (ev : EvT) : Prop := ∀ w σ ρ b S', Ok K G w → RS K w σ ρ → ev ρ w.S = some (b, S') → ∀ Q, Kt K G w b S' Q → tt σ w.H Q
def SA (ta : TA) (ev : EvL) : Prop := ∀ w σ ρ ds S', Ok K G w → RS K w σ ρ → ev ρ w.S = some (ds, S') → ∀ Q, Ka K G w ds S' Q → ta σ w.H Q
def S2 (r : R2) (f : D → D → Sto → Option (D × Sto)) : Prop := ∀ w x y dx dy d S', Ok K G w → RV K w x dx → RV K w y dy → f dx dy w.S = some (d, S') → ∀ Q, Kd K G w d S' Q → r x y w.H Q
def S2f (r : R2) (f : D → D → Sto → Option (List D × Sto)) : Prop := ∀ w x y dx dy ds S', Ok K G w → RV K w x dx → RV K w y dy → f dx dy w.S = some (ds, S') → ∀ Q, Kf K G w ds S' Q → r x y w.H Q
def SN (r : List V → Hp → VK → Prop) (f : List D → Sto → Option (D × Sto)) : Prop := ∀ w xs ds d S', Ok K G w → RVs K w xs ds → f ds w.S = some (d, S') → ∀ Q, Kd K G w d S' Q → r xs w.H Q
def SNf (r : List V → Hp → VK → Prop) (f : List D → Sto → Option (List D × Sto)) : Prop := ∀ w xs ds d S', Ok K G w → RVs K w xs ds → f ds w.S = some (d, S') → ∀ Q, Kf K G w d S' Q → r xs w.H Q
end
section
variable {K : PySem.W.Frag} {G : Gx}
/-- a step, then what follows -/
theorem Kd.from {w w1 : Wd} {d : D} {S' : Sto} {Q : VK} (k : Kd K G w d S' Q) (f : Fr w w1) : Kd K G w1 d S' Q := fun v w' e f' o r => k v w' e (f.trans f') o r
theorem Kf.from {w w1 : Wd} {d : List D} {S' : Sto} {Q : VK} (k : Kf K G w d S' Q) (f : Fr w w1) (o1 : Ok K G w1) : Kf K G w1 d S' Q := fun p vs w' e f' n o h r => k p vs w' e (f.trans f') (f.free' o1 n) o h r
theorem Kt.from {w w1 : Wd} {d : Bool} {S' : Sto} {Q : Bool → Hp → Prop} (k : Kt K G w d S' Q) (f : Fr w w1) : Kt K G w1 d S' Q := fun w' e f' o => k w' e (f.trans f') o
theorem Ka.from {w w1 : Wd} {d : List D} {S' : Sto} {Q : List V → Hp → Prop} (k : Ka K G w d S' Q) (f : Fr w w1) : Ka K G w1 d S' Q := fun v w' e f' o r => k v w' e (f.trans f') o r
theorem Kd.now {w : Wd} {d : D} {Q : VK} {v : V} (k : Kd K G w d w.S Q) (o : Ok K G w) (r : RV K w v d) : Q v w.H := k v w rfl (Fr.refl w) o r
/-- a list just made -/
theorem Kf.new {w : Wd} {ds : List D} {Q : VK} {vs : List V} (k : Kf K G w ds w.S Q) (o : Ok K G w) (r : RVs K w vs ds) {p : Addr} (h : w.H p = none) : Q (.ref p) (upd w.H p (.lst vs)) := by
  have m : Mv w ((w.add p (.lst vs)).ban p) := ⟨fun _ _ e => e, fun a u e q => ⟨by
    show upd w.H p (.lst vs) a = some u
    rw [upd_ne (ne_of_none e h)]
    exact e, fun z => by
    rcases z with (b | b) | b
    · exact q (.inl b)
    · rw [b, h] at e
      cases e
    · exact q (.inr b)⟩, fun a q u e => by
    show upd w.H p (.lst vs) a = some (.frz q u)
    rw [upd_ne (ne_of_none e h)]
    exact e⟩
  refine k p vs (w.add p (.lst vs)) rfl (Fr.add h) h ?_ upd_same (r.mono m)
  have o1 : Ok K G (w.add p (.lst vs)) := o.add h
  refine ⟨fun l u e => ?_, o1.inj, o1.dom, o1.nxt, fun a b => ?_, fun a b => ?_, o1.tb, fun a φ b => ?_⟩
  · obtain ⟨a, h1, h2⟩ := o.obj l u e
    obtain ⟨z, hz⟩ := h2.some
    refine ⟨a, h1, h2.mono m ?_⟩
    show upd w.H p (.lst vs) a = w.H a
    exact upd_ne (ne_of_none hz h)
  · rcases b with b | b
    · exact o.dis a b
    · intro u
      obtain ⟨z, hz⟩ := o.uh u
      rw [b, h] at hz
      cases hz
  · rcases b with b | b
    · exact o1.bh a b
    · exact ⟨.lst vs, by rw [b]; exact upd_same⟩
  · rcases b with b | b
    · exact o1.bx a φ b
    · intro z
      have z' : upd w.H p (.lst vs) a = some (.ext φ) := z
      rw [b, upd_same] at z'
      cases z'
theorem Ok.unban {w : Wd} {p : Addr} (o : Ok K G (w.ban p)) : Ok K G w := o.shrink (B := w.B) (w := w.ban p) fun a b => .inl b
theorem RVs.unban {w : Wd} {p : Addr} {vs : List V} {ds : List D} (r : RVs K (w.ban p) vs ds) : RVs K w vs ds := r.mono (Mv.shrink (w := w.ban p) (B := w.B) fun a b => .inl b)
theorem RV.unban {w : Wd} {p : Addr} {v : V} {d : D} (r : RV K (w.ban p) v d) : RV K w v d := r.mono (Mv.shrink (w := w.ban p) (B := w.B) fun a b => .inl b)
/-- a new list as a value -/
theorem Kf.of {w : Wd} {ds : List D} {S' : Sto} {Q : VK} (k : Kd K G w (.lst ds) S' Q) (o : Ok K G w) : Kf K G w ds S' Q := fun p vs w' e f n o' h r => by
  refine k _ w' e f o'.unban (.lst h (fun z => ?_) r.unban)
  rcases z with b | b
  · rw [f.bb] at b
    obtain ⟨z, hz⟩ := o.bh p b
    rw [n] at hz
    cases hz
  · exact o'.dis p (.inr rfl) b
/-- a tuple just made -/
theorem Kd.tup {w : Wd} {ds : List D} {Q : VK} {vs : List V} (k : Kd K G w (.tup ds) w.S Q) (o : Ok K G w) (r : RVs K w vs ds) {p : Addr} (h : w.H p = none) : Q (.ref p) (upd w.H p (.tup vs)) :=
  k _ (w.add p (.tup vs)) rfl (Fr.add h) (o.add h) (.tup upd_same (fun z => o.fresh h z) (r.mono (Fr.add h).mv))
end
def eVar (i : Nat) : Ev := fun ρ S => match ρ[i]? with
  | some (.val d) => some (d, S)
  | _ => none
def eC (d : D) : Ev := fun _ S => some (d, S)
def e2 {α : Type} (f : D → D → Sto → Option (α × Sto)) (a b : Ev) : Rho → Sto → Option (α × Sto) := fun ρ S => (a ρ S).bind fun x => (b ρ x.2).bind fun y => f x.1 y.1 y.2
def e1 {α : Type} (f : D → Sto → Option (α × Sto)) (a : Ev) : Rho → Sto → Option (α × Sto) := fun ρ S => (a ρ S).bind fun x => f x.1 x.2
def eN {α : Type} (f : List D → Sto → Option (α × Sto)) (a : EvL) : Rho → Sto → Option (α × Sto) := fun ρ S => (a ρ S).bind fun x => f x.1 x.2
def aNil : EvL := fun _ S => some ([], S)
def aCons (a : Ev) (b : EvL) : EvL := fun ρ S => (a ρ S).bind fun x => (b ρ x.2).bind fun y => some (x.1 :: y.1, y.2)
def eV (a : EvL) : Ev := fun ρ S => (a ρ S).bind fun x => some (.lst x.1, x.2)
def eTup (a : EvL) : Ev := fun ρ S => (a ρ S).bind fun x => if x.1.length ≤ sizeLine then some (.tup x.1, x.2) else none
def fLst (a : EvL) : EvL := fun ρ S => (a ρ S).bind fun x => if x.1.length ≤ sizeLine then some (x.1, x.2) else none
def tOf (a : Ev) : EvT := fun ρ S => (a ρ S).bind fun x => match x.1 with
  | .bl b => some (b, x.2)
  | _ => none
def tAndE (a b : EvT) : EvT := fun ρ S => (a ρ S).bind fun x => if x.1 = true then b ρ x.2 else some (false, x.2)
def tOrE (a b : EvT) : EvT := fun ρ S => (a ρ S).bind fun x => if x.1 = true then some (true, x.2) else b ρ x.2
def tNotE (a : EvT) : EvT := fun ρ S => (a ρ S).bind fun x => some (!x.1, x.2)
def eAndE (a b : Ev) : Ev := fun ρ S => (a ρ S).bind fun x => match x.1 with
  | .bl true => b ρ x.2
  | .bl false => some (.bl false, x.2)
  | _ => none
def eOrE (a b : Ev) : Ev := fun ρ S => (a ρ S).bind fun x => match x.1 with
  | .bl true => some (.bl true, x.2)
  | .bl false => b ρ x.2
  | _ => none
def eNotE (a : Ev) : Ev := fun ρ S => (a ρ S).bind fun x => match x.1 with
  | .bl c => some (.bl (!c), x.2)
  | _ => none
def eIf (t : EvT) (a b : Ev) : Ev := fun ρ S => (t ρ S).bind fun x => if x.1 = true then a ρ x.2 else b ρ x.2
def eIsN (a : Ev) : Ev := fun ρ S => (a ρ S).bind fun x => match x.1 with
  | .non => some (.bl true, x.2)
  | .raw _ => none
  | _ => some (.bl false, x.2)
def eNotN (a : Ev) : Ev := fun ρ S => (a ρ S).bind fun x => match x.1 with
  | .non => some (.bl false, x.2)
  | .raw _ => none
  | _ => some (.bl true, x.2)
def eChain (f g : D → D → Sto → Option (D × Sto)) (a b c : Ev) : Ev := fun ρ S => (a ρ S).bind fun x => (b ρ x.2).bind fun y => (f x.1 y.1 y.2).bind fun z => match z.1 with
  | .bl true => (c ρ z.2).bind fun u => g y.1 u.1 u.2
  | .bl false => some (.bl false, z.2)
  | _ => none
section
variable {K : PySem.W.Frag} {G : Gx} {ta tb tc te : TE} {ea eb ec : Ev} {t u : TT} {et eu : EvT}
theorem bnd {α β : Type} {o : Option α} {f : α → Option β} {b : β} (h : o.bind f = some b) : ∃ a, o = some a ∧ f a = some b := Option.bind_eq_some_iff.mp h
theorem se_var {i : Nat} : SE K G (tVar i) (eVar i) := fun w σ ρ d S' o r h Q k => by
  unfold eVar at h
  split at h
  · rename_i d' e
    cases h
    obtain ⟨v, h1, h2⟩ := r.val i _ e
    exact ⟨v, h1, Kd.now k o h2⟩
  · cases h
theorem se_c {v : V} {d : D} (hd : ∀ w, RV K w v d) : SE K G (tC v) (eC d) := fun w σ ρ d' S' o r h Q k => by
  cases h
  exact Kd.now k o (hd w)
/-- the second operand is had behind the first -/
theorem se_2 {α : Type} {f : D → D → Sto → Option (α × Sto)} (ha : SE K G ta ea) (hb : SE K G tb eb) {w : Wd} {σ : St} {ρ : Rho} {z : α} {S' : Sto} (o : Ok K G w) (r : RS K w σ ρ) (h : e2 f ea eb ρ w.S = some (z, S')) {R : V → V → Hp → Prop}
    (k : ∀ x y dx dy w', Fr w w' → Ok K G w' → RV K w' x dx → RV K w' y dy → f dx dy w'.S = some (z, S') → R x y w'.H) : ta σ w.H fun x H1 => tb σ H1 fun y H2 => R x y H2 := by
  obtain ⟨⟨dx, S1⟩, h1, h2⟩ := bnd h
  obtain ⟨⟨dy, S2⟩, h3, h4⟩ := bnd h2
  refine ha w σ ρ dx S1 o r h1 _ fun x w1 e1 f1 o1 r1 => ?_
  subst e1
  refine hb w1 σ ρ dy S2 o1 (r.fr o f1) h3 _ fun y w2 e2 f2 o2 r2 => ?_
  subst e2
  exact k x y dx dy w2 (f1.trans f2) o2 (r1.mono f2.mv) r2 h4
theorem se_op {r : R2} {f : D → D → Sto → Option (D × Sto)} (hr : S2 K G r f) (ha : SE K G ta ea) (hb : SE K G tb eb) : SE K G (tOp r ta tb) (e2 f ea eb) := fun w σ ρ d S' o rs h Q k =>
  se_2 ha hb o rs h fun x y dx dy w' f' o' rx ry hh => hr w' x y dx dy d S' o' rx ry hh Q (Kd.from k f')
theorem sf_op {r : R2} {f : D → D → Sto → Option (List D × Sto)} (hr : S2f K G r f) (ha : SE K G ta ea) (hb : SE K G tb eb) : SF K G (tOp r ta tb) (e2 f ea eb) := fun w σ ρ d S' o rs h Q k =>
  se_2 ha hb o rs h fun x y dx dy w' f' o' rx ry hh => hr w' x y dx dy d S' o' rx ry hh Q (Kf.from k f' o')
theorem se_of {el : EvL} (h : SF K G te el) : SE K G te (eV el) := fun w σ ρ d S' o rs hh Q k => by
  obtain ⟨⟨ds, S1⟩, h1, h2⟩ := bnd hh
  cases h2
  exact h w σ ρ ds _ o rs h1 Q (Kf.of k o)
theorem sa_nil : SA K G tNil aNil := fun w σ ρ d S' o rs h Q k => by
  cases h
  exact k [] w rfl (Fr.refl w) o .nil
theorem sa_cons {tr : TA} {er : EvL} (ha : SE K G ta ea) (hr : SA K G tr er) : SA K G (tCons ta tr) (aCons ea er) := fun w σ ρ d S' o rs h Q k => by
  obtain ⟨⟨dx, S1⟩, h1, h2⟩ := bnd h
  obtain ⟨⟨dy, S2⟩, h3, h4⟩ := bnd h2
  cases h4
  refine ha w σ ρ dx S1 o rs h1 _ fun x w1 e1 f1 o1 r1 => ?_
  subst e1
  refine hr w1 σ ρ dy _ o1 (rs.fr o f1) h3 _ fun xs w2 e2 f2 o2 r2 => ?_
  exact k (x :: xs) w2 e2 (f1.trans f2) o2 (.cons (r1.mono f2.mv) r2)
theorem se_tup {ta : TA} {el : EvL} (ha : SA K G ta el) : SE K G (tTup ta) (eTup el) := fun w σ ρ d S' o rs h Q k => by
  obtain ⟨⟨ds, S1⟩, h1, h2⟩ := bnd h
  split at h2
  · rename_i hl
    cases h2
    refine ha w σ ρ ds _ o rs h1 _ fun vs w1 e1 f1 o1 r1 => ⟨by rw [r1.length]; exact hl, fun p hp => ?_⟩
    subst e1
    exact Kd.tup (Kd.from k f1) o1 r1 hp
  · cases h2
theorem sf_lst {ta : TA} {el : EvL} (ha : SA K G ta el) : SF K G (tLst ta) (fLst el) := fun w σ ρ d S' o rs h Q k => by
  obtain ⟨⟨ds, S1⟩, h1, h2⟩ := bnd h
  split at h2
  · rename_i hl
    cases h2
    refine ha w σ ρ ds _ o rs h1 _ fun vs w1 e1 f1 o1 r1 => ⟨by rw [r1.length]; exact hl, fun p hp => ?_⟩
    subst e1
    exact Kf.new (Kf.from k f1 o1) o1 r1 hp
  · cases h2
theorem se_n {ta : TA} {el : EvL} {r : List V → Hp → VK → Prop} {f : List D → Sto → Option (D × Sto)} (hr : SN K G r f) (ha : SA K G ta el) : SE K G (tCB r ta) (eN f el) := fun w σ ρ d S' o rs h Q k => by
  obtain ⟨⟨ds, S1⟩, h1, h2⟩ := bnd h
  refine ha w σ ρ ds _ o rs h1 _ fun vs w1 e1 f1 o1 r1 => ?_
  subst e1
  exact hr w1 vs ds d S' o1 r1 h2 Q (Kd.from k f1)
theorem sf_n {ta : TA} {el : EvL} {r : List V → Hp → VK → Prop} {f : List D → Sto → Option (List D × Sto)} (hr : SNf K G r f) (ha : SA K G ta el) : SF K G (tCB r ta) (eN f el) := fun w σ ρ d S' o rs h Q k => by
  obtain ⟨⟨ds, S1⟩, h1, h2⟩ := bnd h
  refine ha w σ ρ ds _ o rs h1 _ fun vs w1 e1 f1 o1 r1 => ?_
  subst e1
  exact hr w1 vs ds d S' o1 r1 h2 Q (Kf.from k f1 o1)
theorem bl_of {w : Wd} {v : V} {b : Bool} (r : RV K w v (.bl b)) : v = .bl b := by cases r; rfl
theorem st_test (h : SE K G ta ea) : STt K G (tTest ta) (tOf ea) := fun w σ ρ b S' o rs hh Q k => by
  obtain ⟨⟨d, S1⟩, h1, h2⟩ := bnd hh
  cases d with
  | bl c =>
    cases h2
    exact h w σ ρ _ _ o rs h1 _ fun v w1 e1 f1 o1 r1 => ⟨b, bl_of r1, k w1 e1 f1 o1⟩
  | _ => cases h2
theorem st_B (h : SE K G ta ea) : STt K G (tB ta) (tOf ea) := fun w σ ρ b S' o rs hh Q k => by
  obtain ⟨⟨d, S1⟩, h1, h2⟩ := bnd hh
  cases d with
  | bl c =>
    cases h2
    exact h w σ ρ _ _ o rs h1 _ fun v w1 e1 f1 o1 r1 => ⟨b, bl_of r1, k w1 e1 f1 o1⟩
  | _ => cases h2
theorem st_or (h1 : STt K G t et) (h2 : STt K G u eu) : STt K G (tOr t u) (tOrE et eu) := fun w σ ρ b S' o rs hh Q k => by
  obtain ⟨⟨c, S1⟩, e1, e2⟩ := bnd hh
  refine h1 w σ ρ c S1 o rs e1 _ fun w1 q1 f1 o1 => ?_
  subst q1
  cases c with
  | false =>
    show u σ w1.H Q
    exact h2 w1 σ ρ b S' o1 (rs.fr o f1) e2 Q (Kt.from k f1)
  | true =>
    show Q true w1.H
    cases e2
    exact k w1 rfl f1 o1
theorem st_not (h : STt K G t et) : STt K G (tNot t) (tNotE et) := fun w σ ρ b S' o rs hh Q k => by
  obtain ⟨⟨c, S1⟩, e1, e2⟩ := bnd hh
  cases e2
  exact h w σ ρ c _ o rs e1 _ fun w1 q1 f1 o1 => k w1 q1 f1 o1
theorem se_and (h1 : SE K G ta ea) (h2 : SE K G tb eb) : SE K G (tAndV ta tb) (eAndE ea eb) := fun w σ ρ d S' o rs hh Q k => by
  obtain ⟨⟨c, S1⟩, q1, q2⟩ := bnd hh
  refine h1 w σ ρ c S1 o rs q1 _ fun v w1 e1 f1 o1 r1 => ?_
  subst e1
  cases c with
  | bl b =>
    refine ⟨b, bl_of r1, ?_⟩
    cases b with
    | true => exact h2 w1 σ ρ d S' o1 (rs.fr o f1) q2 Q (Kd.from k f1)
    | false =>
      cases q2
      exact Kd.now (Kd.from k f1) o1 .bl
  | _ => cases q2
theorem se_not (h1 : SE K G ta ea) : SE K G (tNotV ta) (eNotE ea) := fun w σ ρ d S' o rs hh Q k => by
  obtain ⟨⟨c, S1⟩, q1, q2⟩ := bnd hh
  refine h1 w σ ρ c S1 o rs q1 _ fun v w1 e1 f1 o1 r1 => ?_
  subst e1
  cases c with
  | bl b =>
    cases q2
    exact ⟨b, bl_of r1, Kd.now (Kd.from k f1) o1 .bl⟩
  | _ => cases q2
theorem se_if (h : STt K G t et) (h1 : SE K G ta ea) (h2 : SE K G tb eb) : SE K G (tIf t ta tb) (eIf et ea eb) := fun w σ ρ d S' o rs hh Q k => by
  obtain ⟨⟨c, S1⟩, q1, q2⟩ := bnd hh
  refine h w σ ρ c S1 o rs q1 _ fun w1 e1 f1 o1 => ?_
  subst e1
  cases c with
  | true => exact h1 w1 σ ρ d S' o1 (rs.fr o f1) q2 Q (Kd.from k f1)
  | false => exact h2 w1 σ ρ d S' o1 (rs.fr o f1) q2 Q (Kd.from k f1)
theorem isN_of {w : Wd} {v : V} {d : D} (r : RV K w v d) (hn : ∀ x, d ≠ .raw x) : decide (v = .non) = (match d with | .non => true | _ => false) := by
  cases r with
  | raw => exact absurd rfl (hn _)
  | non => rfl
  | _ => rfl
theorem se_isN (h1 : SE K G ta ea) : SE K G (tIsN ta) (eIsN ea) := fun w σ ρ d S' o rs hh Q k => by
  obtain ⟨⟨c, S1⟩, q1, q2⟩ := bnd hh
  refine h1 w σ ρ c S1 o rs q1 _ fun v w1 e1 f1 o1 r1 => ?_
  subst e1
  cases c with
  | raw x => cases q2
  | _ =>
    cases q2
    rw [isN_of r1 (fun x => by intro z; cases z)]
    exact Kd.now (Kd.from k f1) o1 .bl
theorem se_chain {r r' : R2} {f g : D → D → Sto → Option (D × Sto)} (hr : S2 K G r f) (hr' : S2 K G r' g) (ha : SE K G ta ea) (hb : SE K G tb eb) (hc : SE K G tc ec) : SE K G (tChain r r' ta tb tc) (eChain f g ea eb ec) := fun w σ ρ d S' o rs h Q k => by
  have h' : e2 (fun x y S => (f x y S).bind fun z => match z.1 with
    | .bl true => (ec ρ z.2).bind fun u => g y u.1 u.2
    | .bl false => some (.bl false, z.2)
    | _ => none) ea eb ρ w.S = some (d, S') := h
  refine se_2 ha hb o rs h' fun x y dx dy w1 f1 o1 rx ry hh => ?_
  obtain ⟨⟨dz, S1⟩, q1, q2⟩ := bnd hh
  refine hr w1 x y dx dy dz S1 o1 rx ry q1 _ fun z w2 e2' f2 o2 rz => ?_
  subst e2'
  cases dz with
  | bl b =>
    refine ⟨b, bl_of rz, ?_⟩
    cases b with
    | true =>
      obtain ⟨⟨du, S3⟩, q3, q4⟩ := bnd q2
      refine hc w2 σ ρ du S3 o2 (rs.fr o (f1.trans f2)) q3 _ fun u w3 e3 f3 o3 ru => ?_
      subst e3
      exact hr' w3 y u dy du d S' o3 (ry.mono (f2.trans f3).mv) ru q4 Q (Kd.from k ((f1.trans f2).trans f3))
    | false =>
      cases q2
      exact Kd.now (Kd.from k (f1.trans f2)) o2 .bl
  | _ => cases q2
end
end AH
set_option maxRecDepth 100000
set_option maxHeartbeats 2000000
namespace AH
open PySem L2
/-- a list by value, or the store's -/
def lstOf (S : Sto) : D → Option (List D)
  | .lst ds => some ds
  | .ref l => match S.get l with
    | some (.lst ds) => some ds
    | _ => none
  | _ => none
/-- a list or a tuple -/
def seqOf (S : Sto) : D → Option (List D)
  | .tup ds => some ds
  | d => lstOf S d
def mulOk (i j : Int) : Bool := decide ((-(2 ^ 64) < i ∧ i < 2 ^ 64) ∨ (-(2 ^ 64) < j ∧ j < 2 ^ 64))
def fAdd (a b : D) (S : Sto) : Option (D × Sto) := match a, b with
  | .int i, .int j => some (.int (i + j), S)
  | .str x, .str y => if x.length + y.length ≤ sizeLine then some (.str (x ++ y), S) else none
  | .tup x, .tup y => if x.isEmpty = false ∧ x.length + y.length ≤ sizeLine then some (.tup (x ++ y), S) else none
  | _, _ => none
def fCat (a b : D) (S : Sto) : Option (List D × Sto) := (lstOf S a).bind fun x => (lstOf S b).bind fun y => if x.length + y.length ≤ sizeLine then some (x ++ y, S) else none
def fSub (a b : D) (S : Sto) : Option (D × Sto) := match a, b with
  | .int i, .int j => some (.int (i - j), S)
  | _, _ => none
def fMul (a b : D) (S : Sto) : Option (D × Sto) := match a, b with
  | .int i, .int j => if mulOk i j = true then some (.int (i * j), S) else none
  | .str x, .int n => if -1000000 ≤ n ∧ n ≤ 1000000 ∧ x.length * n.toNat ≤ 1000000 then some (.str (List.replicate n.toNat x).flatten, S) else none
  | _, _ => none
def fRep (a b : D) (S : Sto) : Option (List D × Sto) := match b with
  | .int n => (lstOf S a).bind fun x => if -1000000 ≤ n ∧ n ≤ 1000000 ∧ x.length * n.toNat ≤ sizeLine then some ((List.replicate n.toNat x).flatten, S) else none
  | _ => none
def fDiv (a b : D) (S : Sto) : Option (D × Sto) := match a, b with
  | .int i, .int j => if 0 < j ∧ j < 1073741824 then some (.int (i / j), S) else none
  | _, _ => none
def fMod (a b : D) (S : Sto) : Option (D × Sto) := match a, b with
  | .int i, .int j => if 0 < j then some (.int (i % j), S) else none
  | _, _ => none
def fPow (a b : D) (S : Sto) : Option (D × Sto) := match a, b with
  | .int i, .int j => if 0 ≤ j ∧ j ≤ 1000 ∧ -1000 ≤ i ∧ i ≤ 1000 then some (.int (i ^ j.toNat), S) else none
  | _, _ => none
def fNeg (a : D) (S : Sto) : Option (D × Sto) := match a with
  | .int i => some (.int (-i), S)
  | _ => none
def fCmp (p : Int → Int → Bool) (a b : D) (S : Sto) : Option (D × Sto) := match a, b with
  | .int i, .int j => some (.bl (p i j), S)
  | _, _ => none
abbrev fLt := fCmp fun i j => decide (i < j)
abbrev fLe := fCmp fun i j => decide (i ≤ j)
abbrev fGt := fCmp fun i j => decide (j < i)
mutual
def toPy : D → Option PyData
  | .non => some .none
  | .bl b => some (.bool b)
  | .int i => some (.int i)
  | .str c => some (.str ⟨c.toArray⟩)
  | .tup ds => (toPys ds).map .tuple
  | .lst ds => (toPys ds).map .list
  | .ref _ => none
  | .raw _ => none
  | .scr _ => none
  | .exn _ _ _ _ => none
def toPys : List D → Option (List PyData)
  | [] => some []
  | d :: ds => match toPy d, toPys ds with
    | some p, some ps => some (p :: ps)
    | _, _ => none
end
/-- the store's list read -/
def toPyS (S : Sto) (d : D) : Option PyData := match d with
  | .ref l => match S.get l with
    | some (.lst ds) => (toPys ds).map .list
    | _ => none
  | d => toPy d
def eqPy (p q : PyData) : Option Bool := if SeqAt.shaped p = true ∧ SeqAt.shaped q = true then some (PyData.eqv p q) else none
def eqD (S : Sto) (a b : D) : Option Bool := match a, b with
  | .int i, .int j => some (decide (i = j))
  | .str x, .str y => some (decide (x = y))
  | .bl x, .bl y => some (decide (x = y))
  | .non, .non => some true
  | .non, .int _ => some false
  | .int _, .non => some false
  | a, b => match toPyS S a, toPyS S b with
    | some p, some q => eqPy p q
    | _, _ => none
def fEq (a b : D) (S : Sto) : Option (D × Sto) := (eqD S a b).map fun c => (.bl c, S)
def fNe (a b : D) (S : Sto) : Option (D × Sto) := (eqD S a b).map fun c => (.bl (!c), S)
/-- a sign in a text -/
def fInS (a b : D) (S : Sto) : Option (D × Sto) := match a, b with
  | .str [c], .str z => some (.bl (decide (c ∈ z)), S)
  | _, _ => none
def fNotInS (a b : D) (S : Sto) : Option (D × Sto) := match a, b with
  | .str [c], .str z => some (.bl (!decide (c ∈ z)), S)
  | _, _ => none
/-- flat things -/
def flatD : D → Option V
  | .non => some .non
  | .int i => some (.int i)
  | .str c => some (.str ⟨c.toArray⟩)
  | .bl b => some (.bl b)
  | _ => none
def flatDs : List D → Option (List V)
  | [] => some []
  | d :: ds => match flatD d, flatDs ds with
    | some p, some ps => some (p :: ps)
    | _, _ => none
def fIn (neg : Bool) (a b : D) (S : Sto) : Option (D × Sto) := (flatD a).bind fun x => (seqOf S b).bind fun ds => (flatDs ds).bind fun xs => some (.bl (if neg then !inV x xs else inV x xs), S)
def fIx (a b : D) (S : Sto) : Option (D × Sto) := match b with
  | .int i => match a with
    | .str z => if z.length ≤ sizeLine then (atI z i).map fun c => (.str [c], S) else none
    | a => (seqOf S a).bind fun ds => (atI ds i).map fun d => (d, S)
  | _ => none
section
variable {K : PySem.W.Frag} {G : Gx}
theorem str_len (c : List Nat) : (⟨c.toArray⟩ : Str).length = c.length := by
  show c.toArray.size = c.length
  simp
theorem str_app (a b : List Nat) : (⟨a.toArray⟩ : Str) ++ ⟨b.toArray⟩ = ⟨(a ++ b).toArray⟩ := by
  show (⟨a.toArray ++ b.toArray⟩ : Str) = _
  simp
theorem str_eq {a b : List Nat} : ((⟨a.toArray⟩ : Str) = ⟨b.toArray⟩) = (a = b) := by
  apply propext
  constructor
  · intro h
    have e2 : a.toArray = b.toArray := congrArg Str.cps h
    have := congrArg Array.toList e2
    simpa using this
  · intro h
    rw [h]
theorem lstOf_rv {w : Wd} {v : V} {d : D} {ds : List D} (o : Ok K G w) (r : RV K w v d) (h : lstOf w.S d = some ds) : ∃ a vs, v = .ref a ∧ w.H a = some (.lst vs) ∧ RVs K w vs ds := by
  cases d with
  | lst xs =>
    cases h
    cases r with
    | lst h1 h2 h3 => exact ⟨_, _, rfl, h1, h3⟩
  | ref l =>
    dsimp only [lstOf] at h
    cases e : w.S.get l with
    | none =>
      rw [e] at h
      cases h
    | some u =>
      rw [e] at h
      cases u with
      | lst xs =>
        cases h
        cases r with
        | ref h1 =>
          obtain ⟨a, q1, vs, q2, q3⟩ := o.obj l _ e
          rw [h1] at q1
          cases q1
          exact ⟨_, vs, rfl, q2, q3⟩
      | _ => cases h
  | _ => cases h
theorem seqOf_rv {w : Wd} {v : V} {d : D} {ds : List D} (o : Ok K G w) (r : RV K w v d) (h : seqOf w.S d = some ds) : ∃ a vs, v = .ref a ∧ (SqL K w.H a vs ∨ SqT K w.H a vs) ∧ RVs K w vs ds := by
  cases d with
  | tup xs =>
    cases h
    cases r with
    | tup h1 h2 h3 => exact ⟨_, _, rfl, .inr (SqT.of h1), h3⟩
  | _ =>
    obtain ⟨a, vs, h1, h2, h3⟩ := lstOf_rv o r h
    exact ⟨a, vs, h1, .inl (SqL.of h2), h3⟩
/-- + of ints, texts, tuples -/
def rAddAny (K : PySem.W.Frag) : R2 := fun x y H Q => rI0 (fun i j => .int (i + j)) x y H Q ∨ ((∃ i j, x = .str i ∧ y = .str j ∧ i.length + j.length ≤ sizeLine ∧ Q (.str (i ++ j)) H) ∨ rCatT K x y H Q)
theorem op_addAny {X : Cx} : OpR X (binaryOp .Add) (rAddAny X.K) := op_add.or (op_add_str.or op_catT)
theorem s2_add : S2 K G (rAddAny K) fAdd := fun w x y dx dy d S' o rx ry hh Q k => by
  unfold fAdd at hh
  split at hh
  · cases hh
    cases rx
    cases ry
    exact .inl ⟨_, _, rfl, rfl, Kd.now k o .int⟩
  · split at hh
    · rename_i hl
      cases hh
      cases rx
      cases ry
      refine .inr (.inl ⟨_, _, rfl, rfl, by rw [str_len, str_len]; exact hl, ?_⟩)
      rw [str_app]
      exact Kd.now k o .str
    · cases hh
  · split at hh
    · rename_i hl
      cases hh
      cases rx with
      | tup h1 h2 h3 =>
        cases ry with
        | tup g1 g2 g3 =>
          have l1 := h3.length
          have l2 := g3.length
          refine .inr (.inr ⟨_, _, _, _, rfl, rfl, SqT.of h1, SqT.of g1, ?_, by rw [l1, l2]; exact hl.2, ?_, ?_⟩)
          · intro z
            subst z
            cases h3
            exact absurd hl.1 (by simp)
          · intro z
            subst z
            cases g3
            rw [List.append_nil] at k
            exact Kd.now k o (.tup h1 h2 h3)
          · intro z p hp
            exact Kd.tup k o (h3.append g3) hp
    · cases hh
  · cases hh
theorem op_mul_str {X : Cx} : OpR X (binaryOp .Mult) (fun x y H Q => ∃ z n, x = .str z ∧ y = .int n ∧ (-1000000 ≤ n ∧ n ≤ 1000000 ∧ z.length * n.toNat ≤ 1000000) ∧ Q (.str ⟨((List.replicate n.toNat z.cps.toList).flatten).toArray⟩) H) := by
  intro pins s σ H x y v u Q I rx ry h
  obtain ⟨z, n, rfl, rfl, ⟨h1, h2, h3⟩, q⟩ := h
  obtain ⟨t, rfl⟩ := rx
  obtain ⟨t', rfl⟩ := ry
  have fold : ∀ (m : Nat) (a : Array Nat), (List.replicate m z.cps).foldl (· ++ ·) a = (a.toList ++ (List.replicate m z.cps.toList).flatten).toArray := by
    intro m
    induction m with
    | zero =>
      intro a
      simp
    | succ m ih =>
      intro a
      rw [List.replicate_succ, List.foldl_cons, ih, List.replicate_succ, List.flatten_cons]
      simp [List.append_assoc]
  have zl : z.cps.toList.length = z.length := by
    show z.cps.toList.length = z.cps.size
    simp
  have hz : z.length = 0 → z.cps.toList = [] := fun e => by
    apply List.length_eq_zero_iff.mp
    omega
  refine PySem.P.mul_str (by simp; omega) (fun a b => ?_) (fun a b => ?_) ?_
  · intro gt
    have hn : 1 ≤ n := by omega
    have e1 : (2 ^ 63 - 1 : Int) / n ≥ (2 ^ 63 - 1 : Int) / 1000000 := by
      have := Int.ediv_le_ediv (a := n * ((2 ^ 63 - 1 : Int) / 1000000)) (b := 2 ^ 63 - 1) (c := n) (by omega) (by
        have : n * ((2 ^ 63 - 1 : Int) / 1000000) ≤ 1000000 * ((2 ^ 63 - 1 : Int) / 1000000) := Int.mul_le_mul_of_nonneg_right h2 (by decide)
        have h5 : (1000000 : Int) * ((2 ^ 63 - 1 : Int) / 1000000) ≤ 2 ^ 63 - 1 := by decide
        omega)
      rw [Int.mul_ediv_cancel_left _ (by omega)] at this
      exact this
    have e2 : (z.length : Int) ≤ 1000000 := by
      have : 1 ≤ n.toNat := by omega
      have : z.length * 1 ≤ z.length * n.toNat := Nat.mul_le_mul_left _ this
      omega
    have e3 : ((2 ^ 63 - 1 : Int) / 1000000) > 1000000 := by decide
    omega
  · unfold Builtin.Str.tooLong
    rw [decide_eq_false]
    rw [sizeLine_eq]
    omega
  · have fin : ∀ (c : Str) (tk : Tok) (s' : Shared), (⟨((List.replicate n.toNat z.cps.toList).flatten).toArray⟩ : Str) = c → Inv X pins σ H s' → EP X pins σ Q (.str c tk) s' := fun c tk s' e I' => ⟨.str _, H, I', ⟨_, by rw [e]⟩, q⟩
    by_cases c1 : n < 1
    · rw [if_pos c1]
      have e0 : n.toNat = 0 := by omega
      refine ⟨by decide, fin _ _ _ ?_ (I.tok _)⟩
      rw [e0]
      rfl
    · rw [if_neg c1]
      by_cases c2 : (n == 1 || z.length == 0) = true
      · rw [if_pos c2]
        refine fin _ _ _ ?_ I
        simp only [Bool.or_eq_true, beq_iff_eq] at c2
        rcases c2 with c2 | c2
        · subst c2
          show (⟨((List.replicate 1 z.cps.toList).flatten).toArray⟩ : Str) = z
          simp
        · rw [hz c2]
          have : z = ⟨#[]⟩ := by
            obtain ⟨za⟩ := z
            have := hz c2
            simp at this
            rw [this]
          rw [this]
          simp
      · rw [if_neg c2]
        have e5 : (⟨((List.replicate n.toNat z.cps.toList).flatten).toArray⟩ : Str) = ⟨(List.replicate n.toNat z.cps).foldl (· ++ ·) #[]⟩ := by
          rw [fold]
          simp
        refine ⟨?_, fin _ _ _ e5 (I.tok _)⟩
        rw [← e5]
        show ((List.replicate n.toNat z.cps.toList).flatten).toArray.size ≤ sizeLine
        rw [List.size_toArray, List.length_flatten]
        simp
        rw [sizeLine_eq]
        have : n.toNat * z.length ≤ 1000000 := by rw [Nat.mul_comm]; exact h3
        have zz : z.cps.size = z.length := rfl
        rw [zz]
        omega
def rMulAny : R2 := fun x y H Q => rI CMul (fun i j => .int (i * j)) x y H Q ∨ (∃ z n, x = .str z ∧ y = .int n ∧ (-1000000 ≤ n ∧ n ≤ 1000000 ∧ z.length * n.toNat ≤ 1000000) ∧ Q (.str ⟨((List.replicate n.toNat z.cps.toList).flatten).toArray⟩) H)
theorem op_mulAny {X : Cx} : OpR X (binaryOp .Mult) rMulAny := op_mul.or op_mul_str
theorem s2_mul : S2 K G rMulAny fMul := fun w x y dx dy d S' o rx ry hh Q k => by
  unfold fMul at hh
  split at hh
  · split at hh
    · rename_i hl
      cases hh
      cases rx
      cases ry
      rename_i i j
      have hl2 : (-(2 ^ 64) < i ∧ i < 2 ^ 64) ∨ (-(2 ^ 64) < j ∧ j < 2 ^ 64) := of_decide_eq_true hl
      exact .inl ⟨_, _, rfl, rfl, hl2, Kd.now k o .int⟩
    · cases hh
  · split at hh
    · rename_i hl
      cases hh
      cases rx
      cases ry
      refine .inr ⟨_, _, rfl, rfl, by rw [str_len]; exact hl, ?_⟩
      exact Kd.now k o .str
    · cases hh
  · cases hh
theorem s2_sub : S2 K G (rI0 fun i j => .int (i - j)) fSub := fun w x y dx dy d S' o rx ry hh Q k => by
  unfold fSub at hh
  split at hh
  · cases hh
    cases rx
    cases ry
    exact ⟨_, _, rfl, rfl, Kd.now k o .int⟩
  · cases hh
theorem s2_div : S2 K G (rI CDiv fun i j => .int (i / j)) fDiv := fun w x y dx dy d S' o rx ry hh Q k => by
  unfold fDiv at hh
  split at hh
  · split at hh
    · rename_i hl
      cases hh
      cases rx
      cases ry
      exact ⟨_, _, rfl, rfl, hl, Kd.now k o .int⟩
    · cases hh
  · cases hh
theorem s2_mod : S2 K G (rI (fun _ j => 0 < j) fun i j => .int (i % j)) fMod := fun w x y dx dy d S' o rx ry hh Q k => by
  unfold fMod at hh
  split at hh
  · split at hh
    · rename_i hl
      cases hh
      cases rx
      cases ry
      exact ⟨_, _, rfl, rfl, hl, Kd.now k o .int⟩
    · cases hh
  · cases hh
theorem s2_pow : S2 K G (rI CPow fun i j => .int (i ^ j.toNat)) fPow := fun w x y dx dy d S' o rx ry hh Q k => by
  unfold fPow at hh
  split at hh
  · split at hh
    · rename_i hl
      cases hh
      cases rx
      cases ry
      exact ⟨_, _, rfl, rfl, ⟨hl.1, by omega, by omega⟩, Kd.now k o .int⟩
    · cases hh
  · cases hh
theorem s2_cmp {p : Int → Int → Bool} : S2 K G (rI0 fun i j => .bl (p i j)) (fCmp p) := fun w x y dx dy d S' o rx ry hh Q k => by
  unfold fCmp at hh
  split at hh
  · cases hh
    cases rx
    cases ry
    exact ⟨_, _, rfl, rfl, Kd.now k o .bl⟩
  · cases hh
mutual
theorem toPy_dp {w : Wd} : ∀ {d : D} {v : V} {p : PyData}, RV K w v d → toPy d = some p → Dp K w.H v p
  | .non, _, _, r, h => by cases r; cases h; exact .non
  | .bl b, _, _, r, h => by cases r; cases h; exact .bl b
  | .int i, _, _, r, h => by cases r; cases h; exact .int i
  | .str c, _, _, r, h => by
    cases r
    rw [toPy] at h
    cases h
    exact .str _
  | .tup ds, _, p, r, h => by
    cases r with
    | tup h1 h2 h3 =>
      rw [toPy] at h
      cases e : toPys ds with
      | none => rw [e] at h; cases h
      | some ps =>
        rw [e] at h
        cases h
        exact .tup (SqT.of h1) (toPys_dp h3 e)
  | .lst ds, _, p, r, h => by
    cases r with
    | lst h1 h2 h3 =>
      rw [toPy] at h
      cases e : toPys ds with
      | none => rw [e] at h; cases h
      | some ps =>
        rw [e] at h
        cases h
        exact .lst (SqL.of h1) (toPys_dp h3 e)
  | .ref _, _, _, _, h => by rw [toPy] at h; cases h
  | .raw _, _, _, _, h => by rw [toPy] at h; cases h
  | .scr _, _, _, _, h => by rw [toPy] at h; cases h
  | .exn _ _ _ _, _, _, _, h => by rw [toPy] at h; cases h
theorem toPys_dp {w : Wd} : ∀ {ds : List D} {vs : List V} {ps : List PyData}, RVs K w vs ds → toPys ds = some ps → DpAll K w.H vs ps
  | [], _, _, r, h => by cases r; rw [toPys] at h; cases h; exact .nil
  | d :: ds, _, ps, r, h => by
    cases r with
    | cons r1 r2 =>
      rw [toPys] at h
      cases e1 : toPy d with
      | none => rw [e1] at h; cases h
      | some p =>
        cases e2 : toPys ds with
        | none => rw [e1, e2] at h; cases h
        | some qs =>
          rw [e1, e2] at h
          cases h
          exact .cons (toPy_dp r1 e1) (toPys_dp r2 e2)
end
theorem toPyS_dp {w : Wd} {d : D} {v : V} {p : PyData} (o : Ok K G w) (r : RV K w v d) (h : toPyS w.S d = some p) : Dp K w.H v p := by
  cases d with
  | ref l =>
    dsimp only [toPyS] at h
    cases e : w.S.get l with
    | none => rw [e] at h; cases h
    | some u =>
      rw [e] at h
      cases u with
      | lst ds =>
        cases e2 : toPys ds with
        | none =>
          dsimp only at h
          rw [e2] at h
          cases h
        | some ps =>
          dsimp only at h
          rw [e2] at h
          cases h
          obtain ⟨a, vs, rfl, h1, h2⟩ := lstOf_rv (ds := ds) o r (by dsimp only [lstOf]; rw [e])
          exact .lst (SqL.of h1) (toPys_dp h2 e2)
      | _ => cases h
  | _ => exact toPy_dp r h
def rEqAny (K : PySem.W.Frag) : R2 := fun x y H Q => rEq x y H Q ∨ rEqD K x y H Q
def rNeAny (K : PySem.W.Frag) : R2 := fun x y H Q => rNe x y H Q ∨ rNeD K x y H Q
theorem op_eqAny {X : Cx} (hu : X.A.units + 64 < cLine) : OpR X (compareOp .Eq) (rEqAny X.K) := op_eq.or (op_eqD hu)
theorem op_neAny {X : Cx} (hu : X.A.units + 64 < cLine) : OpR X (compareOp .NotEq) (rNeAny X.K) := op_ne.or (op_neD hu)
theorem eqD_rv {w : Wd} {x y : V} {dx dy : D} {c : Bool} (o : Ok K G w) (rx : RV K w x dx) (ry : RV K w y dy) (h : eqD w.S dx dy = some c) :
    (scal x y = true ∧ decide (x = y) = c) ∨ ∃ p q, Dp K w.H x p ∧ Dp K w.H y q ∧ SeqAt.shaped p = true ∧ SeqAt.shaped q = true ∧ PyData.eqv p q = c := by
  unfold eqD at h
  split at h
  · cases h; cases rx; cases ry
    exact .inl ⟨rfl, by simp⟩
  · cases h; cases rx; cases ry
    refine .inl ⟨rfl, ?_⟩
    simp [str_eq]
  · cases h; cases rx; cases ry
    exact .inl ⟨rfl, by simp⟩
  · cases h; cases rx; cases ry
    exact .inl ⟨rfl, by simp⟩
  · cases h; cases rx; cases ry
    exact .inl ⟨rfl, by simp⟩
  · cases h; cases rx; cases ry
    exact .inl ⟨rfl, by simp⟩
  · right
    cases e1 : toPyS w.S dx with
    | none => rw [e1] at h; cases h
    | some p =>
      cases e2 : toPyS w.S dy with
      | none => rw [e1, e2] at h; cases h
      | some q =>
        rw [e1, e2] at h
        dsimp only [eqPy] at h
        split at h
        · rename_i hs
          cases h
          exact ⟨p, q, toPyS_dp o rx e1, toPyS_dp o ry e2, hs.1, hs.2, rfl⟩
        · cases h
theorem s2_eq : S2 K G (rEqAny K) fEq := fun w x y dx dy d S' o rx ry hh Q k => by
  unfold fEq at hh
  cases e : eqD w.S dx dy with
  | none => rw [e] at hh; cases hh
  | some c =>
    rw [e] at hh
    cases hh
    rcases eqD_rv o rx ry e with ⟨h1, h2⟩ | ⟨p, q, h1, h2, h3, h4, h5⟩
    · refine .inl ⟨h1, ?_⟩
      rw [h2]
      exact Kd.now k o .bl
    · refine .inr ⟨p, q, h1, h2, h3, h4, ?_⟩
      rw [h5]
      exact Kd.now k o .bl
theorem s2_ne : S2 K G (rNeAny K) fNe := fun w x y dx dy d S' o rx ry hh Q k => by
  unfold fNe at hh
  cases e : eqD w.S dx dy with
  | none => rw [e] at hh; cases hh
  | some c =>
    rw [e] at hh
    cases hh
    rcases eqD_rv o rx ry e with ⟨h1, h2⟩ | ⟨p, q, h1, h2, h3, h4, h5⟩
    · refine .inl ⟨h1, ?_⟩
      rw [h2]
      exact Kd.now k o .bl
    · refine .inr ⟨p, q, h1, h2, h3, h4, ?_⟩
      rw [h5]
      exact Kd.now k o .bl
theorem s2_notInS : S2 K G (fun x y H Q => ∃ (c : Nat) (z : Str), x = .str ⟨#[c]⟩ ∧ y = .str z ∧ Q (.bl (!decide (c ∈ z.cps.toList))) H) fNotInS := fun w x y dx dy d S' o rx ry hh Q k => by
  unfold fNotInS at hh
  split at hh
  · cases hh; cases rx; cases ry
    refine ⟨_, _, rfl, rfl, ?_⟩
    have e : ∀ (c : Nat) (z : List Nat), decide (c ∈ (⟨z.toArray⟩ : Str).cps.toList) = decide (c ∈ z) := fun c z => by simp
    rw [e]
    exact Kd.now k o .bl
  · cases hh
theorem flatD_rv {w : Wd} {d : D} {v u : V} (r : RV K w v d) (h : flatD d = some u) : v = u ∧ flatV u = true := by
  cases d with
  | non => cases r; cases h; exact ⟨rfl, rfl⟩
  | int i => cases r; cases h; exact ⟨rfl, rfl⟩
  | str i => cases r; cases h; exact ⟨rfl, rfl⟩
  | bl i => cases r; cases h; exact ⟨rfl, rfl⟩
  | _ => cases h
theorem flatDs_rv {w : Wd} : ∀ {ds : List D} {vs us : List V}, RVs K w vs ds → flatDs ds = some us → vs = us ∧ us.all flatV = true
  | [], _, _, r, h => by cases r; cases h; exact ⟨rfl, rfl⟩
  | d :: ds, _, us, r, h => by
    cases r with
    | cons r1 r2 =>
      rw [flatDs] at h
      cases e1 : flatD d with
      | none => rw [e1] at h; cases h
      | some p =>
        cases e2 : flatDs ds with
        | none => rw [e1, e2] at h; cases h
        | some qs =>
          rw [e1, e2] at h
          cases h
          obtain ⟨h1, h2⟩ := flatD_rv r1 e1
          obtain ⟨h3, h4⟩ := flatDs_rv r2 e2
          exact ⟨by rw [h1, h3], by rw [List.all_cons, h2, h4]; rfl⟩
theorem s2_in {neg : Bool} : S2 K G (rIn K neg) (fIn neg) := fun w x y dx dy d S' o rx ry hh Q k => by
  obtain ⟨u, h1, h2⟩ := bnd hh
  obtain ⟨ds, h3, h4⟩ := bnd h2
  obtain ⟨us, h5, h6⟩ := bnd h4
  cases h6
  obtain ⟨q1, q2⟩ := flatD_rv rx h1
  obtain ⟨a, vs, q3, q4, q5⟩ := seqOf_rv o ry h3
  obtain ⟨q6, q7⟩ := flatDs_rv q5 h5
  subst q1 q3 q6
  exact ⟨a, vs, rfl, q4, q2, q7, Kd.now k o .bl⟩
theorem atI_rv {w : Wd} {vs : List V} {ds : List D} {i : Int} {d : D} (r : RVs K w vs ds) (h : atI ds i = some d) : ∃ v, atI vs i = some v ∧ RV K w v d := by
  unfold atI at h ⊢
  rw [r.length]
  obtain ⟨j, h1, h2⟩ := bnd h
  obtain ⟨v, h3, h4⟩ := r.get h2
  exact ⟨v, by rw [h1]; exact h3, h4⟩
theorem s2_ix : S2 K G (rIx K) fIx := fun w x y dx dy d S' o rx ry hh Q k => by
  unfold fIx at hh
  split at hh
  · rename_i i
    cases ry
    split at hh
    · split at hh
      · rename_i z hz
        cases rx
        cases e : atI z i with
        | none => rw [e] at hh; cases hh
        | some c =>
          rw [e] at hh
          cases hh
          refine .inr (.inr ⟨_, i, c, rfl, rfl, by rw [str_len]; exact hz, by simpa using e, ?_⟩)
          exact k _ w rfl (Fr.refl w) o .str
      · cases hh
    · obtain ⟨ds, h1, h2⟩ := bnd hh
      cases e : atI ds i with
      | none => rw [e] at h2; cases h2
      | some c =>
        rw [e] at h2
        cases h2
        obtain ⟨a, vs, q3, q4, q5⟩ := seqOf_rv o rx h1
        obtain ⟨v, q6, q7⟩ := atI_rv q5 e
        subst q3
        rcases q4 with q4 | q4
        · exact .inl ⟨a, vs, i, v, rfl, rfl, q4, q6, Kd.now k o q7⟩
        · exact .inr (.inl ⟨a, vs, i, v, rfl, rfl, q4, q6, Kd.now k o q7⟩)
  · cases hh
/-- lists put together; a list so many times -/
theorem s2f_cat : S2f K G rCat fCat := fun w x y dx dy d S' o rx ry hh Q k => by
  obtain ⟨xs, h1, h2⟩ := bnd hh
  obtain ⟨ys, h3, h4⟩ := bnd h2
  split at h4
  · rename_i hl
    cases h4
    obtain ⟨a, vs, rfl, q1, q2⟩ := lstOf_rv o rx h1
    obtain ⟨b, us, rfl, q3, q4⟩ := lstOf_rv o ry h3
    exact ⟨a, b, vs, us, rfl, rfl, q1, q3, by rw [q2.length, q4.length]; exact hl, fun p hp => Kf.new k o (q2.append q4) hp⟩
  · cases h4
theorem RVs.rep {w : Wd} {vs : List V} {ds : List D} (r : RVs K w vs ds) : ∀ n, RVs K w (List.replicate n vs).flatten (List.replicate n ds).flatten
  | 0 => .nil
  | n + 1 => by
    rw [List.replicate_succ, List.flatten_cons, List.replicate_succ, List.flatten_cons]
    exact r.append (RVs.rep r n)
theorem s2f_rep : S2f K G rRep fRep := fun w x y dx dy d S' o rx ry hh Q k => by
  unfold fRep at hh
  split at hh
  · obtain ⟨xs, h1, h2⟩ := bnd hh
    split at h2
    · rename_i hl
      cases h2
      cases ry
      obtain ⟨a, vs, rfl, q1, q2⟩ := lstOf_rv o rx h1
      exact ⟨a, _, vs, rfl, rfl, q1, by omega, by omega, by rw [q2.length]; exact hl.2.2, fun p hp => Kf.new k o (q2.rep _) hp⟩
    · cases h2
  · cases hh
end
end AH
set_option maxRecDepth 100000
set_option maxHeartbeats 2000000
namespace AH
open PySem L2 TL
abbrev EvO := Rho → Sto → Option (Option Int × Sto)
def oNone : EvO := fun _ S => some (none, S)
def oSome (a : Ev) : EvO := fun ρ S => (a ρ S).bind fun x => match x.1 with
  | .int i => some (some i, x.2)
  | _ => none
def cutL {α : Type} (xs : List α) (lo hi : Option Int) : List α := (xs.drop (HT.sIx xs.length 0 lo)).take (HT.sIx xs.length xs.length hi - HT.sIx xs.length 0 lo)
/-- slices of texts and tuples; of lists -/
def fSl (d : D) (lo hi : Option Int) (S : Sto) : Option (D × Sto) := match d with
  | .str z => if z.length ≤ sizeLine then some (.str (cutL z lo hi), S) else none
  | .tup ds => if HT.sIx ds.length 0 lo = 0 ∧ HT.sIx ds.length ds.length hi = ds.length then none else some (.tup (cutL ds lo hi), S)
  | _ => none
def fSlL (d : D) (lo hi : Option Int) (S : Sto) : Option (List D × Sto) := (lstOf S d).map fun ds => (cutL ds lo hi, S)
def e3 {α : Type} (f : D → Option Int → Option Int → Sto → Option (α × Sto)) (a : Ev) (b c : EvO) : Rho → Sto → Option (α × Sto) := fun ρ S => (a ρ S).bind fun x => (b ρ x.2).bind fun y => (c ρ y.2).bind fun z => f x.1 y.1 z.1 z.2
def fLen (ds : List D) (S : Sto) : Option (D × Sto) := match ds with
  | [.str z] => if z.length ≤ sizeLine then some (.int z.length, S) else none
  | [.scr ns] => some (.int ns.length, S)
  | [d] => (seqOf S d).map fun ds => (.int ds.length, S)
  | _ => none
def fStr (ds : List D) (S : Sto) : Option (D × Sto) := match ds with
  | [.int n] => if 0 ≤ n ∧ n < 10 ^ 30 then some (.str (numL n.toNat), S) else none
  | [.str z] => some (.str z, S)
  | _ => none
def fInt (ds : List D) (S : Sto) : Option (D × Sto) := match ds with
  | [.int n] => some (.int n, S)
  | [.bl b] => some (.int (if b then 1 else 0), S)
  | _ => none
def decV (l : List Nat) : Nat := l.foldl (fun acc c => acc * 10 + (c - 48)) 0
def allDig (l : List Nat) : Bool := l.all fun c => decide (48 ≤ c ∧ c ≤ 57)
def fIntS (ds : List D) (S : Sto) : Option (D × Sto) := match ds with
  | [.str z] => if allDig z = true ∧ z ≠ [] ∧ z.length ≤ 600 then some (.int (decV z), S) else none
  | _ => none
def fListOf (ds : List D) (S : Sto) : Option (List D × Sto) := match ds with
  | [.scr ns] => some (ns.map D.int, S)
  | [d] => (seqOf S d).map fun ds => (ds, S)
  | _ => none
def fTupOf (ds : List D) (S : Sto) : Option (D × Sto) := match ds with
  | [.tup ds] => some (.tup ds, S)
  | [d] => (lstOf S d).map fun ds => (.tup ds, S)
  | _ => none
def fMax2 (ds : List D) (S : Sto) : Option (D × Sto) := match ds with
  | [.int i, .int j] => some (.int (if j > i then j else i), S)
  | _ => none
def fMin2 (ds : List D) (S : Sto) : Option (D × Sto) := match ds with
  | [.int i, .int j] => some (.int (if j < i then j else i), S)
  | _ => none
/-- isinstance(x, a built-in type) -/
def tyName (S : Sto) : D → Option String
  | .non => some "NoneType"
  | .bl _ => some "bool"
  | .int _ => some "int"
  | .str _ => some "str"
  | .tup _ => some "tuple"
  | .lst _ => some "list"
  | .ref l => match S.get l with
    | some (.lst _) => some "list"
    | some (.dic _ _) => some "dict"
    | some (.dit false _) => some "dict"
    | _ => none
  | _ => none
def isT (T : String) (n : String) : Bool := n == T || (n == "bool" && T == "int")
def okT (T : String) : Bool := T == "int" || T == "bool" || T == "str" || T == "list" || T == "tuple"
def fIsT (ds : List D) (S : Sto) : Option (D × Sto) := match ds with
  | [d, .raw (.ty T)] => if okT T = true then (tyName S d).map fun n => (.bl (isT T n), S) else none
  | _ => none
section
variable {K : PySem.W.Frag} {G : Gx}
def SOo (K : PySem.W.Frag) (G : Gx) (to : TO) (ev : EvO) : Prop := ∀ w σ ρ b S', Ok K G w → RS K w σ ρ → ev ρ w.S = some (b, S') → ∀ Q : Option Int → Hp → Prop, (∀ w', w'.S = S' → Fr w w' → Ok K G w' → Q b w'.H) → to σ w.H Q
theorem so_none : SOo K G tNoPart oNone := fun w σ ρ b S' o rs h Q k => by
  cases h
  exact k w rfl (Fr.refl w) o
theorem so_some {te : TE} {ea : Ev} (h : SE K G te ea) : SOo K G (tPart te) (oSome ea) := fun w σ ρ b S' o rs hh Q k => by
  obtain ⟨⟨d, S1⟩, h1, h2⟩ := bnd hh
  cases d with
  | int i =>
    cases h2
    exact h w σ ρ _ _ o rs h1 _ fun v w1 e1 f1 o1 r1 => ⟨i, by cases r1; rfl, k w1 e1 f1 o1⟩
  | _ => cases h2
def S3 (K : PySem.W.Frag) (G : Gx) (r : V → Option Int → Option Int → Hp → VK → Prop) (f : D → Option Int → Option Int → Sto → Option (D × Sto)) : Prop := ∀ w x dx lo hi d S', Ok K G w → RV K w x dx → f dx lo hi w.S = some (d, S') → ∀ Q, Kd K G w d S' Q → r x lo hi w.H Q
def S3f (K : PySem.W.Frag) (G : Gx) (r : V → Option Int → Option Int → Hp → VK → Prop) (f : D → Option Int → Option Int → Sto → Option (List D × Sto)) : Prop := ∀ w x dx lo hi d S', Ok K G w → RV K w x dx → f dx lo hi w.S = some (d, S') → ∀ Q, Kf K G w d S' Q → r x lo hi w.H Q
theorem se_3 {α : Type} {te : TE} {ea : Ev} {tl th : TO} {el eh : EvO} {f : D → Option Int → Option Int → Sto → Option (α × Sto)} (ha : SE K G te ea) (hl : SOo K G tl el) (hh : SOo K G th eh) {w : Wd} {σ : St} {ρ : Rho} {z : α} {S' : Sto} (o : Ok K G w) (r : RS K w σ ρ)
    (h : e3 f ea el eh ρ w.S = some (z, S')) {R : V → Option Int → Option Int → Hp → Prop} (k : ∀ x dx lo hi w', Fr w w' → Ok K G w' → RV K w' x dx → f dx lo hi w'.S = some (z, S') → R x lo hi w'.H) :
    te σ w.H fun x H1 => tl σ H1 fun l H2 => th σ H2 fun u H3 => R x l u H3 := by
  obtain ⟨⟨dx, S1⟩, h1, h2⟩ := bnd h
  obtain ⟨⟨lo, S2⟩, h3, h4⟩ := bnd h2
  obtain ⟨⟨hi, S3⟩, h5, h6⟩ := bnd h4
  refine ha w σ ρ dx S1 o r h1 _ fun x w1 e1 f1 o1 r1 => ?_
  subst e1
  refine hl w1 σ ρ lo S2 o1 (r.fr o f1) h3 _ fun w2 e2 f2 o2 => ?_
  subst e2
  refine hh w2 σ ρ hi S3 o2 (r.fr o (f1.trans f2)) h5 _ fun w3 e3 f3 o3 => ?_
  subst e3
  exact k x dx lo hi w3 ((f1.trans f2).trans f3) o3 (r1.mono (f2.trans f3).mv) h6
theorem se_sl {te : TE} {ea : Ev} {tl th : TO} {el eh : EvO} {r : V → Option Int → Option Int → Hp → VK → Prop} {f : D → Option Int → Option Int → Sto → Option (D × Sto)} (hr : S3 K G r f) (ha : SE K G te ea) (hl : SOo K G tl el) (hh : SOo K G th eh) :
    SE K G (tSl r te tl th) (e3 f ea el eh) := fun w σ ρ d S' o rs h Q k => se_3 ha hl hh o rs h fun x dx lo hi w' f' o' rx q => hr w' x dx lo hi d S' o' rx q Q (Kd.from k f')
theorem sf_sl {te : TE} {ea : Ev} {tl th : TO} {el eh : EvO} {r : V → Option Int → Option Int → Hp → VK → Prop} {f : D → Option Int → Option Int → Sto → Option (List D × Sto)} (hr : S3f K G r f) (ha : SE K G te ea) (hl : SOo K G tl el) (hh : SOo K G th eh) :
    SF K G (tSl r te tl th) (e3 f ea el eh) := fun w σ ρ d S' o rs h Q k => se_3 ha hl hh o rs h fun x dx lo hi w' f' o' rx q => hr w' x dx lo hi d S' o' rx q Q (Kf.from k f' o')
def rSlAny (K : PySem.W.Frag) : V → Option Int → Option Int → Hp → VK → Prop := fun x lo hi H Q => rSlS x lo hi H Q ∨ rSlT K x lo hi H Q
theorem sl_any {X : Cx} : SlR X (rSlAny X.K) := sl_str.or sl_tup
theorem RVs.cut {w : Wd} {vs : List V} {ds : List D} (r : RVs K w vs ds) (lo hi : Option Int) : RVs K w (cutV vs lo hi) (cutL ds lo hi) := by
  unfold cutV cutL
  rw [r.length]
  exact (r.drop _).take _
theorem s3_sl : S3 K G (rSlAny K) fSl := fun w x dx lo hi d S' o rx hh Q k => by
  unfold fSl at hh
  split at hh
  · split at hh
    · rename_i z hz
      cases hh
      cases rx
      refine .inl ⟨_, rfl, by rw [str_len]; exact hz, ?_⟩
      have e : cutS ⟨z.toArray⟩ lo hi = ⟨(cutL z lo hi).toArray⟩ := by
        unfold cutS cutL
        rw [str_len]
      rw [e]
      exact Kd.now k o .str
    · cases hh
  · split at hh
    · cases hh
    · rename_i ds hn
      cases hh
      cases rx with
      | tup h1 h2 h3 =>
        refine .inr ⟨_, _, rfl, SqT.of h1, by rw [h3.length]; exact hn, fun p hp => ?_⟩
        exact Kd.tup k o (h3.cut lo hi) hp
  · cases hh
theorem s3f_sl : S3f K G (rSlL K) fSlL := fun w x dx lo hi d S' o rx hh Q k => by
  unfold fSlL at hh
  cases e : lstOf w.S dx with
  | none => rw [e] at hh; cases hh
  | some ds =>
    rw [e] at hh
    cases hh
    obtain ⟨a, vs, rfl, q1, q2⟩ := lstOf_rv o rx e
    exact ⟨a, vs, rfl, SqL.of q1, fun p hp => Kf.new k o (q2.cut lo hi) hp⟩
theorem RVs.one_of {w : Wd} {xs : List V} {d : D} (r : RVs K w xs [d]) : ∃ v, xs = [v] ∧ RV K w v d := by
  cases r with
  | cons r1 r2 =>
    cases r2
    exact ⟨_, rfl, r1⟩
theorem RVs.two_of {w : Wd} {xs : List V} {d e : D} (r : RVs K w xs [d, e]) : ∃ v u, xs = [v, u] ∧ RV K w v d ∧ RV K w u e := by
  cases r with
  | cons r1 r2 =>
    obtain ⟨u, rfl, r3⟩ := r2.one_of
    exact ⟨_, u, rfl, r1, r3⟩
def rLenAny (K : PySem.W.Frag) : List V → Hp → VK → Prop := fun xs H Q => ∃ x n, xs = [x] ∧ LenV K x H n ∧ Q (.int n) H
theorem scr_sql {w : Wd} {v : V} {ns : List Int} (r : RV K w v (.scr ns)) : ∃ a, v = .ref a ∧ SqL K w.H a (ns.map V.int) := by
  cases r with
  | scr h =>
    refine ⟨_, rfl, ?_⟩
    rcases h with ⟨o, h, _⟩ | h
    · exact .inl (.inr ⟨o, h⟩)
    · exact .inr h
  | scl h k => exact ⟨_, rfl, .inl (.inl h)⟩
theorem sn_len : SN K G (rLenAny K) fLen := fun w xs ds d S' o r hh Q k => by
  unfold fLen at hh
  split at hh
  · split at hh
    · rename_i z hz
      cases hh
      obtain ⟨v, rfl, r1⟩ := r.one_of
      cases r1
      refine ⟨_, z.length, rfl, (show (⟨z.toArray⟩ : Str).length ≤ sizeLine ∧ z.length = (⟨z.toArray⟩ : Str).length from ⟨by rw [str_len]; exact hz, (str_len z).symm⟩), Kd.now k o .int⟩
    · cases hh
  · rename_i ns
    cases hh
    obtain ⟨v, rfl, r1⟩ := r.one_of
    obtain ⟨a, rfl, h⟩ := scr_sql r1
    exact ⟨_, ns.length, rfl, .inl ⟨_, h, by simp⟩, Kd.now k o .int⟩
  · rename_i d' _ _
    obtain ⟨v, rfl, r1⟩ := r.one_of
    cases e : seqOf w.S d' with
    | none => rw [e] at hh; cases hh
    | some ds' =>
      rw [e] at hh
      cases hh
      obtain ⟨a, vs, rfl, q1, q2⟩ := seqOf_rv o r1 e
      refine ⟨_, ds'.length, rfl, ?_, Kd.now k o .int⟩
      rcases q1 with q1 | q1
      · exact .inl ⟨_, q1, q2.length.symm⟩
      · exact .inr ⟨_, q1, q2.length.symm⟩
  · cases hh
theorem int_nat {n : Int} (h : 0 ≤ n) : ∃ m : Nat, n = (m : Int) := ⟨n.toNat, by omega⟩
theorem str_num (m : Nat) : (Str.ofString (toString ((m : Nat) : Int))) = ⟨(numL m).toArray⟩ := by
  have h := tl_num m
  have e : (Str.ofString (toString ((m : Nat) : Int))).cps.toList = numL m := h
  rw [← e]
def rStrAny : List V → Hp → VK → Prop := fun xs H Q => (∃ i, xs = [.int i] ∧ i.natAbs.log2 < 1920 ∧ Q (.str (toString i)) H) ∨ ∃ a, xs = [.str a] ∧ Q (.str a) H
theorem call_strAny {X : Cx} : CallR X (.type "str") rStrAny := call_str_int.or SkE.call_str_str
theorem sn_str : SN K G rStrAny fStr := fun w xs ds d S' o r hh Q k => by
  unfold fStr at hh
  split at hh
  · split at hh
    · rename_i n hn
      cases hh
      obtain ⟨v, rfl, r1⟩ := r.one_of
      cases r1
      obtain ⟨m, rfl⟩ := int_nat hn.1
      refine .inl ⟨_, rfl, ?_, ?_⟩
      · show m.log2 < 1920
        by_cases h0 : m = 0
        · subst h0
          decide
        · rw [Nat.log2_lt h0]
          have h1 : (m : Int) < 10 ^ 30 := hn.2
          have h2 : m < 10 ^ 30 := by
            have e : ((10 : Int) ^ 30) = ((10 ^ 30 : Nat) : Int) := by norm_cast
            rw [e] at h1
            exact Int.ofNat_lt.mp h1
          exact Nat.lt_of_lt_of_le h2 (by decide +kernel)
      · have e := str_num m
        show Q (.str (Str.ofString (toString ((m : Nat) : Int)))) w.H
        rw [e]
        exact Kd.now k o .str
    · cases hh
  · cases hh
    obtain ⟨v, rfl, r1⟩ := r.one_of
    cases r1
    exact .inr ⟨_, rfl, Kd.now k o .str⟩
  · cases hh
theorem sn_int : SN K G (fun xs H Q => (∃ i, xs = [.int i] ∧ Q (.int i) H) ∨ ∃ k, xs = [.bl k] ∧ Q (.int (if k then 1 else 0)) H) fInt := fun w xs ds d S' o r hh Q k => by
  unfold fInt at hh
  split at hh
  · cases hh
    obtain ⟨v, rfl, r1⟩ := r.one_of
    cases r1
    exact .inl ⟨_, rfl, Kd.now k o .int⟩
  · cases hh
    obtain ⟨v, rfl, r1⟩ := r.one_of
    cases r1
    exact .inr ⟨_, rfl, Kd.now k o .int⟩
  · cases hh
theorem sn_intS : SN K G (fun xs H Q => ∃ a n, xs = [.str a] ∧ PySem.intText? a = some n ∧ a.length ≤ 640 ∧ Q (.int n) H) fIntS := fun w xs ds d S' o r hh Q k => by
  unfold fIntS at hh
  split at hh
  · split at hh
    · rename_i z hz
      cases hh
      obtain ⟨v, rfl, r1⟩ := r.one_of
      cases r1
      obtain ⟨h1, h2, h3⟩ := hz
      have hd : NumText.AllDigits (⟨z.toArray⟩ : Str).cps.toList := fun c hc => by
        have hc' : c ∈ z := by simpa using hc
        exact of_decide_eq_true (List.all_eq_true.mp h1 c hc')
      have e := PySem.intText_digits hd (by simpa using h2) (by rw [str_len]; omega)
      have e2 : (⟨z.toArray⟩ : Str).cps.toList = z := by simp
      rw [e2] at e
      exact ⟨_, _, rfl, e, by rw [str_len]; omega, Kd.now k o .int⟩
    · cases hh
  · cases hh
def rListOfR (K : PySem.W.Frag) : List V → Hp → VK → Prop := fun xs H Q => ∃ p ys, xs = [.ref p] ∧ (SqL K H p ys ∨ SqT K H p ys) ∧ ∀ l, H l = none → Q (.ref l) (upd H l (.lst ys))
theorem snf_listOf : SNf K G (rListOfR K) fListOf := fun w xs ds d S' o r hh Q k => by
  unfold fListOf at hh
  split at hh
  · rename_i ns
    cases hh
    obtain ⟨v, rfl, r1⟩ := r.one_of
    obtain ⟨a, rfl, h⟩ := scr_sql r1
    exact ⟨_, _, rfl, .inl h, fun l hl => Kf.new k o (RVs.of_ints ns) hl⟩
  · rename_i d' _
    obtain ⟨v, rfl, r1⟩ := r.one_of
    cases e : seqOf w.S d' with
    | none => rw [e] at hh; cases hh
    | some ds' =>
      rw [e] at hh
      cases hh
      obtain ⟨a, vs, rfl, q1, q2⟩ := seqOf_rv o r1 e
      exact ⟨_, _, rfl, q1, fun l hl => Kf.new k o q2 hl⟩
  · cases hh
def rTupOfR (K : PySem.W.Frag) : List V → Hp → VK → Prop := fun xs H Q => ∃ p ys, xs = [.ref p] ∧ ((SqL K H p ys ∧ ∀ l, H l = none → Q (.ref l) (upd H l (.tup ys))) ∨ (SqT K H p ys ∧ Q (.ref p) H))
theorem sn_tupOf : SN K G (rTupOfR K) fTupOf := fun w xs ds d S' o r hh Q k => by
  unfold fTupOf at hh
  split at hh
  · cases hh
    obtain ⟨v, rfl, r1⟩ := r.one_of
    cases r1 with
    | tup h1 h2 h3 => exact ⟨_, _, rfl, .inr ⟨SqT.of h1, Kd.now k o (.tup h1 h2 h3)⟩⟩
  · rename_i d' _
    obtain ⟨v, rfl, r1⟩ := r.one_of
    cases e : lstOf w.S d' with
    | none => rw [e] at hh; cases hh
    | some ds' =>
      rw [e] at hh
      cases hh
      obtain ⟨a, vs, rfl, q1, q2⟩ := lstOf_rv o r1 e
      exact ⟨_, _, rfl, .inl ⟨SqL.of q1, fun l hl => Kd.tup k o q2 hl⟩⟩
  · cases hh
theorem ty_kit {T n : String} (hT : okT T = true) (hn : n = "NoneType" ∨ n = "bool" ∨ n = "int" ∨ n = "str" ∨ n = "tuple" ∨ n = "list" ∨ n = "dict") : PySem.W.kitOne K (.type n) (.type T) = some (isT T n) := by
  apply kit_ty
  have hT' : T = "int" ∨ T = "bool" ∨ T = "str" ∨ T = "list" ∨ T = "tuple" := by
    unfold okT at hT
    simp only [Bool.or_eq_true, beq_iff_eq] at hT
    rcases hT with (((h | h) | h) | h) | h <;> simp [h]
  rcases hT' with rfl | rfl | rfl | rfl | rfl <;> rcases hn with rfl | rfl | rfl | rfl | rfl | rfl | rfl <;> decide +kernel
theorem tyName_rv {w : Wd} {v : V} {d : D} {n : String} (o : Ok K G w) (r : RV K w v d) (h : tyName w.S d = some n) : TyX K w.H v (.type n) ∧ (n = "NoneType" ∨ n = "bool" ∨ n = "int" ∨ n = "str" ∨ n = "tuple" ∨ n = "list" ∨ n = "dict") := by
  cases d with
  | non => cases r; cases h; exact ⟨.base .non, by simp⟩
  | bl b => cases r; cases h; exact ⟨.base (.bl b), by simp⟩
  | int b => cases r; cases h; exact ⟨.base (.int b), by simp⟩
  | str b => cases r; cases h; exact ⟨.base (.str _), by simp⟩
  | tup b => cases r with
    | tup h1 h2 h3 => cases h; exact ⟨.base (.tup h1), by simp⟩
  | lst b => cases r with
    | lst h1 h2 h3 => cases h; exact ⟨.base (.lst h1), by simp⟩
  | ref l =>
    dsimp only [tyName] at h
    cases e : w.S.get l with
    | none => rw [e] at h; cases h
    | some u =>
      rw [e] at h
      obtain ⟨a, h1, h2⟩ := o.obj l u e
      cases r with
      | ref h3 =>
        rw [h1] at h3
        cases h3
        cases u with
        | lst ds =>
          cases h
          obtain ⟨vs, q, _⟩ := h2
          exact ⟨.base (.lst q), by simp⟩
        | dic lk kvs =>
          cases h
          refine ⟨?_, by simp⟩
          cases lk with
          | false => obtain ⟨vs, q, _⟩ := h2; exact .base (.dK q)
          | true => obtain ⟨vs, ⟨od, q⟩, _⟩ := h2; exact .fDict q
        | dit lk kvs =>
          cases lk with
          | false =>
            cases h
            refine ⟨?_, by simp⟩
            obtain ⟨vs, q, _⟩ := h2
            exact .base (.dT q)
          | true => cases h
        | _ => cases h
  | _ => cases h
theorem sn_isT : SN K G (rIsi K) fIsT := fun w xs ds d S' o r hh Q k => by
  unfold fIsT at hh
  split at hh
  · split at hh
    · rename_i d' T hT
      obtain ⟨v, u, rfl, r1, r2⟩ := r.two_of
      cases e : tyName w.S d' with
      | none => rw [e] at hh; cases hh
      | some n =>
        rw [e] at hh
        cases hh
        obtain ⟨q1, q2⟩ := tyName_rv o r1 e
        cases r2
        exact ⟨v, _, _, _, _, rfl, .ty T, q1, ty_kit hT q2, Kd.now k o .bl⟩
    · cases hh
  · cases hh
end
end AH
set_option maxRecDepth 100000
set_option maxHeartbeats 2000000
namespace AH
open PySem L2 TL
def splitC (c : Nat) : List Nat → List (List Nat)
  | [] => [[]]
  | x :: xs => if x = c then [] :: splitC c xs else match splitC c xs with
    | [] => [[x]]
    | p :: ps => (x :: p) :: ps
theorem splitC_ne (c : Nat) : ∀ l, splitC c l ≠ []
  | [] => by simp [splitC]
  | x :: xs => by
    unfold splitC
    split
    · simp
    · split <;> simp
theorem pre_hit (c : Nat) (r : List Nat) : pre [c] (c :: r) = true := by simp [pre]
theorem spl_split (c : Nat) : ∀ (l acc : List Nat), spl [c] 0 acc l = match splitC c l with
    | [] => [acc]
    | p :: ps => (acc ++ p) :: ps
  | [], acc => by
    rw [spl_nil]
    simp [splitC]
  | x :: xs, acc => by
    by_cases h : x = c
    · subst h
      rw [spl_hit (pre_hit x xs)]
      have e := spl_split x xs []
      show acc :: spl [x] 0 [] xs = _
      rw [e]
      have e2 : splitC x (x :: xs) = [] :: splitC x xs := by rw [splitC, if_pos rfl]
      rw [e2]
      cases q : splitC x xs with
      | nil => exact absurd q (splitC_ne x xs)
      | cons p ps => simp
    · rw [spl_miss (pre_of_head [] xs h), spl_split c xs]
      conv => rhs; unfold splitC
      rw [if_neg h]
      cases q : splitC c xs with
      | nil => exact absurd q (splitC_ne c xs)
      | cons p ps => simp
theorem split_is {z : List Nat} {c : Nat} (h : c < 256) : Txt.split ⟨z.toArray⟩ ⟨#[c]⟩ = (splitC c z).map fun p => (⟨p.toArray⟩ : Str) := by
  apply map_tl_inj
  rw [split_spl _ _ (by simp [tl]) (kind_ok (by simp; exact h))]
  show spl [c] 0 [] z = _
  rw [spl_split]
  cases q : splitC c z with
  | nil => exact absurd q (splitC_ne c z)
  | cons p ps =>
    rw [List.map_map]
    simp [Function.comp_def, tl]
def fSplit (a : D) (bs : List D) (S : Sto) : Option (List D × Sto) := match a, bs with
  | .str z, [.str [c]] => if c < 256 ∧ z.length + 2 ≤ sizeLine then some ((splitC c z).map D.str, S) else none
  | _, _ => none
def strsOf : List D → Option (List (List Nat))
  | [] => some []
  | .str z :: ds => (strsOf ds).map (z :: ·)
  | _ => none
def joinD (s : List Nat) : List (List Nat) → List Nat
  | [] => []
  | [p] => p
  | p :: q :: r => p ++ (s ++ joinD s (q :: r))
def fJoin (a : D) (bs : List D) (S : Sto) : Option (D × Sto) := match a, bs with
  | .str s, [b] => (seqOf S b).bind fun ds => (strsOf ds).bind fun zs => if (zs.map (·.length)).sum + zs.length * s.length ≤ 16777216 then some (.str (joinD s zs), S) else none
  | _, _ => none
section
variable {K : PySem.W.Frag} {G : Gx}
def SM (K : PySem.W.Frag) (G : Gx) (r : V → List V → Hp → VK → Prop) (f : D → List D → Sto → Option (D × Sto)) : Prop := ∀ w x dx xs ds d S', Ok K G w → RV K w x dx → RVs K w xs ds → f dx ds w.S = some (d, S') → ∀ Q, Kd K G w d S' Q → r x xs w.H Q
def SMf (K : PySem.W.Frag) (G : Gx) (r : V → List V → Hp → VK → Prop) (f : D → List D → Sto → Option (List D × Sto)) : Prop := ∀ w x dx xs ds d S', Ok K G w → RV K w x dx → RVs K w xs ds → f dx ds w.S = some (d, S') → ∀ Q, Kf K G w d S' Q → r x xs w.H Q
theorem se_m1 {α : Type} {to te : TE} {eo ea : Ev} {f : D → List D → Sto → Option (α × Sto)} (ho : SE K G to eo) (ha : SE K G te ea) {w : Wd} {σ : St} {ρ : Rho} {z : α} {S' : Sto} (o : Ok K G w) (r : RS K w σ ρ)
    (h : (fun ρ S => (eo ρ S).bind fun x => match x.1 with | .str c => (ea ρ x.2).bind fun y => f (.str c) [y.1] y.2 | _ => none : Rho → Sto → Option (α × Sto)) ρ w.S = some (z, S')) {R : V → V → Hp → Prop}
    (k : ∀ x y dx dy w', Fr w w' → Ok K G w' → RV K w' x dx → RV K w' y dy → f dx [dy] w'.S = some (z, S') → R x y w'.H) : to σ w.H fun x H1 => (∃ a, x = .str a) ∧ te σ H1 fun y H2 => R x y H2 := by
  obtain ⟨⟨dx, S1⟩, h1, h2⟩ := bnd h
  refine ho w σ ρ dx S1 o r h1 _ fun x w1 e1 f1 o1 r1 => ?_
  subst e1
  cases dx with
  | str c =>
    obtain ⟨⟨dy, S2⟩, h3, h4⟩ := bnd h2
    refine ⟨⟨⟨c.toArray⟩, by cases r1; rfl⟩, ha w1 σ ρ dy S2 o1 (r.fr o f1) h3 _ fun y w2 e2 f2 o2 r2 => ?_⟩
    subst e2
    exact k x y _ dy w2 (f1.trans f2) o2 (r1.mono f2.mv) r2 h4
  | _ => cases h2
def eM1 {α : Type} (f : D → List D → Sto → Option (α × Sto)) (eo ea : Ev) : Rho → Sto → Option (α × Sto) := fun ρ S => (eo ρ S).bind fun x => match x.1 with
  | .str c => (ea ρ x.2).bind fun y => f (.str c) [y.1] y.2
  | _ => none
theorem se_tm1 {r : V → List V → Hp → VK → Prop} {to te : TE} {eo ea : Ev} {f : D → List D → Sto → Option (D × Sto)} (hr : SM K G r f) (ho : SE K G to eo) (ha : SE K G te ea) : SE K G (tM1 r to te) (eM1 f eo ea) := fun w σ ρ d S' o rs h Q k =>
  se_m1 ho ha o rs h fun x y dx dy w' f' o' rx ry q => hr w' x dx [y] [dy] d S' o' rx (.one ry) q Q (Kd.from k f')
theorem sf_tm1 {r : V → List V → Hp → VK → Prop} {to te : TE} {eo ea : Ev} {f : D → List D → Sto → Option (List D × Sto)} (hr : SMf K G r f) (ho : SE K G to eo) (ha : SE K G te ea) : SF K G (tM1 r to te) (eM1 f eo ea) := fun w σ ρ d S' o rs h Q k =>
  se_m1 ho ha o rs h fun x y dx dy w' f' o' rx ry q => hr w' x dx [y] [dy] d S' o' rx (.one ry) q Q (Kf.from k f' o')
theorem smf_split : SMf K G (fun x xs H Q => ∃ a b, x = .str a ∧ xs = [.str b] ∧ (b.length == 0) = false ∧ a.length + 2 ≤ sizeLine ∧ rNewStrs (Txt.split a b) H Q) fSplit := fun w x dx xs ds d S' o rx r hh Q k => by
  unfold fSplit at hh
  split at hh
  · split at hh
    · rename_i z c hz
      cases hh
      cases rx
      obtain ⟨v, rfl, r1⟩ := r.one_of
      cases r1
      refine ⟨_, _, rfl, rfl, by rfl, by rw [str_len]; exact hz.2, fun p hp => ?_⟩
      have e : Txt.split ⟨z.toArray⟩ ⟨[c].toArray⟩ = (splitC c z).map fun p => (⟨p.toArray⟩ : Str) := split_is hz.1
      rw [e]
      exact Kf.new k o (RVs.of_strs _) hp
    · cases hh
  · cases hh
theorem strsOf_rv {w : Wd} : ∀ {ds : List D} {vs : List V} {zs : List (List Nat)}, RVs K w vs ds → strsOf ds = some zs → vs = (zs.map fun z => (⟨z.toArray⟩ : Str)).map V.str
  | [], _, _, r, h => by cases r; cases h; rfl
  | d :: ds, _, zs, r, h => by
    cases r with
    | cons r1 r2 =>
      cases d with
      | str z =>
        rw [strsOf] at h
        cases e : strsOf ds with
        | none => rw [e] at h; cases h
        | some ys =>
          rw [e] at h
          cases h
          cases r1
          rw [strsOf_rv r2 e]
          rfl
      | _ => rw [strsOf] at h <;> first | cases h | (intros; intro z; cases z)
theorem joinD_eq (s : List Nat) : ∀ zs, joinD s zs = joinL s zs
  | [] => rfl
  | [_] => rfl
  | p :: q :: r => by
    show p ++ (s ++ joinD s (q :: r)) = p ++ (s ++ joinL s (q :: r))
    rw [joinD_eq s (q :: r)]
theorem join_is (s : List Nat) (zs : List (List Nat)) : Txt.join ⟨s.toArray⟩ (zs.map fun z => (⟨z.toArray⟩ : Str)) = ⟨(joinD s zs).toArray⟩ := by
  apply ext_tl
  rw [join_eq, tl_join, joinD_eq]
  simp [tl, List.map_map, Function.comp_def]
theorem sm_join : SM K G (fun x xs H Q => ∃ a p, ∃ ys : List Str, x = .str a ∧ xs = [.ref p] ∧ (SqL K H p (ys.map V.str) ∨ SqT K H p (ys.map V.str)) ∧ (ys.map (·.length)).sum + ys.length * a.length ≤ 16777216 ∧ Q (.str (Txt.join a ys)) H) fJoin := fun w x dx xs ds d S' o rx r hh Q k => by
  unfold fJoin at hh
  split at hh
  · rename_i s b
    obtain ⟨es, h1, h2⟩ := bnd hh
    obtain ⟨zs, h3, h4⟩ := bnd h2
    split at h4
    · rename_i hz
      cases h4
      cases rx
      obtain ⟨v, rfl, r1⟩ := r.one_of
      obtain ⟨a, vs, rfl, q1, q2⟩ := seqOf_rv o r1 h1
      have e := strsOf_rv q2 h3
      subst e
      refine ⟨_, a, _, rfl, rfl, q1, ?_, ?_⟩
      · rw [List.map_map, List.length_map, str_len]
        have e2 : ((fun x : Str => x.length) ∘ fun z : List Nat => (⟨z.toArray⟩ : Str)) = fun z : List Nat => z.length := by
          funext z
          exact str_len z
        rw [e2]
        exact hz
      · rw [join_is]
        exact Kd.now k o .str
    · cases h4
  · cases hh
end
end AH
set_option maxRecDepth 100000
set_option maxHeartbeats 2000000
namespace AH
open PySem L2 TL
inductive Fl where
  | nx | bk | ct | rt (d : D) | rf (ds : List D)
abbrev EvS := Rho → Sto → Option (Fl × Rho × Sto)
def accAt (σ : St) (ρ : Rho) (a : Addr) : Prop := ∃ (i : Nat) (ds : List D), ρ[i]? = some (Sl.acc ds) ∧ σ[i]? = some (some (V.ref a))
structure SR (K : PySem.W.Frag) (G : Gx) (w0 w : Wd) (σ : St) (ρ : Rho) : Prop where
  ok : Ok K G w
  rs : RS K w σ ρ
  io : ∀ l a, w0.io l = some a → w.io l = some a
  hp : ∀ a o, w0.H a = some o → ¬ w0.U a → w.H a = some o ∧ ¬ w.U a
  fz : ∀ a o u, w0.H a = some (.frz o u) → w.H a = some (.frz o u)
  bb : ∀ a, w.B a ↔ (w0.B a ∨ accAt σ ρ a)
  fr : ∀ a, accAt σ ρ a → w0.H a = none
  dj : ∀ (i j : Nat) (ds es : List D) (a : Addr), ρ[i]? = some (Sl.acc ds) → ρ[j]? = some (Sl.acc es) → σ[i]? = some (some (V.ref a)) → σ[j]? = some (some (V.ref a)) → i = j
  b0 : ∀ a, w0.B a → ∃ o, w0.H a = some o
section
variable {K : PySem.W.Frag} {G : Gx} {w0 w w' : Wd} {σ : St} {ρ : Rho}
theorem SR.step (s : SR K G w0 w σ ρ) (f : Fr w w') (o : Ok K G w') : SR K G w0 w' σ ρ :=
  ⟨o, s.rs.fr s.ok f, fun l a h => f.io l a (s.io l a h), fun a u h k => let ⟨h1, k1⟩ := s.hp a u h k; f.hp a u h1 k1, fun a q u h => f.fz a q u (s.fz a q u h), fun a => by rw [f.bb]; exact s.bb a, s.fr, s.dj, s.b0⟩
def Post (K : PySem.W.Frag) (G : Gx) (w0 w : Wd) (D : Ends) (f : Fl) (ρ' : Rho) (S' : Sto) : Prop := match f with
  | .nx => ∀ σ' w', w'.S = S' → Mv w w' → SR K G w0 w' σ' ρ' → D.nx σ' w'.H
  | .bk => ∀ σ' w', w'.S = S' → Mv w w' → SR K G w0 w' σ' ρ' → D.bk σ' w'.H
  | .ct => ∀ σ' w', w'.S = S' → Mv w w' → SR K G w0 w' σ' ρ' → D.ct σ' w'.H
  | .rt d => ∀ v w', w'.S = S' → Fr w0 w' → Ok K G w' → RV K w' v d → D.rt v w'.H
  | .rf ds => ∀ p vs w', w'.S = S' → Fr w0 w' → w0.H p = none → Ok K G (w'.ban p) → w'.H p = some (.lst vs) → RVs K (w'.ban p) vs ds → D.rt (.ref p) w'.H
def SS (K : PySem.W.Frag) (G : Gx) (ts : TS) (run : EvS) : Prop := ∀ w0 w σ ρ f ρ' S', SR K G w0 w σ ρ → run ρ w.S = some (f, ρ', S') → ∀ D : Ends, Post K G w0 w D f ρ' S' → ts D σ w.H
theorem Post.from {D : Ends} {f : Fl} {ρ' : Rho} {S' : Sto} (p : Post K G w0 w D f ρ' S') (m : Mv w w') : Post K G w0 w' D f ρ' S' := by
  cases f with
  | nx => exact fun σ' w2 e m2 s => p σ' w2 e (m.trans m2) s
  | bk => exact fun σ' w2 e m2 s => p σ' w2 e (m.trans m2) s
  | ct => exact fun σ' w2 e m2 s => p σ' w2 e (m.trans m2) s
  | rt d => exact p
  | rf ds => exact p
end
def sNext : EvS := fun ρ S => some (.nx, ρ, S)
def sBrk : EvS := fun ρ S => some (.bk, ρ, S)
def sCnt : EvS := fun ρ S => some (.ct, ρ, S)
def sSeq (a b : EvS) : EvS := fun ρ S => (a ρ S).bind fun x => match x with
  | (.nx, ρ1, S1) => b ρ1 S1
  | r => some r
def sIf (t : EvT) (a b : EvS) : EvS := fun ρ S => (t ρ S).bind fun x => if x.1 = true then a ρ x.2 else b ρ x.2
def sDo (e : Ev) : EvS := fun ρ S => (e ρ S).bind fun x => some (.nx, ρ, x.2)
def sRet (e : Ev) : EvS := fun ρ S => (e ρ S).bind fun x => some (.rt x.1, ρ, x.2)
def sRetN : EvS := fun ρ S => some (.rt .non, ρ, S)
def sRetF (e : EvL) : EvS := fun ρ S => (e ρ S).bind fun x => some (.rf x.1, ρ, x.2)
def sRetA (i : Nat) : EvS := fun ρ S => match ρ[i]? with
  | some (.acc ds) => some (.rf ds, ρ, S)
  | _ => none
/-- targets -/
abbrev EvG := D → Rho → Sto → Option (Rho × Sto)
def gNm (i : Nat) : EvG := fun d ρ S => if i < ρ.length then some (ρ.set i (.val d), S) else none
abbrev EvGs := List D → Rho → Sto → Option (Rho × Sto)
def gsNil : EvGs := fun ds ρ S => match ds with
  | [] => some (ρ, S)
  | _ => none
def gsCons (g : EvG) (h : EvGs) : EvGs := fun ds ρ S => match ds with
  | d :: r => (g d ρ S).bind fun x => h r x.1 x.2
  | _ => none
def gTp (n : Nat) (h : EvGs) : EvG := fun d ρ S => match d with
  | .tup ds => if ds.length = n then h ds ρ S else none
  | _ => none
def sAsg (e : Ev) (g : EvG) : EvS := fun ρ S => (e ρ S).bind fun x => (g x.1 ρ x.2).bind fun y => some (.nx, y.1, y.2)
def sAcc (i : Nat) (e : EvL) : EvS := fun ρ S => (e ρ S).bind fun x => if i < ρ.length then some (.nx, ρ.set i (.acc x.1), x.2) else none
def frz (i : Nat) (ρ : Rho) : Rho := match ρ[i]? with
  | some (.acc ds) => ρ.set i (.val (.lst ds))
  | _ => ρ
def sFrz (i : Nat) (s : EvS) : EvS := fun ρ S => s (frz i ρ) S
def sApp (i : Nat) (e : Ev) : EvS := fun ρ S => (e ρ S).bind fun x => match ρ[i]? with
  | some (.acc ds) => if ds.length < sizeLine then some (.nx, ρ.set i (.acc (ds ++ [x.1])), x.2) else none
  | _ => none
def sExtend (i : Nat) (e : EvL) : EvS := fun ρ S => (e ρ S).bind fun x => match ρ[i]? with
  | some (.acc ds) => if ds.length + x.1.length ≤ sizeLine then some (.nx, ρ.set i (.acc (ds ++ x.1)), x.2) else none
  | _ => none
def sPar (i j : Nat) (a b : Ev) : EvS := fun ρ S => (a ρ S).bind fun x => (b ρ x.2).bind fun y => if i < ρ.length ∧ j < ρ.length then some (.nx, (ρ.set i (.val x.1)).set j (.val y.1), y.2) else none
section
variable {K : PySem.W.Frag} {G : Gx} {t u : TS} {a b : EvS} {te : TE} {ea : Ev} {el : EvL} {tt : TT} {et : EvT}
theorem ss_next : SS K G tNext sNext := fun w0 w σ ρ f ρ' S' s h D p => by
  cases h
  exact p σ w rfl (Mv.refl w) s
theorem ss_seq (ha : SS K G t a) (hb : SS K G u b) : SS K G (tSeq t u) (sSeq a b) := fun w0 w σ ρ f ρ' S' s h D p => by
  obtain ⟨⟨f1, ρ1, S1⟩, h1, h2⟩ := bnd h
  refine ha w0 w σ ρ f1 ρ1 S1 s h1 { D with nx := u D } ?_
  cases f1 with
  | nx =>
    intro σ' w' e m s'
    subst e
    exact hb w0 w' σ' ρ1 f ρ' S' s' h2 D (p.from m)
  | bk => cases h2; exact p
  | ct => cases h2; exact p
  | rt d => cases h2; exact p
  | rf ds => cases h2; exact p
theorem ss_if (ht : STt K G tt et) (ha : SS K G t a) (hb : SS K G u b) : SS K G (tIfS tt t u) (sIf et a b) := fun w0 w σ ρ f ρ' S' s h D p => by
  obtain ⟨⟨c, S1⟩, h1, h2⟩ := bnd h
  refine ht w σ ρ c S1 s.ok s.rs h1 _ fun w1 e1 f1 o1 => ?_
  subst e1
  cases c with
  | true => exact ha w0 w1 σ ρ f ρ' S' (s.step f1 o1) h2 D (p.from f1.mv)
  | false => exact hb w0 w1 σ ρ f ρ' S' (s.step f1 o1) h2 D (p.from f1.mv)
theorem ss_do (he : SE K G te ea) : SS K G (tDrop te) (sDo ea) := fun w0 w σ ρ f ρ' S' s h D p => by
  obtain ⟨⟨c, S1⟩, h1, h2⟩ := bnd h
  cases h2
  exact he w σ ρ c _ s.ok s.rs h1 _ fun v w1 e1 f1 o1 r1 => p σ w1 e1 f1.mv (s.step f1 o1)
/-- back to what the entry bars -/
theorem SR.out {w0 w : Wd} {σ : St} {ρ : Rho} (s : SR K G w0 w σ ρ) : Fr w0 (w.withB w0.B) ∧ Ok K G (w.withB w0.B) ∧ Mv w (w.withB w0.B) :=
  ⟨⟨s.io, s.hp, s.fz, rfl⟩, s.ok.shrink fun a h => (s.bb a).mpr (.inl h), Mv.shrink fun a h => (s.bb a).mpr (.inl h)⟩
theorem ss_ret (he : SE K G te ea) : SS K G (tRet te) (sRet ea) := fun w0 w σ ρ f ρ' S' s h D p => by
  obtain ⟨⟨c, S1⟩, h1, h2⟩ := bnd h
  cases h2
  refine he w σ ρ c _ s.ok s.rs h1 _ fun v w1 e1 f1 o1 r1 => ?_
  obtain ⟨q1, q2, q3⟩ := (s.step f1 o1).out
  exact p v (w1.withB w0.B) e1 q1 q2 (r1.mono q3)
theorem SR.free0 {w0 w : Wd} {σ : St} {ρ : Rho} (s : SR K G w0 w σ ρ) {p : Addr} (h : w.H p = none) : w0.H p = none := by
  cases e : w0.H p with
  | none => rfl
  | some o =>
    by_cases u : w0.U p
    · obtain ⟨l, q⟩ := u
      obtain ⟨o', q⟩ := s.ok.uh ⟨l, s.io l p q⟩
      rw [h] at q
      cases q
    · rw [(s.hp p o e u).1] at h
      cases h
theorem ss_retA {i : Nat} : SS K G (tRet (tVar i)) (sRetA i) := fun w0 w σ ρ f ρ' S' s h D p => by
  unfold sRetA at h
  split at h
  · rename_i ds e
    cases h
    obtain ⟨a, vs, h1, h2, h3, h4⟩ := s.rs.acc i _ e
    refine ⟨_, h1, ?_⟩
    obtain ⟨q1, q2, q3⟩ := s.out
    have sh : ∀ b, ((w.withB w0.B).ban a).B b → w.B b := fun b z => by
      rcases z with z | z
      · exact (s.bb b).mpr (.inl z)
      · rw [z]
        exact h4
    exact p a vs (w.withB w0.B) rfl q1 (s.fr a ⟨i, _, e, h1⟩) (s.ok.shrink (B := ((w.withB w0.B).ban a).B) sh) h2 (h3.mono (Mv.shrink (w := w) (B := ((w.withB w0.B).ban a).B) sh))
  · cases h
theorem get_set_ne {α : Type} {l : List α} {i j : Nat} {x : α} (h : i ≠ j) : (l.set i x)[j]? = l[j]? := by
  rw [List.getElem?_set, if_neg h]
theorem get_set_eq {α : Type} {l : List α} {i : Nat} {x y : α} (h : (l.set i x)[i]? = some y) : y = x ∧ i < l.length := by
  rw [List.getElem?_set, if_pos rfl] at h
  split at h
  · rename_i q
    cases h
    exact ⟨rfl, q⟩
  · cases h
/-- the bars by the slots as they are now -/
def Wd.bars (w w0 : Wd) (σ : St) (ρ : Rho) : Wd := w.withB fun a => w0.B a ∨ accAt σ ρ a
theorem SR.setv {w0 w : Wd} {σ : St} {ρ : Rho} (s : SR K G w0 w σ ρ) {i : Nat} {v : V} {d : D} (r : RV K w v d) (hi : i < ρ.length) :
    Mv w (w.bars w0 (σ.set i (some v)) (ρ.set i (.val d))) ∧ SR K G w0 (w.bars w0 (σ.set i (some v)) (ρ.set i (.val d))) (σ.set i (some v)) (ρ.set i (.val d)) := by
  have back : ∀ j ds, (ρ.set i (Sl.val d))[j]? = some (Sl.acc ds) → j ≠ i ∧ ρ[j]? = some (Sl.acc ds) := fun j ds h => by
    by_cases q : i = j
    · subst q
      have z := (get_set_eq h).1
      cases z
    · rw [get_set_ne q] at h
      exact ⟨fun z => q z.symm, h⟩
  have ac : ∀ a, accAt (σ.set i (some v)) (ρ.set i (Sl.val d)) a → accAt σ ρ a := fun a ⟨j, ds, h1, h2⟩ => by
    obtain ⟨n, h3⟩ := back j ds h1
    rw [get_set_ne (Ne.symm n)] at h2
    exact ⟨j, ds, h3, h2⟩
  have sh : ∀ a, (w0.B a ∨ accAt (σ.set i (some v)) (ρ.set i (Sl.val d)) a) → w.B a := fun a z => (s.bb a).mpr (z.imp_right (ac a))
  have m : Mv w (w.bars w0 (σ.set i (some v)) (ρ.set i (.val d))) := Mv.shrink sh
  refine ⟨m, s.ok.shrink sh, ⟨?_, ?_, ?_⟩, s.io, s.hp, s.fz, fun a => Iff.rfl, fun a z => s.fr a (ac a z), ?_, s.b0⟩
  · rw [List.length_set, List.length_set]
    exact s.rs.len
  · intro j e h
    by_cases q : i = j
    · subst q
      have z := (get_set_eq h).1
      cases z
      refine ⟨v, ?_, r.mono m⟩
      rw [List.getElem?_set, if_pos rfl, if_pos (by rw [s.rs.len]; exact hi)]
    · rw [get_set_ne q] at h
      obtain ⟨u, h1, h2⟩ := s.rs.val j e h
      exact ⟨u, by rw [get_set_ne q]; exact h1, h2.mono m⟩
  · intro j ds h
    obtain ⟨n, h3⟩ := back j ds h
    obtain ⟨a, vs, h4, h5, h6, h7⟩ := s.rs.acc j ds h3
    have h8 : (σ.set i (some v))[j]? = some (some (V.ref a)) := by rw [get_set_ne (Ne.symm n)]; exact h4
    exact ⟨a, vs, h8, h5, h6.mono m, .inr ⟨j, ds, h, h8⟩⟩
  · intro j k ds es a h1 h2 h3 h4
    obtain ⟨n1, q1⟩ := back j ds h1
    obtain ⟨n2, q2⟩ := back k es h2
    rw [get_set_ne (Ne.symm n1)] at h3
    rw [get_set_ne (Ne.symm n2)] at h4
    exact s.dj j k ds es a q1 q2 h3 h4
/-- a new list, held by one name alone -/
theorem SR.seta {w0 w : Wd} {σ : St} {ρ : Rho} (s : SR K G w0 w σ ρ) {i : Nat} {p : Addr} {w1 : Wd} {vs : List V} {ds : List D} (f : Fr w w1) (n : w.H p = none) (o : Ok K G (w1.ban p)) (h : w1.H p = some (.lst vs)) (r : RVs K (w1.ban p) vs ds) (hi : i < ρ.length) :
    Mv w (w1.bars w0 (σ.set i (some (V.ref p))) (ρ.set i (.acc ds))) ∧ SR K G w0 (w1.bars w0 (σ.set i (some (V.ref p))) (ρ.set i (.acc ds))) (σ.set i (some (V.ref p))) (ρ.set i (.acc ds)) := by
  have s1 := s.step f o.unban
  have np : ∀ j es, ρ[j]? = some (Sl.acc es) → σ[j]? ≠ some (some (V.ref p)) := fun j es h1 h2 => by
    obtain ⟨a, us, h3, h4, _⟩ := s.rs.acc j es h1
    rw [h2] at h3
    cases h3
    rw [n] at h4
    cases h4
  have ac : ∀ a, accAt (σ.set i (some (V.ref p))) (ρ.set i (Sl.acc ds)) a → accAt σ ρ a ∨ a = p := fun a ⟨j, es, h1, h2⟩ => by
    by_cases q : i = j
    · subst q
      have z := (get_set_eq h2).1
      cases z
      exact .inr rfl
    · rw [get_set_ne q] at h1 h2
      exact .inl ⟨j, es, h1, h2⟩
  have sh : ∀ a, (w0.B a ∨ accAt (σ.set i (some (V.ref p))) (ρ.set i (Sl.acc ds)) a) → (w1.ban p).B a := fun a z => by
    rcases z with z | z
    · exact .inl ((s1.bb a).mpr (.inl z))
    · exact (ac a z).imp (fun z => (s1.bb a).mpr (.inr z)) id
  have m0 : Mv w (w1.ban p) := ⟨f.io, fun a u e q => by
    obtain ⟨h1, h2⟩ := f.mv.hp a u e q
    refine ⟨h1, fun z => ?_⟩
    rcases z with (z | z) | z
    · exact h2 (.inl z)
    · rw [z, n] at e
      cases e
    · exact h2 (.inr z), f.fz⟩
  have m1 : Mv (w1.ban p) (w1.bars w0 (σ.set i (some (V.ref p))) (ρ.set i (.acc ds))) := Mv.shrink (w := w1.ban p) sh
  refine ⟨m0.trans m1, o.shrink sh, ⟨?_, ?_, ?_⟩, s1.io, s1.hp, s1.fz, fun a => Iff.rfl, fun a z => ?_, ?_, s.b0⟩
  · rw [List.length_set, List.length_set]
    exact s.rs.len
  · intro j e h
    by_cases q : i = j
    · subst q
      have z := (get_set_eq h).1
      cases z
    · rw [get_set_ne q] at h
      obtain ⟨u, h1, h2⟩ := s.rs.val j e h
      exact ⟨u, by rw [get_set_ne q]; exact h1, h2.mono (m0.trans m1)⟩
  · intro j es h1
    by_cases q : i = j
    · subst q
      have z := (get_set_eq h1).1
      cases z
      have h8 : (σ.set i (some (V.ref p)))[i]? = some (some (V.ref p)) := by rw [List.getElem?_set, if_pos rfl, if_pos (by rw [s.rs.len]; exact hi)]
      exact ⟨p, vs, h8, h, r.mono m1, .inr ⟨i, _, h1, h8⟩⟩
    · have h1' := h1
      rw [get_set_ne q] at h1
      obtain ⟨a, us, h4, h5, h6, h7⟩ := s1.rs.acc j es h1
      have h8 : (σ.set i (some (V.ref p)))[j]? = some (some (V.ref a)) := by rw [get_set_ne q]; exact h4
      obtain ⟨a', us', g4, g5, g6, g7⟩ := s.rs.acc j es h1
      rw [h4] at g4
      cases g4
      obtain ⟨z1, z2⟩ := f.hp a _ g5 (s.ok.dis a g7)
      rw [h5] at z1
      cases z1
      exact ⟨a, us, h8, h5, g6.mono (m0.trans m1), .inr ⟨j, es, h1', h8⟩⟩
  · rcases ac a z with z | z
    · exact s.fr a z
    · rw [z]
      exact s.free0 n
  · intro j k es fs a h1 h2 h3 h4
    by_cases q1 : i = j <;> by_cases q2 : i = k
    · rw [← q1, ← q2]
    · subst q1
      rw [get_set_ne q2] at h2 h4
      have z := (get_set_eq h3).1
      cases z
      exact absurd h4 (np k fs h2)
    · subst q2
      rw [get_set_ne q1] at h1 h3
      have z := (get_set_eq h4).1
      cases z
      exact absurd h3 (np j es h1)
    · rw [get_set_ne q1] at h1 h3
      rw [get_set_ne q2] at h2 h4
      exact s.dj j k es fs a h1 h2 h3 h4
/-- such a list becomes a value -/
theorem SR.frz {w0 w : Wd} {σ : St} {ρ : Rho} (s : SR K G w0 w σ ρ) (i : Nat) : Mv w (w.bars w0 σ (frz i ρ)) ∧ SR K G w0 (w.bars w0 σ (frz i ρ)) σ (frz i ρ) := by
  unfold AH.frz
  split
  · rename_i ds e
    obtain ⟨p, us, p1, p2, p3, p4⟩ := s.rs.acc i ds e
    have hi : i < ρ.length := (List.getElem?_eq_some_iff.mp e).1
    have back : ∀ j es, (ρ.set i (Sl.val (.lst ds)))[j]? = some (Sl.acc es) → j ≠ i ∧ ρ[j]? = some (Sl.acc es) := fun j es h => by
      by_cases q : i = j
      · subst q
        have z := (get_set_eq h).1
        cases z
      · rw [get_set_ne q] at h
        exact ⟨fun z => q z.symm, h⟩
    have ac : ∀ a, accAt σ (ρ.set i (Sl.val (.lst ds))) a → accAt σ ρ a := fun a ⟨j, es, h1, h2⟩ => ⟨j, es, (back j es h1).2, h2⟩
    have sh : ∀ a, (w0.B a ∨ accAt σ (ρ.set i (Sl.val (.lst ds))) a) → w.B a := fun a z => (s.bb a).mpr (z.imp_right (ac a))
    have m : Mv w (w.bars w0 σ (ρ.set i (.val (.lst ds)))) := Mv.shrink sh
    have nx : ¬ (w.bars w0 σ (ρ.set i (.val (.lst ds)))).Ex p := fun z => by
      rcases z with (z | z) | z
      · obtain ⟨o, q⟩ := s.b0 p z
        rw [s.fr p ⟨i, ds, e, p1⟩] at q
        cases q
      · obtain ⟨j, es, h1, h2⟩ := z
        obtain ⟨n, h3⟩ := back j es h1
        exact n (s.dj j i es ds p h3 e h2 p1)
      · exact s.ok.dis p p4 z
    refine ⟨m, s.ok.shrink sh, ⟨?_, ?_, ?_⟩, s.io, s.hp, s.fz, fun a => Iff.rfl, fun a z => s.fr a (ac a z), ?_, s.b0⟩
    · rw [List.length_set]
      exact s.rs.len
    · intro j e' h
      by_cases q : i = j
      · subst q
        have z := (get_set_eq h).1
        cases z
        exact ⟨_, p1, .lst p2 nx (p3.mono m)⟩
      · rw [get_set_ne q] at h
        obtain ⟨u, h1, h2⟩ := s.rs.val j e' h
        exact ⟨u, h1, h2.mono m⟩
    · intro j es h
      obtain ⟨n, h3⟩ := back j es h
      obtain ⟨a, vs, h4, h5, h6, h7⟩ := s.rs.acc j es h3
      exact ⟨a, vs, h4, h5, h6.mono m, .inr ⟨j, es, h, h4⟩⟩
    · intro j k es fs a h1 h2 h3 h4
      exact s.dj j k es fs a (back j es h1).2 (back k fs h2).2 h3 h4
  · have sh : ∀ a, (w0.B a ∨ accAt σ ρ a) → w.B a := fun a z => (s.bb a).mpr z
    have m : Mv w (w.bars w0 σ ρ) := Mv.shrink sh
    exact ⟨m, s.ok.shrink sh, ⟨s.rs.len, fun i d h => let ⟨v, h1, h2⟩ := s.rs.val i d h; ⟨v, h1, h2.mono m⟩, fun i ds h => let ⟨a, vs, h1, h2, h3, h4⟩ := s.rs.acc i ds h; ⟨a, vs, h1, h2, h3.mono m, (s.bb a).mp h4⟩⟩, s.io, s.hp, s.fz, fun a => Iff.rfl, s.fr, s.dj, s.b0⟩
/-- what a barred address holds is another -/
theorem Ok.updB {w : Wd} {p : Addr} {u : HO} (o : Ok K G w) (hp : w.B p) (nf : ∀ q z, w.H p ≠ some (.frz q z)) (nt : ∀ ps, u ≠ .tbl ps := by intro ps z; cases z) (nx : ∀ φ, u ≠ .ext φ := by intro φ z; cases z) : Mv w { w with H := upd w.H p u } ∧ Ok K G { w with H := upd w.H p u } := by
  have m : Mv w { w with H := upd w.H p u } := ⟨fun _ _ e => e, fun a z e k => ⟨by
    show upd w.H p u a = some z
    rw [upd_ne (fun q => k (.inl (by rw [q]; exact hp)))]
    exact e, k⟩, fun a q z e => by
    show upd w.H p u a = some (.frz q z)
    rw [upd_ne (fun y => nf q z (by rw [← y]; exact e))]
    exact e⟩
  refine ⟨m, fun l q e => ?_, o.inj, o.dom, o.nxt, o.dis, fun a b => ?_, fun a ps e => ?_, fun a φ b => ?_⟩
  · obtain ⟨a, h1, h2⟩ := o.obj l q e
    refine ⟨a, h1, h2.mono m ?_⟩
    show upd w.H p u a = w.H a
    exact upd_ne fun q => o.dis p hp ⟨l, by rw [← q]; exact h1⟩
  · by_cases q : a = p
    · exact ⟨u, by rw [q]; exact upd_same⟩
    · obtain ⟨z, hz⟩ := o.bh a b
      exact ⟨z, by
        show upd w.H p u a = some z
        rw [upd_ne q]
        exact hz⟩
  · have e : upd w.H p u a = some (.tbl ps) := e
    by_cases q : a = p
    · rw [q, upd_same] at e
      exact absurd (Option.some.inj e) (nt ps)
    · rw [upd_ne q] at e
      exact o.tb a ps e
  · show upd w.H p u a ≠ _
    by_cases q : a = p
    · rw [q, upd_same]
      exact fun z => nx φ (Option.some.inj z)
    · rw [upd_ne q]
      exact o.bx a φ b
theorem SR.upda {w0 w : Wd} {σ : St} {ρ : Rho} (s : SR K G w0 w σ ρ) {i : Nat} {p : Addr} {vs : List V} {ds es : List D} (e : ρ[i]? = some (.acc es)) (h : σ[i]? = some (some (V.ref p))) (hb : w.B p) (r : RVs K w vs ds) :
    Mv w { w with H := upd w.H p (.lst vs) } ∧ SR K G w0 { w with H := upd w.H p (.lst vs) } σ (ρ.set i (.acc ds)) := by
  obtain ⟨p', us', y1, y2, _, _⟩ := s.rs.acc i _ e
  have nf : ∀ q z, w.H p ≠ some (.frz q z) := fun q z y => by
    rw [h] at y1
    cases y1
    rw [y] at y2
    cases y2
  obtain ⟨m, o⟩ := s.ok.updB (u := .lst vs) hb nf
  have hi : i < ρ.length := (List.getElem?_eq_some_iff.mp e).1
  have back : ∀ j fs, (ρ.set i (Sl.acc ds))[j]? = some (Sl.acc fs) → ∃ gs, ρ[j]? = some (Sl.acc gs) := fun j fs h => by
    by_cases q : i = j
    · subst q
      exact ⟨es, e⟩
    · rw [get_set_ne q] at h
      exact ⟨fs, h⟩
  have fwd : ∀ j fs, ρ[j]? = some (Sl.acc fs) → ∃ gs, (ρ.set i (Sl.acc ds))[j]? = some (Sl.acc gs) := fun j fs h => by
    by_cases q : i = j
    · subst q
      exact ⟨ds, by rw [List.getElem?_set, if_pos rfl, if_pos hi]⟩
    · exact ⟨fs, by rw [get_set_ne q]; exact h⟩
  have ac : ∀ a, accAt σ (ρ.set i (Sl.acc ds)) a ↔ accAt σ ρ a := fun a => ⟨fun ⟨j, fs, h1, h2⟩ => let ⟨gs, h3⟩ := back j fs h1; ⟨j, gs, h3, h2⟩, fun ⟨j, fs, h1, h2⟩ => let ⟨gs, h3⟩ := fwd j fs h1; ⟨j, gs, h3, h2⟩⟩
  refine ⟨m, o, ⟨?_, ?_, ?_⟩, s.io, fun a u h1 h2 => ?_, fun a q u h1 => m.fz a q u (s.fz a q u h1), fun a => ?_, fun a z => s.fr a ((ac a).mp z), ?_, s.b0⟩
  · rw [List.length_set]
    exact s.rs.len
  · intro j e' h
    by_cases q : i = j
    · subst q
      have z := (get_set_eq h).1
      cases z
    · rw [get_set_ne q] at h
      obtain ⟨u, h1, h2⟩ := s.rs.val j e' h
      exact ⟨u, h1, h2.mono m⟩
  · intro j fs h1
    by_cases q : i = j
    · subst q
      have z := (get_set_eq h1).1
      cases z
      exact ⟨p, vs, h, upd_same, r.mono m, hb⟩
    · rw [get_set_ne q] at h1
      obtain ⟨a, us, h4, h5, h6, h7⟩ := s.rs.acc j fs h1
      have ne : a ≠ p := fun z => q (s.dj i j es fs p e h1 h (by rw [← z]; exact h4))
      exact ⟨a, us, h4, by
        show upd w.H p (.lst vs) a = _
        rw [upd_ne ne]
        exact h5, h6.mono m, h7⟩
  · obtain ⟨h3, h4⟩ := s.hp a u h1 h2
    refine ⟨?_, h4⟩
    show upd w.H p (.lst vs) a = some u
    rw [upd_ne (fun z => ?_)]
    · exact h3
    · rw [z, s.fr p ⟨i, es, e, h⟩] at h1
      cases h1
  · show w.B a ↔ _
    rw [ac a]
    exact s.bb a
  · intro j k fs gs a h1 h2 h3 h4
    obtain ⟨fs', q1⟩ := back j fs h1
    obtain ⟨gs', q2⟩ := back k gs h2
    exact s.dj j k fs' gs' a q1 q2 h3 h4
def SG (K : PySem.W.Frag) (G : Gx) (g : TG) (eg : EvG) : Prop := ∀ w0 w σ ρ x d ρ' S', SR K G w0 w σ ρ → RV K w x d → eg d ρ w.S = some (ρ', S') → ∀ Q, (∀ σ' w', w'.S = S' → Mv w w' → SR K G w0 w' σ' ρ' → Q σ' w'.H) → g x σ w.H Q
def SGs (K : PySem.W.Frag) (G : Gx) (g : TGs) (eg : EvGs) : Prop := ∀ w0 w σ ρ x d ρ' S', SR K G w0 w σ ρ → RVs K w x d → eg d ρ w.S = some (ρ', S') → ∀ Q, (∀ σ' w', w'.S = S' → Mv w w' → SR K G w0 w' σ' ρ' → Q σ' w'.H) → g x σ w.H Q
theorem sg_name {i : Nat} : SG K G (gName i) (gNm i) := fun w0 w σ ρ x d ρ' S' s r h Q k => by
  unfold gNm at h
  split at h
  · rename_i hi
    cases h
    obtain ⟨m, s'⟩ := s.setv r hi
    exact k _ (w.bars w0 (σ.set i (some x)) (ρ.set i (.val d))) rfl m s'
  · cases h
theorem sgs_nil : SGs K G gNil gsNil := fun w0 w σ ρ x d ρ' S' s r h Q k => by
  unfold gsNil at h
  split at h
  · cases h
    cases r
    exact ⟨rfl, k σ w rfl (Mv.refl w) s⟩
  · cases h
theorem sgs_cons {g : TG} {gs : TGs} {eg : EvG} {egs : EvGs} (h1 : SG K G g eg) (h2 : SGs K G gs egs) : SGs K G (gCons g gs) (gsCons eg egs) := fun w0 w σ ρ x d ρ' S' s r h Q k => by
  unfold gsCons at h
  split at h
  · obtain ⟨⟨ρ1, S1⟩, q1, q2⟩ := bnd h
    cases r with
    | cons r1 r2 =>
      refine ⟨_, _, rfl, h1 w0 w σ ρ _ _ ρ1 S1 s r1 q1 _ fun σ1 w1 e1 m1 s1 => ?_⟩
      subst e1
      exact h2 w0 w1 σ1 ρ1 _ _ ρ' S' s1 (r2.mono m1) q2 Q fun σ2 w2 e2 m2 s2 => k σ2 w2 e2 (m1.trans m2) s2
  · cases h
theorem sg_tup {n : Nat} {gs : TGs} {egs : EvGs} (h1 : SGs K G gs egs) : SG K G (gTup K n gs) (gTp n egs) := fun w0 w σ ρ x d ρ' S' s r h Q k => by
  unfold gTp at h
  split at h
  · split at h
    · rename_i hl
      cases r with
      | tup q1 q2 q3 => exact ⟨_, _, rfl, SqT.of q1, by rw [q3.length]; exact hl, h1 w0 w σ ρ _ _ ρ' S' s q3 h Q k⟩
    · cases h
  · cases h
theorem ss_asg {g : TG} {eg : EvG} (he : SE K G te ea) (hg : SG K G g eg) : SS K G (tAsg te g) (sAsg ea eg) := fun w0 w σ ρ f ρ' S' s h D p => by
  obtain ⟨⟨c, S1⟩, h1, h2⟩ := bnd h
  obtain ⟨⟨ρ1, S2⟩, h3, h4⟩ := bnd h2
  cases h4
  refine he w σ ρ c _ s.ok s.rs h1 _ fun v w1 e1 f1 o1 r1 => ?_
  subst e1
  exact hg w0 w1 σ ρ v c _ _ (s.step f1 o1) r1 h3 _ fun σ2 w2 e2 m2 s2 => p σ2 w2 e2 (f1.mv.trans m2) s2
theorem ss_acc {i : Nat} (he : SF K G te el) : SS K G (tAsg te (gName i)) (sAcc i el) := fun w0 w σ ρ f ρ' S' s h D p => by
  obtain ⟨⟨c, S1⟩, h1, h2⟩ := bnd h
  split at h2
  · rename_i hi
    cases h2
    refine he w σ ρ c _ s.ok s.rs h1 _ fun q vs w1 e1 f1 n1 o1 hq r1 => ?_
    obtain ⟨m, s'⟩ := s.seta f1 n1 o1 hq r1 hi
    exact p _ (w1.bars w0 (σ.set i (some (V.ref q))) (ρ.set i (.acc c))) e1 m s'
  · cases h2
theorem ss_frz {i : Nat} (h : SS K G t a) : SS K G t (sFrz i a) := fun w0 w σ ρ f ρ' S' s hh D p => by
  obtain ⟨m, s'⟩ := s.frz i
  exact h w0 (w.bars w0 σ (frz i ρ)) σ (frz i ρ) f ρ' S' s' hh D (p.from m)
theorem ty_list {w : Wd} {a : Addr} {vs : List V} (h : w.H a = some (.lst vs)) : tyV K "list" (.ref a) w.H := Or.inl ⟨rfl, _, Or.inl (Or.inl h)⟩
theorem ss_app {i : Nat} (he : SE K G te ea) : SS K G (tDrop (tBM K "list" rAppend (tVar i) (tCons te tNil))) (sApp i ea) := fun w0 w σ ρ f ρ' S' s h D p => by
  obtain ⟨⟨c, S1⟩, h1, h2⟩ := bnd h
  dsimp only at h2
  split at h2
  · rename_i es0 e0
    split at h2
    · rename_i hl
      cases h2
      obtain ⟨a, vs, q1, q2, q3, q4⟩ := s.rs.acc i _ e0
      refine ⟨_, q1, ty_list q2, he w σ ρ c _ s.ok s.rs h1 _ fun v w1 e1 f1 o1 r1 => ?_⟩
      have s1 := s.step f1 o1
      obtain ⟨q5, _⟩ := f1.hp a _ q2 (s.ok.dis a q4)
      refine ⟨a, vs, v, rfl, rfl, q5, by rw [q3.length]; exact hl, ?_⟩
      have b1 : w1.B a := by rw [f1.bb]; exact q4
      obtain ⟨m, s'⟩ := s1.upda (ds := es0 ++ [c]) e0 q1 b1 ((q3.mono f1.mv).append (.one r1))
      exact p σ { w1 with H := upd w1.H a (.lst (vs ++ [v])) } e1 (f1.mv.trans m) s'
    · cases h2
  · cases h2
theorem ss_par {i j : Nat} {ta tb : TE} {ea eb : Ev} (hij : i ≠ j) (ha : SE K G ta ea) (hb : SE K G tb eb) : SS K G (tPar i j (tCons ta (tCons tb tNil))) (sPar i j ea eb) := fun w0 w σ ρ f ρ' S' s h D p => by
  obtain ⟨⟨c, S1⟩, h1, h2⟩ := bnd h
  obtain ⟨⟨d, S2⟩, h3, h4⟩ := bnd h2
  split at h4
  · rename_i hl
    cases h4
    refine ha w σ ρ c _ s.ok s.rs h1 _ fun v w1 e1 f1 o1 r1 => ?_
    subst e1
    have s1 := s.step f1 o1
    refine hb w1 σ ρ d _ s1.ok s1.rs h3 _ fun u w2 e2 f2 o2 r2 => ?_
    have s2 := s1.step f2 o2
    refine ⟨v, u, rfl, ?_⟩
    obtain ⟨m3, s3⟩ := s2.setv (i := i) (r1.mono f2.mv) hl.1
    obtain ⟨m4, s4⟩ := s3.setv (i := j) (r2.mono m3) (by rw [List.length_set]; exact hl.2)
    exact p _ ((w2.bars w0 (σ.set i (some v)) (ρ.set i (.val c))).bars w0 ((σ.set i (some v)).set j (some u)) ((ρ.set i (.val c)).set j (.val d))) e2 (((f1.mv.trans f2.mv).trans m3).trans m4) s4
  · cases h4
end
end AH
set_option maxRecDepth 100000
set_option maxHeartbeats 2000000
namespace AH
open PySem L2 TL
def JOK (K : PySem.W.Frag) (G : Gx) (J : It) (w1 : Wd) (ds : List D) : Prop := ∀ (i : Nat) (w : Wd), Mv w1 w → Ok K G w →
  (∀ d, ds[i]? = some d → J.go i w.H ∧ ∀ x H', J.yld i w.H x H' → ∃ w2, w2.H = H' ∧ w2.S = w.S ∧ Fr w w2 ∧ Ok K G w2 ∧ RV K w2 x d) ∧ (i = ds.length → J.stop i w.H)
def SI (K : PySem.W.Frag) (G : Gx) (wi : TI) (ev : EvL) : Prop := ∀ w σ ρ ds S', Ok K G w → RS K w σ ρ → ev ρ w.S = some (ds, S') → ∀ R : It → Hp → Prop, (∀ J w', w'.S = S' → Fr w w' → Ok K G w' → JOK K G J w' ds → R J w'.H) → wi σ w.H R
theorem JOK.mono {K : PySem.W.Frag} {G : Gx} {J : It} {w1 w2 : Wd} {ds : List D} (j : JOK K G J w1 ds) (m : Mv w1 w2) : JOK K G J w2 ds := fun i w m2 o => j i w (m.trans m2) o
def iL (a : Ev) : EvL := fun ρ S => (a ρ S).bind fun x => match x.1 with
  | .lst ds => some (ds, x.2)
  | .tup _ => none
  | .scr ns => some (ns.map D.int, x.2)
  | _ => none
def iT (a : Ev) : EvL := fun ρ S => (a ρ S).bind fun x => match x.1 with
  | .tup ds => some (ds, x.2)
  | _ => none
def chars (z : List Nat) : List D := z.map fun c => D.str [c]
def iS (a : Ev) : EvL := fun ρ S => (a ρ S).bind fun x => match x.1 with
  | .str z => some (chars z, x.2)
  | _ => none
def rng (lo : Int) (n : Nat) : List D := (List.range n).map fun k => D.int (lo + (k : Nat))
def iR1 (a : EvL) : EvL := fun ρ S => (a ρ S).bind fun x => match x.1 with
  | [.int j] => if -1000000000 ≤ j ∧ j ≤ 1000000000 then some (rng 0 j.toNat, x.2) else none
  | _ => none
def iR2 (a : EvL) : EvL := fun ρ S => (a ρ S).bind fun x => match x.1 with
  | [.int i, .int j] => if -1000000000 ≤ i ∧ i ≤ 1000000000 ∧ -1000000000 ≤ j ∧ j ≤ 1000000000 then some (rng i (j - i).toNat, x.2) else none
  | _ => none
/-- range(i, j, c), c above 0 -/
def rng3 (lo c : Int) (n : Nat) : List D := (List.range n).map fun k => D.int (lo + (k : Nat) * c)
def rn3 (i j c : Int) : Nat := if i < j then ((j - i - 1) / c + 1).toNat else 0
def iR3 (a : EvL) : EvL := fun ρ S => (a ρ S).bind fun x => match x.1 with
  | [.int i, .int j, .int c] => if 0 ≤ i ∧ i ≤ 1000000000 ∧ 0 ≤ j ∧ j ≤ 1000000000 ∧ 0 < c ∧ c ≤ 1000000 then some (rng3 i c (rn3 i j c), x.2) else none
  | _ => none
def enumD (ds : List D) : List D := (List.range ds.length).map fun k => D.tup [.int (k : Nat), ds.getD k .non]
def iE (a : EvL) : EvL := fun ρ S => (a ρ S).bind fun x => match x.1 with
  | [.lst ds] => some (enumD ds, x.2)
  | _ => none
section
variable {K : PySem.W.Frag} {G : Gx}
theorem jok_list {w1 : Wd} {a : Addr} {vs : List V} {ds : List D} (h : w1.H a = some (.lst vs)) (n : ¬ w1.Ex a) (r : RVs K w1 vs ds) : JOK K G (Itl K a) w1 ds := fun i w m o => by
  obtain ⟨q, _⟩ := m.hp a _ h n
  refine ⟨fun d hd => ?_, fun e => ⟨vs, SqL.of q, by rw [r.length, e]; exact Nat.le_refl _⟩⟩
  obtain ⟨v, h1, h2⟩ := r.get hd
  refine ⟨⟨vs, v, SqL.of q, h1⟩, fun x H' y => ?_⟩
  obtain ⟨y1, y2⟩ := y
  subst y1
  have := y2 vs (SqL.of q)
  rw [h1] at this
  cases this
  exact ⟨w, rfl, rfl, Fr.refl w, o, h2.mono m⟩
theorem si_list {te : TE} {ea : Ev} (h : SE K G te ea) : SI K G (iList K te) (iL ea) := fun w σ ρ ds S' o rs hh R k => by
  obtain ⟨⟨d, S1⟩, h1, h2⟩ := bnd hh
  refine h w σ ρ d S1 o rs h1 _ fun v w1 e1 f1 o1 r1 => ?_
  subst e1
  cases d with
  | lst es =>
    cases h2
    cases r1 with
    | lst q1 q2 q3 => exact ⟨_, rfl, ⟨_, SqL.of q1⟩, k _ w1 rfl f1 o1 (jok_list q1 q2 q3)⟩
  | scr ns =>
    cases h2
    obtain ⟨a, rfl, q⟩ := scr_sql r1
    refine ⟨a, rfl, ⟨_, q⟩, k _ w1 rfl f1 o1 fun i w' m o' => ?_⟩
    obtain ⟨a', e, q'⟩ := scr_sql (r1.mono m)
    cases e
    refine ⟨fun d hd => ?_, fun e => ⟨_, q', by rw [List.length_map, e, List.length_map]; exact Nat.le_refl _⟩⟩
    have hn : ∃ n, ns[i]? = some n ∧ d = .int n := by
      rw [List.getElem?_map] at hd
      cases z : ns[i]? with
      | none => rw [z] at hd; cases hd
      | some n => rw [z] at hd; cases hd; exact ⟨n, rfl, rfl⟩
    obtain ⟨n, hn, rfl⟩ := hn
    have hv : (ns.map V.int)[i]? = some (V.int n) := by rw [List.getElem?_map, hn]; rfl
    refine ⟨⟨_, _, q', hv⟩, fun x H' y => ?_⟩
    obtain ⟨y1, y2⟩ := y
    subst y1
    have := y2 _ q'
    rw [hv] at this
    cases this
    exact ⟨w', rfl, rfl, Fr.refl w', o', .int⟩
  | _ => cases h2
theorem si_listF {te : TE} {el : EvL} (h : SF K G te el) : SI K G (iList K te) el := fun w σ ρ ds S' o rs hh R k =>
  h w σ ρ ds S' o rs hh _ fun p vs w1 e1 f1 n1 o1 hp r1 => ⟨p, rfl, ⟨_, SqL.of hp⟩, k _ w1 e1 f1 o1.unban (jok_list hp (fun z => by
    rcases z with z | z
    · rw [f1.bb] at z
      obtain ⟨q, hq⟩ := o.bh p z
      rw [n1] at hq
      cases hq
    · exact o1.dis p (.inr rfl) z) r1.unban)⟩
theorem si_tup {te : TE} {ea : Ev} (h : SE K G te ea) : SI K G (iTup K te) (iT ea) := fun w σ ρ ds S' o rs hh R k => by
  obtain ⟨⟨d, S1⟩, h1, h2⟩ := bnd hh
  refine h w σ ρ d S1 o rs h1 _ fun v w1 e1 f1 o1 r1 => ?_
  subst e1
  cases d with
  | tup es =>
    cases h2
    cases r1 with
    | tup q1 q2 q3 =>
      rename_i a vs
      refine ⟨_, rfl, ⟨_, SqT.of q1⟩, k _ w1 rfl f1 o1 fun i w' m o' => ?_⟩
      obtain ⟨q, _⟩ := m.hp a _ q1 q2
      refine ⟨fun d hd => ?_, fun e => ⟨vs, SqT.of q, by rw [q3.length, e]; exact Nat.le_refl _⟩⟩
      obtain ⟨v, g1, g2⟩ := q3.get hd
      refine ⟨⟨vs, v, SqT.of q, g1⟩, fun x H' y => ?_⟩
      obtain ⟨y1, y2⟩ := y
      subst y1
      have := y2 vs (SqT.of q)
      rw [g1] at this
      cases this
      exact ⟨w', rfl, rfl, Fr.refl w', o', g2.mono m⟩
  | _ => cases h2
theorem si_str {te : TE} {ea : Ev} (h : SE K G te ea) : SI K G (iStr te) (iS ea) := fun w σ ρ ds S' o rs hh R k => by
  obtain ⟨⟨d, S1⟩, h1, h2⟩ := bnd hh
  refine h w σ ρ d S1 o rs h1 _ fun v w1 e1 f1 o1 r1 => ?_
  subst e1
  cases d with
  | str z =>
    cases h2
    cases r1
    refine ⟨_, rfl, k _ w1 rfl f1 o1 fun i w' m o' => ?_⟩
    have sz : (⟨z.toArray⟩ : Str).cps.size = z.length := by simp
    refine ⟨fun d hd => ?_, fun e => ?_⟩
    · unfold chars at hd
      rw [List.getElem?_map] at hd
      cases q : z[i]? with
      | none => rw [q] at hd; cases hd
      | some c =>
        rw [q] at hd
        cases hd
        have hi : i < z.length := (List.getElem?_eq_some_iff.mp q).1
        refine ⟨by show i < (⟨z.toArray⟩ : Str).cps.size; rw [sz]; exact hi, fun x H' y => ?_⟩
        obtain ⟨y1, c', y2, y3⟩ := y
        subst y1 y3
        have : z[i]? = some c' := by simpa using y2
        rw [q] at this
        cases this
        exact ⟨w', rfl, rfl, Fr.refl w', o', .str⟩
    · show (⟨z.toArray⟩ : Str).cps.size ≤ i
      rw [sz, e]
      simp [chars]
  | _ => cases h2
theorem jok_rng {w1 : Wd} (lo : Int) (n : Nat) : JOK K G (Itr lo n) w1 (rng lo n) := fun i w m o => by
  unfold rng
  refine ⟨fun d hd => ?_, fun e => by
    show n ≤ i
    rw [e]
    simp⟩
  rw [List.getElem?_map] at hd
  cases q : (List.range n)[i]? with
  | none => rw [q] at hd; cases hd
  | some c =>
    rw [q] at hd
    cases hd
    obtain ⟨hi, he⟩ := List.getElem?_eq_some_iff.mp q
    rw [List.length_range] at hi
    rw [List.getElem_range] at he
    subst he
    refine ⟨hi, fun x H' y => ?_⟩
    obtain ⟨y1, y2⟩ := y
    subst y1 y2
    exact ⟨w, rfl, rfl, Fr.refl w, o, .int⟩
theorem si_r1 {ta : TA} {el : EvL} (h : SA K G ta el) : SI K G (iRng1 ta) (iR1 el) := fun w σ ρ ds S' o rs hh R k => by
  obtain ⟨⟨d, S1⟩, h1, h2⟩ := bnd hh
  refine h w σ ρ d S1 o rs h1 _ fun v w1 e1 f1 o1 r1 => ?_
  subst e1
  dsimp only at h2
  split at h2
  · split at h2
    · rename_i j hj
      cases h2
      obtain ⟨v, rfl, r2⟩ := r1.one_of
      cases r2
      exact ⟨j, rfl, by omega, by omega, k _ w1 rfl f1 o1 (jok_rng 0 _)⟩
    · cases h2
  · cases h2
theorem si_enum {ta : TA} {el : EvL} (h : SA K G ta el) : SI K G (iEnum K ta) (iE el) := fun w σ ρ ds S' o rs hh R k => by
  obtain ⟨⟨d, S1⟩, h1, h2⟩ := bnd hh
  refine h w σ ρ d S1 o rs h1 _ fun v w1 e1 f1 o1 r1 => ?_
  subst e1
  dsimp only at h2
  split at h2
  · rename_i ds
    cases h2
    obtain ⟨v, rfl, r2⟩ := r1.one_of
    cases r2 with
    | lst q1 q2 q3 =>
      rename_i a vs
      refine ⟨a, vs, rfl, SqL.of q1, k _ w1 rfl f1 o1 fun i w' m o' => ?_⟩
      obtain ⟨q, _⟩ := m.hp a _ q1 q2
      unfold enumD
      refine ⟨fun d hd => ?_, fun e => ⟨vs, SqL.of q, by rw [q3.length, e]; simp⟩⟩
      rw [List.getElem?_map] at hd
      cases z : (List.range ds.length)[i]? with
      | none => rw [z] at hd; cases hd
      | some c =>
        rw [z] at hd
        cases hd
        obtain ⟨hi, he⟩ := List.getElem?_eq_some_iff.mp z
        rw [List.length_range] at hi
        rw [List.getElem_range] at he
        subst he
        have hg : ds[i]? = some (ds.getD i .non) := by
          rw [List.getD_eq_getElem?_getD, List.getElem?_eq_getElem hi]
          rfl
        obtain ⟨v, g1, g2⟩ := q3.get hg
        refine ⟨⟨vs, v, SqL.of q, g1⟩, fun x H' y => ?_⟩
        obtain ⟨T, u, y1, y2, y3, y4⟩ := y
        have := y4 vs (SqL.of q)
        rw [g1] at this
        cases this
        subst y1 y3
        exact ⟨w'.add T (.tup [.int (i : Nat), v]), rfl, rfl, Fr.add y2, o'.add y2, .tup upd_same (fun z => o'.fresh y2 z) (.cons .int (.one ((g2.mono m).mono (Fr.add y2).mv)))⟩
  · cases h2
def forL (g : EvG) (b : EvS) : List D → EvS
  | [], ρ, S => some (.nx, ρ, S)
  | d :: ds, ρ, S => match g d ρ S with
    | none => none
    | some (ρ1, S1) => match b ρ1 S1 with
      | some (.nx, ρ2, S2) => forL g b ds ρ2 S2
      | some (.ct, ρ2, S2) => forL g b ds ρ2 S2
      | some (.bk, ρ2, S2) => some (.nx, ρ2, S2)
      | r => r
def sFor (it : EvL) (g : EvG) (b : EvS) : EvS := fun ρ S => (it ρ S).bind fun x => forL g b x.1 ρ x.2
theorem forL_ok {g : TG} {eg : EvG} {tb : TS} {eb : EvS} (hg : SG K G g eg) (hb : SS K G tb eb) {w0 w1 : Wd} {J : It} {ds : List D} (jk : JOK K G J w1 ds) {σ : St} {ρ : Rho} {f : Fl} {ρ' : Rho} {S' : Sto} (s : SR K G w0 w1 σ ρ)
    (h : forL eg eb ds ρ w1.S = some (f, ρ', S')) {D : Ends} (p : Post K G w0 w1 D f ρ' S') :
    ∃ W : Nat → Nat → St → Hp → Prop, (∃ m, W 0 m σ w1.H) ∧ ∀ i m σ H, W i m σ H →
      (J.stop i H ∧ D.nx σ H) ∨ (J.go i H ∧ ∃ N : St → Hp → Prop, (∀ σ' H', N σ' H' → ∃ m', m' < m ∧ W (i + 1) m' σ' H') ∧ ∀ x H', J.yld i H x H' → g x σ H' fun σ2 H2 => tb { D with nx := N, ct := N, bk := D.nx } σ2 H2) := by
  refine ⟨fun i m σ H => m = ds.length - i ∧ i ≤ ds.length ∧ ∃ w ρ, w.H = H ∧ Mv w1 w ∧ SR K G w0 w σ ρ ∧ forL eg eb (ds.drop i) ρ w.S = some (f, ρ', S'), ⟨ds.length, by simp, Nat.zero_le _, w1, ρ, rfl, Mv.refl _, s, by simpa using h⟩, ?_⟩
  rintro i m σ H ⟨rfl, hi, w, ρ, rfl, mv, s, hh⟩
  obtain ⟨j1, j2⟩ := jk i w mv s.ok
  by_cases hlt : i < ds.length
  · right
    have hd : ds[i]? = some ds[i] := List.getElem?_eq_getElem hlt
    obtain ⟨go, yl⟩ := j1 _ hd
    rw [List.drop_eq_getElem_cons hlt, forL] at hh
    refine ⟨go, fun σ' H' => ∃ w' ρ2, w'.H = H' ∧ Mv w1 w' ∧ SR K G w0 w' σ' ρ2 ∧ forL eg eb (ds.drop (i + 1)) ρ2 w'.S = some (f, ρ', S'), fun σ' H' ⟨w', ρ2, e, m2, s2, h2⟩ => ⟨_, by omega, rfl, hlt, w', ρ2, e, m2, s2, h2⟩, fun x H' y => ?_⟩
    obtain ⟨w2, e2, eS, f2, o2, r2⟩ := yl x H' y
    subst e2
    cases q1 : eg ds[i] ρ w.S with
    | none => rw [q1] at hh; cases hh
    | some z =>
      obtain ⟨ρ1, S1⟩ := z
      rw [q1] at hh
      dsimp only at hh
      refine hg w0 w2 σ ρ x _ ρ1 S1 (s.step f2 o2) r2 (by rw [eS]; exact q1) _ fun σ3 w3 e3 m3 s3 => ?_
      subst e3
      have m13 : Mv w1 w3 := (mv.trans f2.mv).trans m3
      cases q2 : eb ρ1 w3.S with
      | none => rw [q2] at hh; cases hh
      | some z =>
        obtain ⟨fl, ρ2, S2⟩ := z
        rw [q2] at hh
        refine hb w0 w3 σ3 ρ1 fl ρ2 S2 s3 q2 _ ?_
        cases fl with
        | nx => exact fun σ4 w4 e4 m4 s4 => ⟨w4, ρ2, rfl, m13.trans m4, s4, by rw [e4]; exact hh⟩
        | ct => exact fun σ4 w4 e4 m4 s4 => ⟨w4, ρ2, rfl, m13.trans m4, s4, by rw [e4]; exact hh⟩
        | bk =>
          cases hh
          exact fun σ4 w4 e4 m4 s4 => p σ4 w4 e4 (m13.trans m4) s4
        | rt d => cases hh; exact p
        | rf d => cases hh; exact p
  · left
    have e : i = ds.length := by omega
    refine ⟨j2 e, ?_⟩
    rw [e, List.drop_length, forL] at hh
    cases hh
    exact p σ w rfl mv s
theorem ss_for {wi : TI} {ei : EvL} {g : TG} {eg : EvG} {tb : TS} {eb : EvS} (hi : SI K G wi ei) (hg : SG K G g eg) (hb : SS K G tb eb) : SS K G (tFor wi g tb) (sFor ei eg eb) := fun w0 w σ ρ f ρ' S' s h D p => by
  obtain ⟨⟨ds, S1⟩, h1, h2⟩ := bnd h
  refine hi w σ ρ ds S1 s.ok s.rs h1 _ fun J w1 e1 f1 o1 jk => ?_
  subst e1
  exact forL_ok hg hb jk (s.step f1 o1) h2 (p.from f1.mv)
def wipeR (ρ : Rho) : List Nat → Rho
  | [] => ρ
  | v :: vs => (wipeR ρ vs).set v .no
theorem wipe_at (σ : St) : ∀ (vs : List Nat) (k : Nat), (wipe σ vs)[k]? = if k ∈ vs then σ[k]?.map fun _ => none else σ[k]?
  | [], k => by simp [wipe]
  | v :: vs, k => by
    rw [wipe, List.getElem?_set]
    by_cases h : v = k
    · subst h
      rw [if_pos rfl, if_pos (List.mem_cons_self ..), wipe_length]
      by_cases hl : v < σ.length
      · rw [if_pos hl, List.getElem?_eq_getElem hl]
        rfl
      · rw [if_neg hl, List.getElem?_eq_none (Nat.le_of_not_lt hl)]
        rfl
    · rw [if_neg h, wipe_at σ vs k]
      have : (k ∈ v :: vs) ↔ (k ∈ vs) := by
        simp only [List.mem_cons]
        exact ⟨fun z => z.elim (fun q => absurd q.symm h) id, .inr⟩
      by_cases q : k ∈ vs
      · rw [if_pos q, if_pos (this.mpr q)]
      · rw [if_neg q, if_neg (fun z => q (this.mp z))]
theorem wipe_set {σ : St} {vs : List Nat} {j : Nat} {x : Option V} (h : j ∈ vs) : wipe (σ.set j x) vs = wipe σ vs := by
  apply List.ext_getElem?
  intro k
  rw [wipe_at, wipe_at]
  by_cases q : k ∈ vs
  · rw [if_pos q, if_pos q, List.getElem?_set]
    by_cases z : j = k
    · subst z
      rw [if_pos rfl]
      by_cases hl : j < σ.length
      · rw [if_pos hl, List.getElem?_eq_getElem hl]
        rfl
      · rw [if_neg hl, List.getElem?_eq_none (Nat.le_of_not_lt hl)]
    · rw [if_neg z]
  · rw [if_neg q, if_neg q, List.getElem?_set, if_neg (fun z => q (by rw [← z]; exact h))]
theorem wipe_wipe (σ : St) (vs : List Nat) : wipe (wipe σ vs) vs = wipe σ vs := by
  apply List.ext_getElem?
  intro k
  rw [wipe_at]
  by_cases q : k ∈ vs
  · rw [if_pos q, wipe_at, if_pos q]
    cases σ[k]? <;> rfl
  · rw [if_neg q]
theorem wipeR_at (ρ : Rho) : ∀ (vs : List Nat) (k : Nat), (wipeR ρ vs)[k]? = if k ∈ vs then ρ[k]?.map fun _ => Sl.no else ρ[k]?
  | [], k => by simp [wipeR]
  | v :: vs, k => by
    have len : ∀ vs : List Nat, (wipeR ρ vs).length = ρ.length := fun vs => by
      induction vs with
      | nil => rfl
      | cons v vs ih => rw [wipeR, List.length_set, ih]
    rw [wipeR, List.getElem?_set]
    by_cases h : v = k
    · subst h
      rw [if_pos rfl, if_pos (List.mem_cons_self ..), len]
      by_cases hl : v < ρ.length
      · rw [if_pos hl, List.getElem?_eq_getElem hl]
        rfl
      · rw [if_neg hl, List.getElem?_eq_none (Nat.le_of_not_lt hl)]
        rfl
    · rw [if_neg h, wipeR_at ρ vs k]
      have : (k ∈ v :: vs) ↔ (k ∈ vs) := by
        simp only [List.mem_cons]
        exact ⟨fun z => z.elim (fun q => absurd q.symm h) id, .inr⟩
      by_cases q : k ∈ vs
      · rw [if_pos q, if_pos (this.mpr q)]
      · rw [if_neg q, if_neg (fun z => q (this.mp z))]
theorem wipeR_len (ρ : Rho) : ∀ vs : List Nat, (wipeR ρ vs).length = ρ.length
  | [] => rfl
  | v :: vs => by rw [wipeR, List.length_set, wipeR_len ρ vs]
theorem RS.wipe {w : Wd} {σ : St} {ρ : Rho} (r : RS K w σ ρ) (vs : List Nat) : RS K w (wipe σ vs) (wipeR ρ vs) := by
  refine ⟨by rw [wipe_length, wipeR_len]; exact r.len, fun i d h => ?_, fun i ds h => ?_⟩
  · rw [wipeR_at] at h
    rw [wipe_at]
    by_cases q : i ∈ vs
    · rw [if_pos q] at h
      cases z : ρ[i]? with
      | none => rw [z] at h; cases h
      | some x => rw [z] at h; cases h
    · rw [if_neg q] at h ⊢
      exact r.val i d h
  · rw [wipeR_at] at h
    rw [wipe_at]
    by_cases q : i ∈ vs
    · rw [if_pos q] at h
      cases z : ρ[i]? with
      | none => rw [z] at h; cases h
      | some x => rw [z] at h; cases h
    · rw [if_neg q] at h ⊢
      exact r.acc i ds h
theorem RS.mono {w w' : Wd} {σ : St} {ρ : Rho} (r : RS K w σ ρ) (m : Mv w w') (hb : ∀ a vs, w.H a = some (.lst vs) → w.B a → w'.H a = some (.lst vs) ∧ w'.B a) : RS K w' σ ρ :=
  ⟨r.len, fun i d h => let ⟨v, h1, h2⟩ := r.val i d h; ⟨v, h1, h2.mono m⟩, fun i ds h => let ⟨a, vs, h1, h2, h3, h4⟩ := r.acc i ds h; let ⟨h5, h6⟩ := hb a vs h2 h4; ⟨a, vs, h1, h5, h3.mono m, h6⟩⟩
abbrev EvP := D → Rho → Option Rho
def pNm (i : Nat) : EvP := fun d ρ => match ρ[i]? with
  | some (.acc _) => none
  | some _ => some (ρ.set i (.val d))
  | none => none
def SP (K : PySem.W.Frag) (g : TG) (vs : List Nat) (eg : EvP) : Prop := ∀ w σ ρ x d ρ', RS K w σ ρ → RV K w x d → eg d ρ = some ρ' → ∀ Q : St → Hp → Prop, (∀ σ', wipe σ' vs = wipe σ vs → RS K w σ' ρ' → Q σ' w.H) → g x σ w.H Q
theorem sp_name {i : Nat} {vs : List Nat} (hv : i ∈ vs) : SP K (gName i) vs (pNm i) := fun w σ ρ x d ρ' r rx h Q k => by
  unfold pNm at h
  have fin : ∀ s, ρ[i]? = some s → (∀ ds, s ≠ .acc ds) → some (ρ.set i (.val d)) = some ρ' → gName i x σ w.H Q := fun s hs hn e => by
    cases e
    have hi : i < ρ.length := (List.getElem?_eq_some_iff.mp hs).1
    refine k _ (wipe_set hv) ⟨by rw [List.length_set, List.length_set]; exact r.len, fun j e h => ?_, fun j ds h => ?_⟩
    · by_cases q : i = j
      · subst q
        have z := (get_set_eq h).1
        cases z
        exact ⟨x, by rw [List.getElem?_set, if_pos rfl, if_pos (by rw [r.len]; exact hi)], rx⟩
      · rw [get_set_ne q] at h ⊢
        exact r.val j e h
    · by_cases q : i = j
      · subst q
        have z := (get_set_eq h).1
        cases z
      · rw [get_set_ne q] at h ⊢
        exact r.acc j ds h
  split at h
  · cases h
  · rename_i s hne hs
    exact fin s hs (fun ds z => hne ds z) h
  · cases h
def tYesE : EvT := fun _ S => some (true, S)
theorem st_yes : STt K G tYes tYesE := fun w σ ρ b S' o rs h Q k => by
  cases h
  exact k w rfl (Fr.refl w) o
def lcC (g : EvP) (t : EvT) (e : Ev) (ρ : Rho) : List D → Sto → Option (List D × Sto)
  | [], S => some ([], S)
  | d :: ds, S => (g d ρ).bind fun ρ1 => (t ρ1 S).bind fun b => if b.1 = true then (e ρ1 b.2).bind fun x => (lcC g t e ρ ds x.2).bind fun r => some (x.1 :: r.1, r.2) else lcC g t e ρ ds b.2
def fLc (it : EvL) (vs : List Nat) (g : EvP) (t : EvT) (e : Ev) : EvL := fun ρ S => (it ρ S).bind fun x => (lcC g t e (wipeR ρ vs) x.1 x.2).bind fun r => if r.1.length ≤ sizeLine then some r else none
theorem sf_lc {wi : TI} {ei : EvL} {g : TG} {eg : EvP} {tt : TT} {et : EvT} {te : TE} {ee : Ev} {vs : List Nat} (hi : SI K G wi ei) (hg : SP K g vs eg) (ht : STt K G tt et) (he : SE K G te ee) : SF K G (tLc wi g tt te vs) (fLc ei vs eg et ee) := fun w σ ρ res S' o rs h Q k => by
  obtain ⟨⟨ds, S1⟩, h1, h2⟩ := bnd h
  obtain ⟨⟨rr, S9⟩, h3, h4⟩ := bnd h2
  split at h4
  · rename_i hsz
    cases h4
    refine hi w σ ρ ds S1 o rs h1 _ fun J w1 e1 f1 o1 jk Da hD => ?_
    subst e1
    have rs1 := (rs.fr o f1).wipe vs
    have rsOf : ∀ wc : Wd, Fr w1 (wc.withB w1.B) → Mv w1 wc → (∀ a, wc.B a ↔ (w1.B a ∨ a = Da)) → RS K wc (wipe σ vs) (wipeR ρ vs) := fun wc fc mc bc =>
      rs1.mono mc fun a us z1 z2 => ⟨(fc.hp a _ z1 (o1.dis a z2)).1, (bc a).mpr (.inl z2)⟩
    -- the new list barred
    refine ⟨fun i m H => m = ds.length - i ∧ i ≤ ds.length ∧ ∃ wc av acc rest, wc.H = H ∧ Fr w1 (wc.withB w1.B) ∧ Mv w1 wc ∧ Ok K G wc ∧ (∀ a, wc.B a ↔ (w1.B a ∨ a = Da)) ∧ wc.H Da = some (.lst av) ∧ RVs K wc av acc ∧
      lcC eg et ee (wipeR ρ vs) (ds.drop i) wc.S = some (rest, S') ∧ acc ++ rest = res, ?_, ?_⟩
    · refine ⟨ds.length, by simp, Nat.zero_le _, ?_⟩
      -- the start: as for any new list
      let QQ : VK := fun v H => ∃ p, v = .ref p ∧ ∃ wc av acc rest, wc.H = H ∧ Fr w1 (wc.withB w1.B) ∧ Mv w1 wc ∧ Ok K G wc ∧ (∀ a, wc.B a ↔ (w1.B a ∨ a = p)) ∧ wc.H p = some (.lst av) ∧ RVs K wc av acc ∧
        lcC eg et ee (wipeR ρ vs) (ds.drop 0) wc.S = some (rest, S') ∧ acc ++ rest = res
      have kk : Kf K G w1 [] w1.S QQ := fun p us w' e' f' n' o' hp r' => by
        have m' : Mv w1 (w'.ban p) := ⟨f'.io, fun a u e q => by
          obtain ⟨h1, h2⟩ := f'.mv.hp a u e q
          refine ⟨h1, fun z => ?_⟩
          rcases z with (z | z) | z
          · exact h2 (.inl z)
          · rw [z, n'] at e
            cases e
          · exact h2 (.inr z), f'.fz⟩
        refine ⟨p, rfl, w'.ban p, us, [], res, rfl, ?_, m', o', fun a => by rw [← f'.bb]; exact Iff.rfl, hp, r', ?_, rfl⟩
        · exact ⟨f'.io, f'.hp, f'.fz, rfl⟩
        · rw [List.drop_zero]
          show lcC eg et ee (wipeR ρ vs) ds w'.S = _
          rw [e']
          exact h3
      have z : QQ (.ref Da) (upd w1.H Da (.lst [])) := Kf.new kk o1 .nil hD
      obtain ⟨p, e, z⟩ := z
      cases e
      exact z
    · rintro i m H ⟨rfl, hi', wc, av, acc, rest, rfl, fc, mc, oc, bc, hc, rc, lc, er⟩
      have rsc := rsOf wc fc mc bc
      obtain ⟨j1, j2⟩ := jk i wc mc oc
      by_cases hlt : i < ds.length
      · right
        have hd : ds[i]? = some ds[i] := List.getElem?_eq_getElem hlt
        obtain ⟨go, yl⟩ := j1 _ hd
        rw [List.drop_eq_getElem_cons hlt, lcC] at lc
        obtain ⟨ρ1, q1, lc⟩ := bnd lc
        obtain ⟨⟨b, S3⟩, q2, lc⟩ := bnd lc
        refine ⟨go, fun H' => ∃ wc' av acc rest, wc'.H = H' ∧ Fr w1 (wc'.withB w1.B) ∧ Mv w1 wc' ∧ Ok K G wc' ∧ (∀ a, wc'.B a ↔ (w1.B a ∨ a = Da)) ∧ wc'.H Da = some (.lst av) ∧ RVs K wc' av acc ∧
          lcC eg et ee (wipeR ρ vs) (ds.drop (i + 1)) wc'.S = some (rest, S') ∧ acc ++ rest = res, fun H' z => ⟨_, by omega, rfl, hlt, z⟩, fun x H' y => ?_⟩
        obtain ⟨w2, e2, eS, f2, o2, r2⟩ := yl x H' y
        subst e2
        have rs2 := rsc.fr oc f2
        refine hg w2 (wipe σ vs) (wipeR ρ vs) x _ ρ1 rs2 r2 q1 _ fun σ3 hw3 rs3 => ⟨by rw [hw3, wipe_wipe], ?_⟩
        refine ht w2 σ3 ρ1 b S3 o2 rs3 (by rw [eS]; exact q2) _ fun w3 e3 f3 o3 => ?_
        subst e3
        have f23 : Fr wc w3 := f2.trans f3
        have keepD : ∀ {w5 : Wd}, Fr wc w5 → w5.H Da = some (.lst av) := fun {w5} f5 => (f5.hp Da _ hc (oc.dis Da ((bc Da).mpr (.inr rfl)))).1
        have toFr : ∀ {w5 : Wd}, Fr wc w5 → Fr w1 (w5.withB w1.B) := fun {w5} f5 => ⟨fun l a e => f5.io l a (fc.io l a e), fun a u e q => let ⟨z1, z2⟩ := fc.hp a u e q; f5.hp a u z1 z2, fun a q u e => f5.fz a q u (fc.fz a q u e), rfl⟩
        cases b with
        | false =>
          rw [if_neg Bool.false_ne_true] at lc ⊢
          exact ⟨w3, av, acc, rest, rfl, toFr f23, mc.trans f23.mv, o3, fun a => by rw [f23.bb]; exact bc a, keepD f23, rc.mono f23.mv, lc, er⟩
        | true =>
          rw [if_pos rfl] at lc ⊢
          obtain ⟨⟨d5, S5⟩, q5, lc⟩ := bnd lc
          obtain ⟨⟨r6, S6⟩, q6, lc⟩ := bnd lc
          cases lc
          refine he w3 σ3 ρ1 d5 S5 o3 (rs3.fr o2 f3) q5 _ fun v5 w5 e5 f5 o5 r5 => ?_
          subst e5
          have f25 : Fr wc w5 := f23.trans f5
          have b5 : w5.B Da := by rw [f25.bb]; exact (bc Da).mpr (.inr rfl)
          obtain ⟨m6, o6⟩ := o5.updB (p := Da) (u := .lst (av ++ [v5])) b5 (fun q z y => by rw [keepD f25] at y; cases y)
          have lacc : acc.length < sizeLine := by
            have h5 := congrArg List.length er
            rw [List.length_append, List.length_cons] at h5
            have h6 : res.length ≤ sizeLine := hsz
            omega
          refine ⟨av, keepD f25, by rw [rc.length]; exact lacc, ?_⟩
          refine ⟨{ w5 with H := upd w5.H Da (.lst (av ++ [v5])) }, av ++ [v5], acc ++ [d5], r6, rfl, ?_, (mc.trans f25.mv).trans m6, o6, fun a => ?_, upd_same, ((rc.mono f25.mv).append (.one r5)).mono m6, q6, by rw [List.append_assoc]; exact er⟩
          · have t := toFr f25
            refine ⟨t.io, fun a u e q => ?_, fun a q u e => ?_, rfl⟩
            · obtain ⟨z1, z2⟩ := t.hp a u e q
              refine ⟨?_, z2⟩
              show upd w5.H Da _ a = some u
              rw [upd_ne (ne_of_none e hD)]
              exact z1
            · show upd w5.H Da _ a = some (.frz q u)
              rw [upd_ne (ne_of_none e hD)]
              exact t.fz a q u e
          · show w5.B a ↔ _
            rw [f25.bb]
            exact bc a
      · left
        have e : i = ds.length := by omega
        refine ⟨j2 e, ?_⟩
        rw [e, List.drop_length, lcC] at lc
        cases lc
        rw [List.append_nil] at er
        subst er
        refine k Da av (wc.withB w.B) rfl ?_ (f1.free' o1 hD) ?_ hc ?_
        · have t := f1.trans fc
          exact ⟨t.io, t.hp, t.fz, rfl⟩
        · exact oc.shrink (B := ((wc.withB w.B).ban Da).B) fun a z => (bc a).mpr (by
            rcases z with z | z
            · exact .inl (by rw [f1.bb]; exact z)
            · exact .inr z)
        · exact rc.mono (Mv.shrink (w := wc) (B := ((wc.withB w.B).ban Da).B) fun a z => (bc a).mpr (by
            rcases z with z | z
            · exact .inl (by rw [f1.bb]; exact z)
            · exact .inr z))
  · cases h4
end
end AH
set_option maxRecDepth 100000
set_option maxHeartbeats 2000000
namespace AH
open PySem L2 TL
def Wd.own (w : Wd) (p : Addr) (o : MO) : Wd := { w with io := fun l => if l = w.S.next then some p else w.io l, S := w.S.new o }
section
variable {K : PySem.W.Frag} {G : Gx}
theorem Fr.own {w0 w : Wd} {p : Addr} {o : MO} (f : Fr w0 w) (k : Ok K G (w.ban p)) (h0 : w0.H p = none) : Fr w0 (w.own p o) := ⟨fun l a e => by
  show (if l = w.S.next then some p else w.io l) = some a
  have e1 := f.io l a e
  rw [if_neg (fun q => by
    have z : w.io w.S.next = none := k.noio
    rw [q, z] at e1
    cases e1)]
  exact e1, fun a z e nu => by
  obtain ⟨h1, h2⟩ := f.hp a z e nu
  refine ⟨h1, fun ⟨l, q⟩ => ?_⟩
  have q' : (if l = w.S.next then some p else w.io l) = some a := q
  by_cases y : l = w.S.next
  · rw [if_pos y] at q'
    cases q'
    rw [h0] at e
    cases e
  · rw [if_neg y] at q'
    exact h2 ⟨l, q'⟩, f.fz, f.bb⟩
theorem own_mv {w : Wd} {p : Addr} {o : MO} (k : Ok K G (w.ban p)) : Mv (w.ban p) (w.own p o) := ⟨fun l a e => by
  show (if l = w.S.next then some p else w.io l) = some a
  have e1 : w.io l = some a := e
  rw [if_neg (fun q => by
    have z : w.io w.S.next = none := k.noio
    rw [q, z] at e1
    cases e1)]
  exact e1, fun a u e n => ⟨e, fun z => by
  rcases z with z | ⟨l, q⟩
  · exact n (.inl (.inl z))
  · have q' : (if l = w.S.next then some p else w.io l) = some a := q
    by_cases y : l = w.S.next
    · rw [if_pos y] at q'
      cases q'
      exact n (.inl (.inr rfl))
    · rw [if_neg y] at q'
      exact n (.inr ⟨l, q'⟩)⟩, fun _ _ _ e => e⟩
theorem Ok.own {w : Wd} {p : Addr} {ds : List D} {vs : List V} (k : Ok K G (w.ban p)) (h : w.H p = some (.lst vs)) (r : RVs K (w.ban p) vs ds) (hb : ¬ w.B p) : Ok K G (w.own p (.lst ds)) where
  obj := fun l o' e => by
    have e' : (if l = w.S.next then some (MO.lst ds) else w.S.get l) = some o' := e
    show ∃ a, (if l = w.S.next then some p else w.io l) = some a ∧ _
    by_cases q : l = w.S.next
    · rw [if_pos q] at e' ⊢
      cases e'
      exact ⟨p, rfl, vs, h, r.mono (own_mv k)⟩
    · rw [if_neg q] at e' ⊢
      obtain ⟨a, h1, h2⟩ := k.obj l o' e'
      exact ⟨a, h1, h2.mono (own_mv k) rfl⟩
  inj := fun l l' a e e' => by
    have q : (if l = w.S.next then some p else w.io l) = some a := e
    have q' : (if l' = w.S.next then some p else w.io l') = some a := e'
    have np : ∀ l, w.io l ≠ some p := fun l z => k.dis p (.inr rfl) ⟨l, z⟩
    by_cases z : l = w.S.next <;> by_cases z' : l' = w.S.next
    · rw [z, z']
    · rw [if_pos z] at q
      rw [if_neg z'] at q'
      cases q
      exact absurd q' (np _)
    · rw [if_neg z] at q
      rw [if_pos z'] at q'
      cases q'
      exact absurd q (np _)
    · rw [if_neg z] at q
      rw [if_neg z'] at q'
      exact k.inj l l' a q q'
  dom := fun l e => by
    have e' : (if l = w.S.next then some (MO.lst ds) else w.S.get l) = none := e
    show (if l = w.S.next then some p else w.io l) = none
    by_cases q : l = w.S.next
    · rw [if_pos q] at e'
      cases e'
    · rw [if_neg q] at e' ⊢
      exact k.dom l e'
  nxt := fun l e => by
    have e : w.S.next + 1 ≤ l := e
    show (if l = w.S.next then some (MO.lst ds) else w.S.get l) = none
    rw [if_neg (by omega)]
    exact k.nxt l (by show w.S.next ≤ l; omega)
  dis := fun a b ⟨l, q⟩ => by
    have q' : (if l = w.S.next then some p else w.io l) = some a := q
    by_cases z : l = w.S.next
    · rw [if_pos z] at q'
      cases q'
      exact hb b
    · rw [if_neg z] at q'
      exact k.dis a (.inl b) ⟨l, q'⟩
  bh := fun a b => k.bh a (.inl b)
  tb := fun a ps e => by
    obtain ⟨l, z⟩ := k.tb a ps e
    refine ⟨l, ?_⟩
    show (if l = w.S.next then some p else w.io l) = some a
    rw [if_neg (fun y => by
      have n : w.io w.S.next = none := k.noio
      have z : w.io l = some a := z
      rw [y, n] at z
      cases z)]
    exact z
  bx := fun a φ b => k.bx a φ (.inl b)
def eOwn (a : EvL) : Ev := fun ρ S => (a ρ S).bind fun x => some (.ref x.2.next, x.2.new (.lst x.1))
theorem se_own {te : TE} {el : EvL} (h : SF K G te el) : SE K G te (eOwn el) := fun w σ ρ d S' o rs hh Q k => by
  obtain ⟨⟨ds, S1⟩, h1, h2⟩ := bnd hh
  cases h2
  refine h w σ ρ ds _ o rs h1 _ fun p vs w1 e1 f1 n1 o1 hp r1 => ?_
  subst e1
  have nb : ¬ w1.B p := fun z => by
    rw [f1.bb] at z
    obtain ⟨q, hq⟩ := o.bh p z
    rw [n1] at hq
    cases hq
  refine k (.ref p) (w1.own p (.lst ds)) rfl (Fr.own f1 o1 n1) (o1.own hp r1 nb) (.ref ?_)
  show (if w1.S.next = w1.S.next then some p else w1.io w1.S.next) = some p
  rw [if_pos rfl]
theorem Ok.list {w : Wd} {v : V} {l : Nat} {ds : List D} (o : Ok K G w) (r : RV K w v (.ref l)) (h : w.S.get l = some (.lst ds)) : ∃ a vs, v = .ref a ∧ w.io l = some a ∧ w.H a = some (.lst vs) ∧ RVs K w vs ds := by
  cases r with
  | ref h1 =>
    obtain ⟨a, q1, vs, q2, q3⟩ := o.obj l _ h
    rw [h1] at q1
    cases q1
    exact ⟨_, vs, rfl, h1, q2, q3⟩
theorem Ok.relist {w : Wd} {l : Nat} {a : Addr} {ds es : List D} {vs us : List V} (o : Ok K G w) (h : w.S.get l = some (.lst ds)) (hi : w.io l = some a) (hv : w.H a = some (.lst vs)) (r : RVs K w us es) :
    Fr w (w.put l (.lst es) a (.lst us)) ∧ Ok K G (w.put l (.lst es) a (.lst us)) := by
  have nf : ∀ q z, w.H a ≠ some (.frz q z) := fun q z y => by
    rw [hv] at y
    cases y
  have f := Fr.put (o := .lst es) (u := .lst us) hi nf
  exact ⟨f, o.put h hi nf ⟨us, upd_same, r.mono f.mv⟩⟩
/-- o[i] = v, a list of the store -/
def gSb (eo ei : Ev) : EvG := fun d ρ S => (eo ρ S).bind fun x => (ei ρ x.2).bind fun y => match x.1, y.1 with
  | .ref l, .int i => match y.2.get l with
    | some (.lst ds) => (ixN ds.length i).bind fun j => some (ρ, y.2.set l (.lst (ds.set j d)))
    | _ => none
  | _, _ => none
theorem sg_sub {to ti : TE} {eo ei : Ev} (ho : SE K G to eo) (hi : SE K G ti ei) : SG K G (gSub to ti rSetL) (gSb eo ei) := fun w0 w σ ρ x d ρ' S' s r h Q k => by
  obtain ⟨⟨dx, S1⟩, h1, h2⟩ := bnd h
  obtain ⟨⟨dy, S2⟩, h3, h4⟩ := bnd h2
  refine ho w σ ρ dx S1 s.ok s.rs h1 _ fun ov w1 e1 f1 o1 r1 => ?_
  subst e1
  have s1 := s.step f1 o1
  refine hi w1 σ ρ dy S2 s1.ok s1.rs h3 _ fun iv w2 e2 f2 o2 r2 => ?_
  subst e2
  have s2 := s1.step f2 o2
  dsimp only at h4
  split at h4
  · rename_i l i
    split at h4
    · rename_i ds hl
      obtain ⟨j, h5, h6⟩ := bnd h4
      cases h6
      cases r2
      obtain ⟨a, vs, rfl, q1, q2, q3⟩ := o2.list (r1.mono f2.mv) hl
      obtain ⟨f3, o3⟩ := o2.relist hl q1 q2 (q3.set (r.mono (f1.trans f2).mv) j)
      exact ⟨a, vs, i, j, rfl, rfl, q2, by rw [q3.length]; exact h5, k σ (w2.put l (.lst (ds.set j d)) a (.lst (vs.set j x))) rfl ((f1.trans f2).trans f3).mv (s2.step f3 o3)⟩
    · cases h4
  · cases h4
/-- methods of the store's lists -/
def fPopAt (a : D) (bs : List D) (S : Sto) : Option (D × Sto) := match a, bs with
  | .ref l, [.int i] => if 0 ≤ i then match S.get l with
    | some (.lst ds) => (ds[i.toNat]?).bind fun d => if ds.length ≤ sizeLine then some (d, S.set l (.lst (ds.eraseIdx i.toNat))) else none
    | _ => none
    else none
  | _, _ => none
def fAppend (a : D) (bs : List D) (S : Sto) : Option (D × Sto) := match a, bs with
  | .ref l, [d] => match S.get l with
    | some (.lst ds) => if ds.length < sizeLine then some (.non, S.set l (.lst (ds ++ [d]))) else none
    | _ => none
  | _, _ => none
def fClear (a : D) (bs : List D) (S : Sto) : Option (D × Sto) := match a, bs with
  | .ref l, [] => match S.get l with
    | some (.lst ds) => some (.non, S.set l (.lst []))
    | _ => none
  | _, _ => none
theorem sm_popAt : SM K G rPopAt fPopAt := fun w x dx xs ds d S' o rx r hh Q k => by
  unfold fPopAt at hh
  split at hh
  · split at hh
    · rename_i l i h0
      split at hh
      · rename_i es hl
        obtain ⟨y, h1, h2⟩ := bnd hh
        split at h2
        · rename_i hz
          cases h2
          obtain ⟨v, rfl, r1⟩ := r.one_of
          cases r1
          obtain ⟨a, vs, rfl, q1, q2, q3⟩ := o.list rx hl
          obtain ⟨u, q4, q5⟩ := q3.get h1
          have lt : i.toNat < es.length := (List.getElem?_eq_some_iff.mp h1).1
          have hs : sizeLine = 16777216 := sizeLine_eq
          obtain ⟨f3, o3⟩ := o.relist hl q1 q2 (q3.eraseIdx i.toNat)
          refine ⟨a, vs, i, i.toNat, u, rfl, rfl, q2, by omega, by omega, ?_, q4, k _ (w.put l (.lst (es.eraseIdx i.toNat)) a (.lst (vs.eraseIdx i.toNat))) rfl f3 o3 (q5.mono f3.mv)⟩
          have hx : ixN vs.length i = some i.toNat := by
            unfold ixN
            rw [q3.length, if_pos h0, if_pos (by omega)]
          exact (ixN_seq hx).1
        · cases h2
      · cases hh
    · cases hh
  · cases hh
/-- a method of a list -/
theorem tyV_of {w : Wd} {v : V} {l : Nat} (o : Ok K G w) (r : RV K w v (.ref l)) {ds : List D} (h : w.S.get l = some (.lst ds)) : tyV K "list" v w.H := by
  obtain ⟨a, vs, rfl, q1, q2, q3⟩ := o.list r h
  exact ty_list q2
def eBM (f : D → List D → Sto → Option (D × Sto)) (eo : Ev) (el : EvL) : Ev := fun ρ S => (eo ρ S).bind fun x => match x.1 with
  | .ref l => match x.2.get l with
    | some (.lst _) => (el ρ x.2).bind fun y => f x.1 y.1 y.2
    | _ => none
  | _ => none
theorem se_bm {r : V → List V → Hp → VK → Prop} {f : D → List D → Sto → Option (D × Sto)} {to : TE} {ta : TA} {eo : Ev} {el : EvL} (hr : SM K G r f) (ho : SE K G to eo) (ha : SA K G ta el) : SE K G (tBM K "list" r to ta) (eBM f eo el) := fun w σ ρ d S' o rs h Q k => by
  obtain ⟨⟨dx, S1⟩, h1, h2⟩ := bnd h
  refine ho w σ ρ dx S1 o rs h1 _ fun x w1 e1 f1 o1 r1 => ?_
  subst e1
  dsimp only at h2
  split at h2
  · rename_i l
    split at h2
    · rename_i es hl
      obtain ⟨⟨ds, S2⟩, h3, h4⟩ := bnd h2
      refine ⟨tyV_of o1 r1 hl, ha w1 σ ρ ds S2 o1 (rs.fr o f1) h3 _ fun xs w2 e2 f2 o2 r2 => ?_⟩
      subst e2
      exact hr w2 x _ xs ds d S' o2 (r1.mono f2.mv) r2 h4 Q (Kd.from k (f1.trans f2))
    · cases h2
  · cases h2
inductive Out where
  | v (d : D) | f (ds : List D)
abbrev Fn := List D → Sto → Option (Out × Sto)
def KO (K : PySem.W.Frag) (G : Gx) (w : Wd) (o : Out) (S' : Sto) (Q : VK) : Prop := match o with
  | .v d => Kd K G w d S' Q
  | .f ds => Kf K G w ds S' Q
def spOf (K : PySem.W.Frag) (G : Gx) (n : Nat) (F : Fn) : Sp := fun vs H Q _ => ∃ (w : Wd) (ds : List D) (o : Out) (S' : Sto), w.H = H ∧ vs.length = n ∧ Ok K G w ∧ RVs K w vs ds ∧ F ds w.S = some (o, S') ∧ KO K G w o S' Q
def rho0 (m : Nat) (ds : List D) : Rho := ds.map Sl.val ++ List.replicate (m - ds.length) Sl.no
def runB (n m : Nat) (b : EvS) : Fn := fun ds S => if ds.length = n then match b (rho0 m ds) S with
  | some (.nx, _, S') => some (.v .non, S')
  | some (.rt d, _, S') => some (.v d, S')
  | some (.rf ds, _, S') => some (.f ds, S')
  | _ => none
  else none
theorem runB_len {n m : Nat} {b : EvS} : ∀ ds S r, runB n m b ds S = some r → ds.length = n := fun ds S r h => by
  unfold runB at h
  split at h
  · rename_i e
    exact e
  · cases h
theorem rho0_rs {w : Wd} {N : List Str} {vs : List V} {ds : List D} (r : RVs K w vs ds) (hl : ds.length ≤ N.length) : RS K w (L2.start N vs) (rho0 N.length ds) := by
  have e := r.length
  have hi : ∀ (i : Nat) (s : Sl), (rho0 N.length ds)[i]? = some s → (∀ d, s = .val d → ds[i]? = some d) ∧ ∀ es, s ≠ .acc es := fun i s h => by
    unfold rho0 at h
    by_cases q : i < ds.length
    · rw [List.getElem?_append_left (by rw [List.length_map]; exact q), List.getElem?_map] at h
      cases z : ds[i]? with
      | none => rw [z] at h; cases h
      | some d =>
        rw [z] at h
        cases h
        exact ⟨fun d' e' => by cases e'; rfl, fun es z => by cases z⟩
    · rw [List.getElem?_append_right (by rw [List.length_map]; omega), List.getElem?_replicate] at h
      split at h
      · cases h
        exact ⟨fun d' e' => (by cases e'), fun es z => (by cases z)⟩
      · cases h
  refine ⟨?_, fun i d h => ?_, fun i es h => absurd rfl ((hi i _ h).2 es)⟩
  · unfold L2.start rho0
    simp [e]
  · have hd := (hi i _ h).1 d rfl
    obtain ⟨v, h1, h2⟩ := r.get hd
    refine ⟨v, ?_, h2⟩
    unfold L2.start
    have lt : i < vs.length := (List.getElem?_eq_some_iff.mp h1).1
    rw [List.getElem?_append_left (by rw [List.length_map]; exact lt), List.getElem?_map, h1]
    rfl
theorem rho0_acc {N : Nat} {ds : List D} {i : Nat} {es : List D} : (rho0 N ds)[i]? ≠ some (.acc es) := fun h => by
  unfold rho0 at h
  by_cases q : i < ds.length
  · rw [List.getElem?_append_left (by rw [List.length_map]; exact q), List.getElem?_map] at h
    cases z : ds[i]? with
    | none => rw [z] at h; cases h
    | some d => rw [z] at h; cases h
  · rw [List.getElem?_append_right (by rw [List.length_map]; omega), List.getElem?_replicate] at h
    split at h <;> cases h
/-- a body does what its run says -/
theorem body_ok {N : List Str} {n : Nat} {t : TS} {b : EvS} (hs : SS K G t b) {vs : List V} {H : Hp} {Q : VK} {E : XK} (hn : n ≤ N.length) (h : spOf K G n (runB n N.length b) vs H Q E) : t { nx := fun _ H' => Q .non H', rt := Q } (L2.start N vs) H := by
  obtain ⟨w, ds, o, S', rfl, hl, ok, r, hh, k⟩ := h
  unfold runB at hh
  split at hh
  · rename_i hd
    have sr : SR K G w w (L2.start N vs) (rho0 N.length ds) :=
      ⟨ok, rho0_rs r (by omega), fun _ _ e => e, fun _ _ e n => ⟨e, n⟩, fun _ _ _ e => e, fun a => ⟨.inl, fun z => z.elim id fun ⟨i, es, z, _⟩ => absurd z rho0_acc⟩, fun a ⟨i, es, z, _⟩ => absurd z rho0_acc, fun i j es fs a z => absurd z rho0_acc, ok.bh⟩
    cases e : b (rho0 N.length ds) w.S with
    | none => rw [e] at hh; cases hh
    | some z =>
      obtain ⟨fl, ρ', S1⟩ := z
      rw [e] at hh
      refine hs w w _ _ fl ρ' S1 sr e _ ?_
      cases fl with
      | nx =>
        cases hh
        intro σ' w' e' m s
        obtain ⟨q1, q2, q3⟩ := s.out
        exact k .non (w'.withB w.B) e' q1 q2 .non
      | rt d =>
        cases hh
        exact fun v w' e' f o r => k v w' e' f o r
      | rf es =>
        cases hh
        exact fun p us w' e' f n o hp r => k p us w' e' f n o hp r
      | bk => cases hh
      | ct => cases hh
  · cases hh
def callE (F : Fn) (ds : List D) (S : Sto) : Option (D × Sto) := (F ds S).bind fun r => match r.1 with
  | .v d => some (d, r.2)
  | .f es => some (.lst es, r.2)
def callF (F : Fn) (ds : List D) (S : Sto) : Option (List D × Sto) := (F ds S).bind fun r => match r.1 with
  | .v _ => none
  | .f es => some (es, r.2)
theorem se_call {n : Nat} {F : Fn} {ta : TA} {el : EvL} {E : XK} (hn : ∀ ds S r, F ds S = some r → ds.length = n) (ha : SA K G ta el) : SE K G (tCall (spOf K G n F) [] E ta) (eN (callE F) el) := fun w σ ρ d S' o rs h Q k => by
  obtain ⟨⟨ds, S1⟩, h1, h2⟩ := bnd h
  refine ha w σ ρ ds S1 o rs h1 _ fun vs w1 e1 f1 o1 r1 => ?_
  subst e1
  obtain ⟨⟨r, S2⟩, h3, h4⟩ := bnd h2
  rw [List.append_nil]
  refine ⟨w1, ds, r, S2, rfl, by rw [r1.length]; exact hn _ _ _ h3, o1, r1, h3, ?_⟩
  cases r with
  | v d' => cases h4; exact Kd.from k f1
  | f es => cases h4; exact Kf.of (Kd.from k f1) o1
end
end AH
namespace AH
open PySem L2 TL
section
variable {K : PySem.W.Frag} {G : Gx}
theorem rv_str {z : Str} {c : List Nat} (h : z = ⟨c.toArray⟩) (w : Wd) : RV K w (.str z) (.str c) := by
  rw [h]
  exact .str
theorem rv_int {i : Int} (w : Wd) : RV K w (.int i) (.int i) := .int
theorem rv_bl {i : Bool} (w : Wd) : RV K w (.bl i) (.bl i) := .bl
theorem rv_non (w : Wd) : RV K w .non .non := .non
theorem rv_raw {v : V} (w : Wd) : RV K w v (.raw v) := .raw
def S1 (K : PySem.W.Frag) (G : Gx) (r : V → Hp → VK → Prop) (f : D → Sto → Option (D × Sto)) : Prop := ∀ w x dx d S', Ok K G w → RV K w x dx → f dx w.S = some (d, S') → ∀ Q, Kd K G w d S' Q → r x w.H Q
theorem se_un {r : V → Hp → VK → Prop} {f : D → Sto → Option (D × Sto)} {ta : TE} {ea : Ev} (hr : S1 K G r f) (ha : SE K G ta ea) : SE K G (tUn r ta) (e1 f ea) := fun w σ ρ d S' o rs h Q k => by
  obtain ⟨⟨dx, S1⟩, h1, h2⟩ := bnd h
  refine ha w σ ρ dx S1 o rs h1 _ fun x w1 e1 f1 o1 r1 => ?_
  subst e1
  exact hr w1 x dx d S' o1 r1 h2 Q (Kd.from k f1)
theorem s1_neg : S1 K G (rU fun i => .int (-i)) fNeg := fun w x dx d S' o rx hh Q k => by
  unfold fNeg at hh
  split at hh
  · cases hh
    cases rx
    exact ⟨_, rfl, Kd.now k o .int⟩
  · cases hh
/-- nothing is promised -/
theorem fn_none {P : Program} {w : World} {mg : Str → Option Value} {base : Heap} {k : Nat} {f : Addr} {fd : FuncData} {ps : List Str} : FnOk P w K mg base CX0 k f fd ps (spOf K G ps.length fun _ _ => none) :=
  ⟨fun vs H Q E h => (let ⟨_, _, _, _, _, hl, _⟩ := h; hl), fun A outer s H args us vs Q E hr e0 hb r h => (let ⟨_, _, _, _, _, _, _, _, hh, _⟩ := h; nomatch hh)⟩
theorem sp_len {n : Nat} {F : Fn} : ∀ (vs : List V) (H : Hp) (Q : VK) (E : XK), spOf K G n F vs H Q E → vs.length = n := fun vs H Q E h => let ⟨_, _, _, _, _, hl, _⟩ := h; hl
end
end AH
set_option maxRecDepth 100000
set_option maxHeartbeats 2000000
namespace AH
open PySem L2 TL PySem.Spec PyProof.Rows
section
variable {X : Cx}
theorem opAdd (K : PySem.W.Frag) (h : X.K = K := by rfl) : OpR X (binaryOp .Add) (rAddAny K) := by subst h; exact op_addAny
theorem opEq (K : PySem.W.Frag) (hu : X.A.units + 64 < cLine) (h : X.K = K := by rfl) : OpR X (compareOp .Eq) (rEqAny K) := by subst h; exact op_eqAny hu
theorem opNe (K : PySem.W.Frag) (hu : X.A.units + 64 < cLine) (h : X.K = K := by rfl) : OpR X (compareOp .NotEq) (rNeAny K) := by subst h; exact op_neAny hu
theorem opIn (K : PySem.W.Frag) (h : X.K = K := by rfl) : OpR X (compareOp .In) (rIn K false) := by subst h; exact op_in_seq
theorem ixSeq (K : PySem.W.Frag) (h : X.K = K := by rfl) : IxR X (rIx K) := by subst h; exact ix_seq
theorem slAny (K : PySem.W.Frag) (h : X.K = K := by rfl) : SlR X (rSlAny K) := by subst h; exact sl_any
theorem slList (K : PySem.W.Frag) (h : X.K = K := by rfl) : SlR X (rSlL K) := by subst h; exact sl_list
theorem callLen (K : PySem.W.Frag) (h : X.K = K := by rfl) : CallR X (.builtin "len") (rLenAny K) := by subst h; exact call_len
theorem callList (K : PySem.W.Frag) (h : X.K = K := by rfl) : CallR X (.type "list") (rListOfR K) := by subst h; exact call_list_of
theorem callTup (K : PySem.W.Frag) (h : X.K = K := by rfl) : CallR X (.type "tuple") (rTupOfR K) := by subst h; exact call_tuple_of
theorem callIsi (K : PySem.W.Frag) (h : X.K = K := by rfl) : CallR X (.builtin "isinstance") (rIsi K) := by subst h; exact call_isi
def rJoinR (K : PySem.W.Frag) : V → List V → Hp → VK → Prop := fun x xs H Q => ∃ a p, ∃ ys : List Str, x = .str a ∧ xs = [.ref p] ∧ (SqL K H p (ys.map V.str) ∨ SqT K H p (ys.map V.str)) ∧ (ys.map (·.length)).sum + ys.length * a.length ≤ 16777216 ∧ Q (.str (Txt.join a ys)) H
theorem piList (K : PySem.W.Frag) {tg l : Expr} {tl : TE} (hl : PE X l tl) (h : X.K = K := by rfl) : PI X tg l (iList K tl) := by subst h; exact pi_list hl
theorem piTup (K : PySem.W.Frag) {tg l : Expr} {tl : TE} (hl : PE X l tl) (h : X.K = K := by rfl) : PI X tg l (iTup K tl) := by subst h; exact pi_tup hl
theorem piEnum (K : PySem.W.Frag) {e : Expr} {ta : TA} {p pos tpos : Pos} {elts : List Expr} {kk : Nat} (hg : Gl X "enumerate") (hm : X.mg "enumerate" = none) (ha : PA X [e] ta) (hs : starEach [e] X.env = [(false, eval e X.env)] := by rfl) (h : X.K = K := by rfl) :
    PI X (.Tuple elts kk tpos) (.Call (.Name "enumerate" p) [e] [] pos) (iEnum K ta) := by subst h; exact pi_enum hg hm ha hs
theorem pgTup (K : PySem.W.Frag) {es : List Expr} {k : Nat} {t : TGs} {n : Nat} {pos : Pos} (hc : X.calm = true) (hs : PGs X es t)
    (hn : (assignEach es X.env).length = n := by rfl) (hst : (assignEach es X.env).findIdx? (·.1) = none := by rfl) (h : X.K = K := by rfl) : PG X (.Tuple es k pos) (gTup K n t) := by subst h; exact pg_tup hc hs hn hst
theorem peBm (K : PySem.W.Frag) {T : String} {name : Str} {id : String} {o e : Expr} {es : List Expr} {to : TE} {t : TA} {r : V → List V → Hp → VK → Prop} {apos pos : Pos} (pa : PlainAttrs T) (slot : Slot T name id) (hty : typeOf (.builtin id) = pure (.type "method_descriptor")) (hm : MtR X id r) (ho : PE X o to) (ha : PA X (e :: es) t)
    (hbase : attributeBase o name X.env (eval o X.env) = eval o X.env := by rfl)
    (hfew : ((backTo pos (starEach (e :: es) X.env)).all (fun x => !x.1) && (backToKw pos (keywordEach [] X.env)).all (fun x => x.1.isSome)
      && decide ((e :: es).length + ([] : List Keyword).length + (if ([] : List Keyword).isEmpty then 0 else 1) < 30)) = true := by rfl)
    (hline : (apos.endLine == pos.line) = true := by rfl) (hs : starEach (e :: es) X.env = (false, eval e X.env) :: starEach es X.env := by rfl) (hplain : (backTo pos (starEach es X.env)).any (·.1) = false := by rfl) (h : X.K = K := by rfl) :
    PE X (.Call (.Attribute o name apos) (e :: es) [] pos) (tBM K T r to t) := by subst h; exact pe_bm pa slot hty hm ho ha hbase hfew hline hs hplain
end
end AH
set_option maxRecDepth 100000
set_option maxHeartbeats 2000000
namespace AH
open PySem L2 TL PySem.Spec PyProof.Rows PySem.Builtin.Str
theorem fm_get {xs : List Nat} : ∀ ks : List Nat, (∀ k ∈ ks, k < xs.length) → ks.filterMap (fun k => xs[k]?) = ks.map fun k => xs.getD k 0
  | [], _ => rfl
  | k :: ks, h => by
    have h1 := h k (List.mem_cons_self ..)
    rw [List.filterMap_cons, List.getElem?_eq_getElem h1, List.map_cons, fm_get ks fun j hj => h j (List.mem_cons_of_mem _ hj)]
    simp [List.getD, List.getElem?_eq_getElem h1]
theorem idx_rev (n : Nat) : strSliceIndices none none (-1) n = (List.range n).map fun k => n - 1 - k := by
  show sliceRange ((n : Int) - 1) (-1) (-1) = _
  unfold sliceRange
  have e : (if (-1 : Int) > 0 then (if ((n : Int) - 1) < -1 then (-1 - ((n : Int) - 1) + (-1) - 1) / (-1) else 0) else (if ((n : Int) - 1) > -1 then (((n : Int) - 1) - (-1) - (-1) - 1) / (-(-1)) else 0)).toNat = n := by
    rw [if_neg (by omega)]
    split
    · have : (((n : Int) - 1) - (-1) - (-1) - 1) / (-(-1)) = (n : Int) := by
        rw [show (-(-1) : Int) = 1 from rfl, Int.ediv_one]
        omega
      rw [this]
      omega
    · omega
  dsimp only
  rw [e]
  apply List.map_congr_left
  intro k hk
  omega
theorem pick_rev (xs : List Nat) : (strSliceIndices none none (-1) xs.length).filterMap (fun k => xs[k]?) = xs.reverse := by
  rw [idx_rev, fm_get _ (by
    intro k hk
    rw [List.mem_map] at hk
    obtain ⟨j, hj, rfl⟩ := hk
    have := List.mem_range.mp hj
    omega)]
  apply List.ext_getElem?
  intro i
  by_cases h : i < xs.length
  · rw [List.getElem?_reverse h]
    simp [h, List.getD]
    rw [List.getElem?_eq_getElem (by omega)]
    rfl
  · rw [List.getElem?_eq_none (by simp; omega), List.getElem?_eq_none (by simp; omega)]
def tRevS (te : TE) : TE := fun σ H Q => te σ H fun x H1 => ∃ c : List Nat, x = .str ⟨c.toArray⟩ ∧ c.length ≤ sizeLine ∧ Q (.str ⟨c.reverse.toArray⟩) H1
theorem pe_revS {X : Cx} {e : Expr} {te : TE} {k : Nat} {p1 p2 p3 pos : Pos} (he : PE X e te) : PE X (.Subscript e (.Slice none none (some (.UnaryOp .USub (.Constant (.int 1) k p1) p2)) p3) pos) (tRevS te) := by
  refine ⟨fun pins s σ H Q I h => ?_⟩
  refine Subscript_ (thn (he.run pins s σ H _ I h) fun v s1 ⟨x, H1, I1, r1, q1⟩ => ?_)
  obtain ⟨c, ex, hz, q⟩ := q1
  subst ex
  obtain ⟨t, rfl⟩ := r1
  have hst : PO X (some (.UnaryOp .USub (.Constant (.int 1) k p1) p2)) (tPart (tUn (rU fun i => .int (-i)) (tC (.int 1)))) := po_some (pe_un un_neg pe_int)
  refine wpAny_Slice (thn (po_none.run pins s1 σ H1 (fun o H2 => o = none ∧ H2 = H1) I1 ⟨rfl, rfl⟩) fun vl s2 ⟨l, H2, I2, pl, el, e2⟩ => ?_)
  subst el e2
  refine thn (po_none.run pins s2 σ H2 (fun o H3 => o = none ∧ H3 = H2) I2 ⟨rfl, rfl⟩) fun vu s3 ⟨u, H3, I3, pu, eu, e3⟩ => ?_
  subst eu e3
  refine thn (hst.run pins s3 σ H3 (fun o H4 => o = some (-1) ∧ H4 = H3) I3 ⟨1, rfl, -1, rfl, rfl, rfl⟩) fun vs s4 ⟨o, H4, I4, ps, eo, e4⟩ => ?_
  subst eo e4
  have I5 : Inv X pins σ H4 { s4 with heap := s4.heap.push { cls := .type "slice", data := .fields #[vl, vu, vs] } } := I4.kept (t' := s4.toks) fun b ob q => Heap.get?_push_of_some _ q
  obtain ⟨l', rfl, el⟩ := IsPart.raw pl
  obtain ⟨u', rfl, eu⟩ := IsPart.raw pu
  obtain ⟨st', rfl, est⟩ := IsPart.raw ps
  cases l' with
  | some y => cases el
  | none =>
    cases u' with
    | some y => cases eu
    | none =>
      cases st' with
      | none => cases est
      | some y =>
        obtain ⟨y1, y2⟩ := y
        have ey : y1 = -1 := by
          have := (Option.some.inj est).symm
          first | exact this | exact this.symm
        subst ey
        show wpAny (model X.prog X.w) X.A (subscriptTail e (.Slice none none (some (.UnaryOp .USub (.Constant (.int 1) k p1) p2)) p3) (.str ⟨c.toArray⟩ t) (.ref s4.heap.objs.size)) (EP X pins σ Q) X.xe { s4 with heap := s4.heap.push { cls := .type "slice", data := .fields #[_, _, _] } }
        refine tail_any (ops := [.str ⟨c.toArray⟩ t, .ref s4.heap.objs.size]) (typeIs_str _ _ _) (F.slot_str_getitem.lookup) ?_ (by with_unfolding_all rfl)
        refine wpAny_getItem_str_slice (l := none) (u := none) (st := some (-1, y2)) ⟨_, Heap.get?_push_size _ rfl, rfl, rfl⟩ rfl ?_
        have e1 : ((slicePicked ⟨c.toArray⟩ none none (some (-1, y2))).filterMap ((⟨c.toArray⟩ : Str).cps[·]?)) = c.reverse := by
          have := pick_rev c
          show ((strSliceIndices none none (-1) (⟨c.toArray⟩ : Str).length).filterMap fun k => c.toArray[k]?) = c.reverse
          rw [str_len, ← this]
          congr 1
          funext k
          simp
        show Made.post (if (((-1 : Int) == 1) && ((slicePicked ⟨c.toArray⟩ none none (some (-1, y2))).length == (⟨c.toArray⟩ : Str).length)) = true then Made.val (.str ⟨c.toArray⟩ t) else Made.str ⟨((slicePicked ⟨c.toArray⟩ none none (some (-1, y2))).filterMap ((⟨c.toArray⟩ : Str).cps[·]?)).toArray⟩) (EP X pins σ Q) _
        rw [if_neg (by simp), e1]
        refine ⟨?_, .str _, H4, I5.tok _, ⟨_, rfl⟩, q⟩
        rw [str_len, List.length_reverse]
        exact hz
section
variable {K : PySem.W.Frag} {G : Gx}
def fRev (a : D) (S : Sto) : Option (D × Sto) := match a with
  | .str z => if z.length ≤ sizeLine then some (.str z.reverse, S) else none
  | _ => none
def eRev (a : Ev) : Ev := e1 fRev a
theorem se_revS {te : TE} {ea : Ev} (ha : SE K G te ea) : SE K G (tRevS te) (eRev ea) := fun w σ ρ d S' o rs h Q k => by
  obtain ⟨⟨dx, S1⟩, h1, h2⟩ := bnd h
  refine ha w σ ρ dx S1 o rs h1 _ fun x w1 e1 f1 o1 r1 => ?_
  subst e1
  unfold fRev at h2
  dsimp only at h2
  split at h2
  · rename_i z
    split at h2
    · rename_i hz
      cases h2
      cases r1
      exact ⟨z, rfl, hz, Kd.now (Kd.from k f1) o1 .str⟩
    · cases h2
  · cases h2
end
end AH
set_option maxRecDepth 100000
set_option maxHeartbeats 2000000
namespace AH
open PySem L2 TL PySem.Spec PyProof.Rows
/-- what a key finds -/
def kGet (kvs : Kvs) (c : List Nat) : Option Int := match kvs with
  | [] => none
  | q :: r => if q.1 = c then some q.2 else kGet r c
structure KT (K : PySem.W.Frag) (w : World) (a : Addr) (kvs : Kvs) : Prop where
  dict : ∃ es n, KDict K w a es n
  val : ∀ c : List Nat, ∃ r, PySem.W.nsIn K a ⟨c.toArray⟩ = some r ∧ match kGet kvs c with
    | none => r = none
    | some i => ∃ t, r = some (.int i t)
theorem ent_lit {P : Params} : ∀ {l : List DictEntry} {kvs : Kvs}, l.map entI = kvX P kvs → PySem.W.KeysLit P l ∧ (∀ e ∈ l, e.refKey = false) ∧ ∀ c : List Nat, (match kGet kvs c with
    | none => l.find? (·.key.isStr ⟨c.toArray⟩) = none
    | some i => ∃ e t, l.find? (·.key.isStr ⟨c.toArray⟩) = some e ∧ e.val = .int i t)
  | [], [], _ => ⟨trivial, fun e h => (nomatch h), fun c => rfl⟩
  | [], _ :: _, h => by cases h
  | _ :: _, [], h => by cases h
  | e :: r, q :: kvs, h => by
    have h1 : entI e :: r.map entI = some (⟨q.1.toArray⟩, PyData.keyHash P ⟨q.1.toArray⟩, q.2) :: kvX P kvs := h
    injection h1 with h2 h3
    obtain ⟨i1, i2, i3⟩ := ent_lit h3
    obtain ⟨eh, ek, ev⟩ := e
    cases ek with
    | str x t =>
      cases ev with
      | int i u =>
        have h4 := Option.some.inj (show some (x, eh, i) = some (⟨q.1.toArray⟩, PyData.keyHash P ⟨q.1.toArray⟩, q.2) from h2)
        obtain ⟨h5, h6⟩ := Prod.mk.inj h4
        obtain ⟨h7, h8⟩ := Prod.mk.inj h6
        refine ⟨⟨⟨x, t, rfl, by rw [h5]; exact h7⟩, i1⟩, fun e he => ?_, fun c => ?_⟩
        · rcases List.mem_cons.mp he with he | he
          · rw [he]
            rfl
          · exact i2 e he
        · unfold kGet
          by_cases hq : q.1 = c
          · rw [if_pos hq]
            refine ⟨⟨eh, .str x t, .int i u⟩, u, ?_, by rw [h8]⟩
            rw [List.find?_cons_of_pos]
            show (x == (⟨c.toArray⟩ : Str)) = true
            rw [h5, hq]
            exact beq_self_eq_true _
          · rw [if_neg hq]
            have hne : ((⟨eh, .str x t, .int i u⟩ : DictEntry).key.isStr ⟨c.toArray⟩) = false := by
              show (x == (⟨c.toArray⟩ : Str)) = false
              rw [h5]
              refine beq_eq_false_iff_ne.mpr fun z => hq ?_
              exact (str_eq (a := q.1) (b := c)).mp z
            have := i3 c
            rw [List.find?_cons_of_neg (by rw [hne]; exact Bool.false_ne_true)]
            exact this
      | _ => cases h2
    | _ => cases ev <;> cases h2
theorem dicX_ok {K : PySem.W.Frag} {w : World} {a : Addr} {kvs : Kvs} (h : dicX K a = some (kvX w.params kvs)) : KT K w a kvs := by
  unfold dicX at h
  cases q : K.lookup a with
  | none =>
    rw [q] at h
    cases h
  | some o =>
    obtain ⟨oc, od, dt, osl⟩ := o
    rw [q] at h
    cases oc with
    | type c =>
      cases od with
      | none =>
        cases dt with
        | dict es n =>
          have h1 : (match decide (c = "dict") && (osl.isEmpty && !(a == sysModules)) with
            | true => some (es.toList.map entI)
            | false => none) = some (kvX w.params kvs) := h
          cases z : decide (c = "dict") && (osl.isEmpty && !(a == sysModules)) with
          | false =>
            rw [z] at h1
            cases h1
          | true =>
            rw [z] at h1
            obtain ⟨z1, z2⟩ := He.ba z
            obtain ⟨z3, z4⟩ := He.ba z2
            have e1 : c = "dict" := of_decide_eq_true z1
            have e2 : osl = #[] := Array.isEmpty_iff.mp z3
            have e3 : (a == sysModules) = false := by
              cases y : a == sysModules with
              | false => rfl
              | true =>
                rw [y] at z4
                cases z4
            subst e1 e2
            obtain ⟨i1, i2, i3⟩ := ent_lit (Option.some.inj h1)
            refine ⟨⟨es, n, q, i1, e3⟩, fun c => ?_⟩
            have i := i3 c
            unfold PySem.W.nsIn
            rw [q]
            dsimp only
            cases g : kGet kvs c with
            | none =>
              rw [g] at i
              rw [i]
              have na : es.toList.any (·.refKey) = false := by
                rw [List.any_eq_false]
                intro e he
                rw [i2 e he]
                exact Bool.false_ne_true
              rw [na]
              exact ⟨none, rfl, rfl⟩
            | some j =>
              rw [g] at i
              obtain ⟨e, t, g1, g2⟩ := i
              rw [g1]
              exact ⟨some e.val, rfl, t, by rw [g2]⟩
        | _ => cases h
      | some b => cases dt <;> cases h
    | _ => cases od <;> cases dt <;> cases h
def tKGet2 (kvs : Kvs) (ty tx : TE) : TE := fun σ H Q => ty σ H fun y H2 => tx σ H2 fun z H3 => ∃ c : List Nat, y = .str ⟨c.toArray⟩ ∧ Q (match kGet kvs c with
  | some i => .int i
  | none => z) H3
theorem pe_kget2 {X : Cx} {o e f : Expr} {apos cpos : Pos} {ty tx : TE} {a : Addr} {kvs : Kvs} (D : KT X.K X.w a kvs) (ho : PE X o (tC (.ref a))) (he : PE X e ty) (hf : PE X f tx) (m : M2 X o "get" apos e f cpos) : PE X (.Call (.Attribute o "get" apos) [e, f] [] cpos) (tKGet2 kvs ty tx) := by
  obtain ⟨⟨es, n, D0⟩, hv⟩ := D
  refine ⟨fun pins s σ H Q I h => ?_⟩
  refine wpAny_Call_method m.base m.few m.line PySem.F.plainAttrs_dict PySem.F.slot_dict_get PySem.F.type_dict_get (thn (ho.run pins s σ H (fun x H1 => x = .ref a ∧ tKGet2 kvs ty tx σ H1 Q) I ⟨rfl, h⟩) fun u s1 ⟨x, H1, I1, rx, ex, q1⟩ => ?_)
  subst ex
  obtain rfl : u = Value.ref a := rx
  refine ⟨kd_type D0 I1, fun b q => ?_, ?_⟩
  · cases q
    exact ⟨_, I1.kIn _ _ D0.at_, rfl⟩
  rw [m.trees]
  refine Calls.callWith_builtin rfl (Calls.evalArgs_plain (Calls.spliced_cons (thn (he.run pins s1 σ H1 _ I1 q1) fun iv s2 ⟨y, H2, I2, ry, q2⟩ =>
    Calls.spliced_cons (thn (hf.run pins s2 σ H2 _ I2 q2) fun fv s3 ⟨z, H3, I3, rz, c, ey, q3⟩ => Calls.spliced_nil ?_))))
  subst ey
  obtain ⟨t, rfl⟩ := ry
  have hm := PySem.W.mapOf_K (prog := X.prog) (w := X.w) I3.kIn D0.at_ D0.lit
  refine call_meetsIn PySem.F.slot_dict_get hm.typeIs PySem.F.entry_dict_get (PySem.F.args_dict_get_3 _ _ _) (meets_dict_get_default (strKind X.prog X.w) a (strKind_is X.prog X.w _ t) D0.low fv) ⟨_, hm, ?_⟩
  obtain ⟨r, hr, hg⟩ := hv c
  have ef := PySem.W.find_K D0.at_ hr
  show ∃ x H', Inv X pins σ H' _ ∧ _
  rw [ef]
  cases g : kGet kvs c with
  | none =>
    rw [g] at hg q3
    subst hg
    exact ⟨_, H3, I3.tok _, rz, q3⟩
  | some i =>
    rw [g] at hg q3
    obtain ⟨t', rfl⟩ := hg
    exact ⟨.int i, H3, I3.tok _, ⟨t', rfl⟩, q3⟩
section
variable {K : PySem.W.Frag} {G : Gx}
def eKGet2 (kvs : Kvs) (a b : Ev) : Ev := fun ρ S => (a ρ S).bind fun x => (b ρ x.2).bind fun y => match x.1 with
  | .str c => some (match kGet kvs c with
    | some i => .int i
    | none => y.1, y.2)
  | _ => none
theorem se_kget2 {kvs : Kvs} {ta tb : TE} {ea eb : Ev} (ha : SE K G ta ea) (hb : SE K G tb eb) : SE K G (tKGet2 kvs ta tb) (eKGet2 kvs ea eb) := fun w σ ρ d S' o rs h Q k => by
  obtain ⟨⟨dx, S1⟩, h1, h2⟩ := bnd h
  obtain ⟨⟨dy, S2⟩, h3, h4⟩ := bnd h2
  refine ha w σ ρ dx S1 o rs h1 _ fun x w1 e1 f1 o1 r1 => ?_
  subst e1
  refine hb w1 σ ρ dy S2 o1 (rs.fr o f1) h3 _ fun y w2 e2 f2 o2 r2 => ?_
  subst e2
  dsimp only at h4
  split at h4
  · rename_i c
    cases h4
    cases r1
    refine ⟨c, rfl, ?_⟩
    refine Kd.now (Kd.from k (f1.trans f2)) o2 ?_
    cases kGet kvs c with
    | none => exact r2
    | some i => exact .int
  · cases h4
end
theorem SaysX.tab {fa : List He.Fa} {fn : List He.DefD} {ts : List TabX} {w : World} {K : PySem.W.Frag} (c : SaysX fa fn ts w K) (i : Nat) {t : TabX} (h : ts[i]? = some t := by rfl) : KT K w (He.ga K t.1) t.2 := by
  have e : ts.map (fun t => dicX K (He.ga K t.1)) = ts.map fun t => some (kvX w.params t.2) := congrArg (fun z : AlX => z.2) c
  have e2 : (ts.map fun t => dicX K (He.ga K t.1))[i]? = (ts.map fun t => some (kvX w.params t.2))[i]? := by rw [e]
  rw [List.getElem?_map, List.getElem?_map, h] at e2
  exact dicX_ok (Option.some.inj e2)
end AH
set_option maxRecDepth 100000
set_option maxHeartbeats 2000000
namespace AH
open PySem L2 TL Classical
end AH
namespace AH
open PySem L2 TL PySem.Spec PyProof.Rows
theorem peJoin (K : PySem.W.Frag) {X : Cx} {o e : Expr} {to te : TE} {apos pos : Pos} (ho : PE X o to) (he : PE X e te) (hs : starEach [e] X.env = [(false, eval e X.env)] := by rfl) (hbase : attributeBase o "join" X.env (eval o X.env) = eval o X.env := by rfl) (hline : (apos.endLine == pos.line) = true := by rfl) (h : X.K = K := by rfl) :
    PE X (.Call (.Attribute o "join" apos) [e] [] pos) (tM1 (rJoinR K) to te) := by subst h; exact pe_join ho he hs hbase hline
theorem sm_joinR {K : PySem.W.Frag} {G : Gx} : SM K G (rJoinR K) fJoin := sm_join
end AH
set_option maxRecDepth 100000
set_option maxHeartbeats 2000000
namespace AH
open PySem L2 TL PySem.Spec PyProof.Rows
section
variable {K : PySem.W.Frag} {G : Gx}
/-- e.f -/
def eFld (c i : Nat) (a : Ev) : Ev := fun ρ S => (a ρ S).bind fun x => match x.1 with
  | .ref l => match x.2.get l with
    | some (.ins c' fs) => if c' = c then (fs[i]?).map fun d => (d, x.2) else none
    | _ => none
  | _ => none
/-- what stands in a field, or comes there -/
def putL (fs : List D) (i : Nat) (d : D) : Option (List D) := if i < fs.length then some (fs.set i d) else if i = fs.length then some (fs ++ [d]) else none
/-- o.f = v -/
def sPutF (c i : Nat) (eo ev : Ev) : EvS := fun ρ S => (ev ρ S).bind fun y => (eo ρ y.2).bind fun x => match x.1 with
  | .ref l => match x.2.get l with
    | some (.ins c' fs) => if c' = c then (putL fs i y.1).map fun ds => (.nx, ρ, x.2.set l (.ins c ds)) else none
    | _ => none
  | _ => none
/-- C(..) -/
def eMk (c : Nat) (F : Fn) (el : EvL) : Ev := fun ρ S => (el ρ S).bind fun x => (F (.ref x.2.next :: x.1) (x.2.new (.ins c []))).bind fun r => match r.1 with
  | .v .non => some (.ref x.2.next, r.2)
  | _ => none
/-- o.m(..) -/
def eMt (c : Nat) (F : Fn) (eo : Ev) (el : EvL) : Ev := fun ρ S => (eo ρ S).bind fun x => match x.1 with
  | .ref l => match x.2.get l with
    | some (.ins c' _) => if c' = c then (el ρ x.2).bind fun y => callE F (.ref l :: y.1) y.2 else none
    | _ => none
  | _ => none
def fMt (c : Nat) (F : Fn) (eo : Ev) (el : EvL) : EvL := fun ρ S => (eo ρ S).bind fun x => match x.1 with
  | .ref l => match x.2.get l with
    | some (.ins c' _) => if c' = c then (el ρ x.2).bind fun y => callF F (.ref l :: y.1) y.2 else none
    | _ => none
  | _ => none
end
end AH
set_option maxRecDepth 100000
set_option maxHeartbeats 2000000
namespace AH
open PySem L2 TL PySem.Spec PyProof.Rows
def enumS (z : List Nat) : List D := (List.range z.length).map fun k => D.tup [.int (k : Nat), .str [z.getD k 0]]
def iES (a : EvL) : EvL := fun ρ S => (a ρ S).bind fun x => match x.1 with
  | [.str z] => some (enumS z, x.2)
  | _ => none
end AH
set_option maxRecDepth 100000
set_option maxHeartbeats 2000000
namespace AH
open PySem L2 TL PySem.Spec PyProof.Rows
section
variable {K : PySem.W.Frag} {G : Gx}
def gFd (c i : Nat) (eo : Ev) : EvG := fun d ρ S => (eo ρ S).bind fun x => match x.1 with
  | .ref l => match x.2.get l with
    | some (.ins c' fs) => if c' = c then (putL fs i d).map fun ds => (ρ, x.2.set l (.ins c ds)) else none
    | _ => none
  | _ => none
def sPar3 (i j l : Nat) (a b c : Ev) : EvS := fun ρ S => (a ρ S).bind fun x => (b ρ x.2).bind fun y => (c ρ y.2).bind fun z => if i < ρ.length ∧ j < ρ.length ∧ l < ρ.length then some (.nx, ((ρ.set i (.val x.1)).set j (.val y.1)).set l (.val z.1), z.2) else none
end
end AH
set_option maxRecDepth 100000
set_option maxHeartbeats 2000000
namespace AH
open PySem L2 TL PySem.Spec PyProof.Rows
def keyD : D → Option DK
  | .int n => some (.i n)
  | .str c => some (.s c)
  | _ => none
def dget (kvs : List (DK × D)) (k : DK) : Option D := (kvs.find? fun q => decide (q.1 = k)).map (·.2)
def dput (kvs : List (DK × D)) (k : DK) (d : D) : List (DK × D) := if (kvs.any fun q => decide (q.1 = k)) = true then kvs.map (fun q => if q.1 = k then (q.1, d) else q) else kvs ++ [(k, d)]
section
variable {K : PySem.W.Frag} {G : Gx} {w : Wd}
theorem key_rv {v : V} {d : D} {k : DK} (r : RV K w v d) (h : keyD d = some k) : v = kV k.key := by
  cases r <;> cases h <;> rfl
theorem key_dec {k k2 : DK} : decide (k.key = k2.key) = decide (k = k2) := by
  by_cases e : k = k2
  · rw [e, decide_eq_true rfl, decide_eq_true rfl]
  · rw [decide_eq_false e, decide_eq_false fun z => e (DK.key_inj z)]
theorem rk_get {ks : List (Key × V)} {kvs : List (DK × D)} (r : RK K w ks kvs) (k : DK) : match dget kvs k with
    | some d => ∃ v, valV ks k.key = some v ∧ RV K w v d
    | none => valV ks k.key = none := by
  induction r with
  | nil => rfl
  | @cons p q ps qs h t ih =>
    obtain ⟨h1, h2⟩ := h
    unfold dget valV
    rw [List.find?_cons, List.find?_cons, h1, key_dec]
    by_cases e : q.1 = k
    · rw [decide_eq_true e]
      exact ⟨p.2, rfl, h2⟩
    · rw [decide_eq_false e]
      exact ih
theorem rk_any {ks : List (Key × V)} {kvs : List (DK × D)} (r : RK K w ks kvs) (k : DK) : (ks.any fun q => decide (q.1 = k.key)) = kvs.any fun q => decide (q.1 = k) := by
  induction r with
  | nil => rfl
  | @cons p q ps qs h t ih =>
    rw [List.any_cons, List.any_cons, ih, h.1, key_dec]
theorem rk_map {v : V} {d : D} (k : DK) (rv : RV K w v d) {ks : List (Key × V)} {kvs : List (DK × D)} (r : RK K w ks kvs) : RK K w (ks.map fun q => if q.1 = k.key then (q.1, v) else q) (kvs.map fun q => if q.1 = k then (q.1, d) else q) := by
  induction r with
  | nil => exact .nil
  | @cons p q ps qs h t ih =>
    rw [List.map_cons, List.map_cons]
    refine .cons ?_ ih
    by_cases e : q.1 = k
    · rw [if_pos (show p.1 = k.key by rw [h.1, e]), if_pos e]
      exact ⟨h.1, rv⟩
    · rw [if_neg (show ¬ p.1 = k.key by rw [h.1]; exact fun z => e (DK.key_inj z)), if_neg e]
      exact h
theorem rk_snoc {v : V} {d : D} (k : DK) (rv : RV K w v d) {ks : List (Key × V)} {kvs : List (DK × D)} (r : RK K w ks kvs) : RK K w (ks ++ [(k.key, v)]) (kvs ++ [(k, d)]) := by
  induction r with
  | nil => exact .cons ⟨rfl, rv⟩ .nil
  | @cons p q ps qs h t ih => exact .cons h ih
theorem rk_put {ks : List (Key × V)} {kvs : List (DK × D)} {v : V} {d : D} (r : RK K w ks kvs) (k : DK) (rv : RV K w v d) : RK K w (putK ks k.key v) (dput kvs k d) := by
  unfold putK dput
  rw [rk_any r k]
  split
  · exact rk_map k rv r
  · exact rk_snoc k rv r
theorem rk_len {ks : List (Key × V)} {kvs : List (DK × D)} (r : RK K w ks kvs) : ks.length = kvs.length := by
  induction r with
  | nil => rfl
  | cons h t ih => rw [List.length_cons, List.length_cons, ih]
/-- d[k] -/
def fDGet (a b : D) (S : Sto) : Option (D × Sto) := match a with
  | .ref l => match S.get l with
    | some (.dic _ kvs) => (keyD b).bind fun k => (dget kvs k).map fun d => (d, S)
    | _ => none
  | _ => none
def fDIn (b a : D) (S : Sto) : Option (D × Sto) := match a with
  | .ref l => match S.get l with
    | some (.dic _ kvs) => (keyD b).map fun k => (.bl (dget kvs k).isSome, S)
    | _ => none
  | _ => none
def fDNotIn (b a : D) (S : Sto) : Option (D × Sto) := match a with
  | .ref l => match S.get l with
    | some (.dic _ kvs) => (keyD b).map fun k => (.bl (!(dget kvs k).isSome), S)
    | _ => none
  | _ => none
theorem Ok.dict {v : V} {l : Nat} {lk : Bool} {kvs : List (DK × D)} (o : Ok K G w) (r : RV K w v (.ref l)) (h : w.S.get l = some (.dic lk kvs)) : ∃ a ks, v = .ref a ∧ w.io l = some a ∧ Rd w.H a (.dK ks) ∧ RK K w ks kvs ∧ (lk = false → w.H a = some (.dK ks)) := by
  cases r with
  | ref h1 =>
    obtain ⟨a, q1, ks, q2, q3⟩ := o.obj l _ h
    rw [h1] at q1
    cases q1
    cases lk with
    | false => exact ⟨_, ks, rfl, h1, .inl q2, q3, fun _ => q2⟩
    | true =>
      obtain ⟨od, q2⟩ := q2
      exact ⟨_, ks, rfl, h1, .inr ⟨od, q2⟩, q3, fun z => nomatch z⟩
/-- d[k] = v -/
def gDPut (eo ei : Ev) : EvG := fun d ρ S => (eo ρ S).bind fun x => (ei ρ x.2).bind fun y => match x.1 with
  | .ref l => match y.2.get l with
    | some (.dic false kvs) => if kvs.length < sizeLine then (keyD y.1).map fun k => (ρ, y.2.set l (.dic false (dput kvs k d))) else none
    | _ => none
  | _ => none
end
end AH
set_option maxRecDepth 100000
set_option maxHeartbeats 2000000
namespace AH
open PySem L2 TL PySem.Spec PyProof.Rows
section
variable {K : PySem.W.Frag} {G : Gx}
theorem Ok.ownG {w : Wd} {p : Addr} {o : MO} (k : Ok K G (w.ban p)) (r : RO K G (w.own p o) p o) (hb : ¬ w.B p) : Ok K G (w.own p o) where
  obj := fun l o' e => by
    have e' : (if l = w.S.next then some o else w.S.get l) = some o' := e
    show ∃ a, (if l = w.S.next then some p else w.io l) = some a ∧ _
    by_cases q : l = w.S.next
    · rw [if_pos q] at e' ⊢
      cases e'
      exact ⟨p, rfl, r⟩
    · rw [if_neg q] at e' ⊢
      obtain ⟨a, h1, h2⟩ := k.obj l o' e'
      exact ⟨a, h1, h2.mono (own_mv k) rfl⟩
  inj := fun l l' a e e' => by
    have q : (if l = w.S.next then some p else w.io l) = some a := e
    have q' : (if l' = w.S.next then some p else w.io l') = some a := e'
    have np : ∀ l, w.io l ≠ some p := fun l z => k.dis p (.inr rfl) ⟨l, z⟩
    by_cases z : l = w.S.next <;> by_cases z' : l' = w.S.next
    · rw [z, z']
    · rw [if_pos z] at q
      rw [if_neg z'] at q'
      cases q
      exact absurd q' (np _)
    · rw [if_neg z] at q
      rw [if_pos z'] at q'
      cases q'
      exact absurd q (np _)
    · rw [if_neg z] at q
      rw [if_neg z'] at q'
      exact k.inj l l' a q q'
  dom := fun l e => by
    have e' : (if l = w.S.next then some o else w.S.get l) = none := e
    show (if l = w.S.next then some p else w.io l) = none
    by_cases q : l = w.S.next
    · rw [if_pos q] at e'
      cases e'
    · rw [if_neg q] at e' ⊢
      exact k.dom l e'
  nxt := fun l e => by
    have e : w.S.next + 1 ≤ l := e
    show (if l = w.S.next then some o else w.S.get l) = none
    rw [if_neg (by omega)]
    exact k.nxt l (by show w.S.next ≤ l; omega)
  dis := fun a b ⟨l, q⟩ => by
    have q' : (if l = w.S.next then some p else w.io l) = some a := q
    by_cases z : l = w.S.next
    · rw [if_pos z] at q'
      cases q'
      exact hb b
    · rw [if_neg z] at q'
      exact k.dis a (.inl b) ⟨l, q'⟩
  bh := fun a b => k.bh a (.inl b)
  tb := fun a ps e => by
    obtain ⟨l, z⟩ := k.tb a ps e
    refine ⟨l, ?_⟩
    show (if l = w.S.next then some p else w.io l) = some a
    rw [if_neg (fun y => by
      have n : w.io w.S.next = none := k.noio
      have z : w.io l = some a := z
      rw [y, n] at z
      cases z)]
    exact z
  bx := fun a φ b => k.bx a φ (.inl b)
/-- the values of a display, its keys written -/
def SPr (K : PySem.W.Frag) (G : Gx) (trs : List (TE × TE)) (ks : List DK) (el : EvL) : Prop := ∀ w σ ρ ds S', Ok K G w → RS K w σ ρ → el ρ w.S = some (ds, S') → ∀ Q : List (V × V) → Hp → Prop,
  (∀ vs w', w'.S = S' → Fr w w' → Ok K G w' → RVs K w' vs ds → ds.length = ks.length → Q ((ks.map fun k => kV k.key).zip vs) w'.H) → tPairs trs σ w.H Q
theorem spr_nil : SPr K G [] [] aNil := fun w σ ρ ds S' o rs h Q k => by
  cases h
  exact k [] w rfl (Fr.refl w) o .nil rfl
theorem spr_cons {v : V} {dk : DK} {ks : List DK} {tv : TE} {trs : List (TE × TE)} {ev : Ev} {el : EvL} (hv : v = kV dk.key) (h1 : SE K G tv ev) (h2 : SPr K G trs ks el) : SPr K G ((tC v, tv) :: trs) (dk :: ks) (aCons ev el) := fun w σ ρ ds S' o rs h Q k => by
  obtain ⟨⟨dx, S1⟩, q1, q2⟩ := bnd h
  obtain ⟨⟨dy, S2⟩, q3, q4⟩ := bnd q2
  cases q4
  refine h1 w σ ρ dx S1 o rs q1 _ fun x w1 e1 f1 o1 r1 => ?_
  subst e1
  refine h2 w1 σ ρ dy _ o1 (rs.fr o f1) q3 _ fun vs w2 e2 f2 o2 r2 hl => ?_
  have := k (x :: vs) w2 e2 (f1.trans f2) o2 (.cons (r1.mono f2.mv) r2) (by rw [List.length_cons, List.length_cons, hl])
  rw [hv]
  exact this
def dmerge (kvs more : List (DK × D)) : List (DK × D) := more.foldl (fun acc kv => dput acc kv.1 kv.2) kvs
theorem rk_merge {w : Wd} {more : List (Key × V)} {rs : List (DK × D)} (r : RK K w more rs) : ∀ {kvs : List (Key × V)} {vs : List (DK × D)}, RK K w kvs vs → RK K w (mergeK kvs more) (dmerge vs rs) := by
  induction r with
  | nil => exact fun q => q
  | @cons p q ps qs h t ih =>
    intro kvs vs r0
    have e : RK K w (putK kvs p.1 p.2) (dput vs q.1 q.2) := by
      rw [h.1]
      exact rk_put r0 _ h.2
    exact ih e
theorem rk_zip {w : Wd} : ∀ {ks : List DK} {vs : List V} {ds : List D}, RVs K w vs ds → RK K w ((ks.map DK.key).zip vs) (ks.zip ds)
  | [], _, _, _ => by simp; exact .nil
  | k :: ks, _, _, .nil => .nil
  | k :: ks, _, _, .cons r t => .cons ⟨rfl, r⟩ (rk_zip t)
theorem zip_kv {ks : List DK} : ∀ {vs : List V}, (ks.map fun k => kV k.key).zip vs = ((ks.map DK.key).zip vs).map fun kv => (kV kv.1, kv.2) := by
  induction ks with
  | nil => intro vs; rfl
  | cons k ks ih =>
    intro vs
    cases vs with
    | nil => rfl
    | cons v vs =>
      show (kV k.key, v) :: (ks.map fun k => kV k.key).zip vs = (kV k.key, v) :: ((ks.map DK.key).zip vs).map fun kv => (kV kv.1, kv.2)
      rw [ih]
def eDisp (ks : List DK) (el : EvL) : Ev := fun ρ S => (el ρ S).bind fun x => some (.ref x.2.next, x.2.new (.dic false (dmerge [] (ks.zip x.1))))
theorem se_disp {ks : List DK} {trs : List (TE × TE)} {el : EvL} (hk : ks.length ≤ 15) (h : SPr K G trs ks el) : SE K G (tDisp trs) (eDisp ks el) := fun w σ ρ d S' o rs hh Q k => by
  obtain ⟨⟨ds, S1⟩, h1, h2⟩ := bnd hh
  cases h2
  intro p hp
  -- the new dict barred
  have fA : Fr w (w.add p (.dK [])) := Fr.add hp
  have oA : Ok K G (w.add p (.dK [])) := o.add hp
  have mB : Mv w ((w.add p (.dK [])).ban p) := ⟨fun _ _ e => e, fun a u e q => ⟨by
    show upd w.H p (.dK []) a = some u
    rw [upd_ne (ne_of_none e hp)]
    exact e, fun z => by
    rcases z with (b | b) | b
    · exact q (.inl b)
    · rw [b, hp] at e
      cases e
    · exact q (.inr b)⟩, fun a q u e => by
    show upd w.H p (.dK []) a = some (.frz q u)
    rw [upd_ne (ne_of_none e hp)]
    exact e⟩
  have nB : ¬ w.B p := fun z => by
    obtain ⟨q, hq⟩ := o.bh p z
    rw [hp] at hq
    cases hq
  have nU : ¬ w.U p := fun z => by
    obtain ⟨q, hq⟩ := o.uh z
    rw [hp] at hq
    cases hq
  have oB : Ok K G ((w.add p (.dK [])).ban p) := by
    refine ⟨fun l u e => ?_, oA.inj, oA.dom, oA.nxt, fun a b => ?_, fun a b => ?_, oA.tb, fun a φ b => ?_⟩
    · obtain ⟨a, h1, h2⟩ := o.obj l u e
      obtain ⟨z, hz⟩ := h2.some
      refine ⟨a, h1, h2.mono mB ?_⟩
      show upd w.H p (.dK []) a = w.H a
      exact upd_ne (ne_of_none hz hp)
    · rcases b with b | b
      · exact o.dis a b
      · rw [b]
        exact nU
    · rcases b with b | b
      · exact oA.bh a b
      · exact ⟨_, by rw [b]; exact upd_same⟩
    · rcases b with b | b
      · exact oA.bx a φ b
      · intro z
        have z' : upd w.H p (.dK []) a = some (.ext φ) := z
        rw [b, upd_same] at z'
        cases z'
  have rsB : RS K ((w.add p (.dK [])).ban p) σ ρ := rs.mono mB fun a us z1 z2 => ⟨by
    show upd w.H p (.dK []) a = _
    rw [upd_ne (ne_of_none z1 hp)]
    exact z1, .inl z2⟩
  refine h ((w.add p (.dK [])).ban p) σ ρ ds _ oB rsB h1 _ fun vs w2 e2 f2 o2 r2 hl => ?_
  subst e2
  have hp2 : w2.H p = some (.dK []) := (f2.hp p _ upd_same (oB.dis p (.inr rfl))).1
  have b2 : w2.B p := by rw [f2.bb]; exact .inr rfl
  refine ⟨hp2, (ks.map DK.key).zip vs, zip_kv, ?_, ?_⟩
  · rw [List.length_zip, List.length_map]
    omega
  obtain ⟨m6, o6⟩ := o2.updB (p := p) (u := .dK (mergeK [] ((ks.map DK.key).zip vs))) b2 (fun q z y => by rw [hp2] at y; cases y)
  have o7 : Ok K G (({ w2 with H := upd w2.H p (.dK (mergeK [] ((ks.map DK.key).zip vs))), B := w.B } : Wd).ban p) := o6.shrink (B := fun a => w.B a ∨ a = p) fun a z => by
    show w2.B a
    rw [f2.bb]
    exact z
  have r7 : RVs K (({ w2 with H := upd w2.H p (.dK (mergeK [] ((ks.map DK.key).zip vs))), B := w.B } : Wd).ban p) vs ds := (r2.mono m6).mono (Mv.shrink (w := { w2 with H := upd w2.H p (.dK (mergeK [] ((ks.map DK.key).zip vs))) }) (B := fun a => w.B a ∨ a = p) fun a z => by
    show w2.B a
    rw [f2.bb]
    exact z)
  have f7 : Fr w ({ w2 with H := upd w2.H p (.dK (mergeK [] ((ks.map DK.key).zip vs))), B := w.B } : Wd) := by
    refine ⟨fun l a e => f2.io l a e, fun a u e nu => ?_, fun a q u e => ?_, rfl⟩
    · have ne : a ≠ p := ne_of_none e hp
      have ha : ((w.add p (.dK [])).ban p).H a = some u := by
        show upd w.H p (.dK []) a = some u
        rw [upd_ne ne]
        exact e
      obtain ⟨z1, z2⟩ := f2.hp a u ha nu
      refine ⟨?_, z2⟩
      show upd w2.H p _ a = some u
      rw [upd_ne ne]
      exact z1
    · have ne : a ≠ p := ne_of_none e hp
      show upd w2.H p _ a = some (.frz q u)
      rw [upd_ne ne]
      refine f2.fz a q u ?_
      show upd w.H p (.dK []) a = some (.frz q u)
      rw [upd_ne ne]
      exact e
  refine k (.ref p) (({ w2 with H := upd w2.H p (.dK (mergeK [] ((ks.map DK.key).zip vs))), B := w.B } : Wd).own p (.dic false (dmerge [] (ks.zip ds)))) rfl (Fr.own f7 o7 hp) (o7.ownG ⟨_, upd_same, ?_⟩ nB) (.ref ?_)
  · exact rk_merge (rk_zip (r7.mono (own_mv o7))) .nil
  · show (if w2.S.next = w2.S.next then some p else _) = some p
    rw [if_pos rfl]
end
end AH
namespace AH
open PySem L2 TL PySem.Spec PyProof.Rows
section
variable {K : PySem.W.Frag} {G : Gx}
/-- a def's answer; a new list becomes the store's -/
def callO (F : Fn) (ds : List D) (S : Sto) : Option (D × Sto) := (F ds S).bind fun r => match r.1 with
  | .v d => some (d, r.2)
  | .f es => some (.ref r.2.next, r.2.new (.lst es))
def eMtO (c : Nat) (F : Fn) (eo : Ev) (el : EvL) : Ev := fun ρ S => (eo ρ S).bind fun x => match x.1 with
  | .ref l => match x.2.get l with
    | some (.ins c' _) => if c' = c then (el ρ x.2).bind fun y => callO F (.ref l :: y.1) y.2 else none
    | _ => none
  | _ => none
end
end AH
set_option maxRecDepth 100000
set_option maxHeartbeats 2000000
namespace AH
open PySem L2 TL PySem.Spec PyProof.Rows
def isD (x : D) (S : Sto) : Option (Nat × Sto) := match x with
  | .ref l => match S.get l with
    | some (.dic _ _) => some (l, S)
    | _ => none
  | _ => none
theorem isD_is {x : D} {S S1 : Sto} {l : Nat} (e : isD x S = some (l, S1)) : S1 = S ∧ x = .ref l ∧ ∃ lk kvs, S.get l = some (.dic lk kvs) := by
  unfold isD at e
  split at e
  · split at e
    · rename_i g
      cases e
      exact ⟨rfl, rfl, _, _, g⟩
    · cases e
  · cases e
def fDGet2 (l : Nat) (y z : D) (S : Sto) : Option (D × Sto) := match S.get l with
  | some (.dic _ kvs) => (keyD y).map fun k => ((dget kvs k).getD z, S)
  | _ => none
def eDGet2 (eo ek ed : Ev) : Ev := fun ρ S => (eo ρ S).bind fun x => (isD x.1 x.2).bind fun u => (ek ρ u.2).bind fun y => (ed ρ y.2).bind fun z => fDGet2 u.1 y.1 z.1 z.2
def fNewK (S : Sto) : Option (D × Sto) := some (.ref S.next, S.new (.dic false []))
def fNewT (S : Sto) : Option (D × Sto) := some (.ref S.next, S.new (.dit false []))
def eNewK : Ev := fun _ S => fNewK S
def eNewT : Ev := fun _ S => fNewT S
section
variable {K : PySem.W.Frag} {G : Gx} {w : Wd}
theorem se_dget2 {to tk td : TE} {eo ek ed : Ev} (ho : SE K G to eo) (hk : SE K G tk ek) (hd : SE K G td ed) : SE K G (tDGet2 to tk td) (eDGet2 eo ek ed) := fun w σ ρ d S' o rs h Q k => by
  obtain ⟨⟨dx, S1⟩, h1, ha⟩ := bnd h
  obtain ⟨⟨l, S1'⟩, h2, hb⟩ := bnd ha
  obtain ⟨⟨dy, S2⟩, h3, hc⟩ := bnd hb
  obtain ⟨⟨dz, S3⟩, h4, hh⟩ := bnd hc
  clear h ha hb hc
  obtain ⟨rfl, ex, lk, kvs0, g0⟩ := isD_is h2
  dsimp only at ex
  subst ex
  refine ho w σ ρ _ S1' o rs h1 _ fun x w1 e1 f1 o1 r1 => ?_
  subst e1
  obtain ⟨a, ks0, rfl, i0, q0, _, _⟩ := o1.dict r1 g0
  refine ⟨a, rfl, .inl ⟨ks0, q0⟩, hk w1 σ ρ dy S2 o1 (rs.fr o f1) h3 _ fun y w2 e2 f2 o2 r2 => ?_⟩
  subst e2
  refine hd w2 σ ρ dz S3 o2 (rs.fr o (f1.trans f2)) h4 _ fun z w3 e3 f3 o3 r3 => ?_
  subst e3
  unfold fDGet2 at hh
  dsimp only at hh
  split at hh
  · rename_i lk kvs g
    cases hk : keyD dy with
    | none => rw [hk] at hh; cases hh
    | some key =>
      rw [hk] at hh
      cases hh
      obtain ⟨a', ks, ea, i1, q1, rk, _⟩ := o3.dict (r1.mono (f2.trans f3).mv) g
      cases ea
      have hg := rk_get rk key
      have f13 := (f1.trans f2).trans f3
      refine ⟨valV ks key.key, .inl ⟨ks, key.key, q1, key_rv (r2.mono f3.mv) hk, rfl⟩, ?_⟩
      cases q : dget kvs key with
      | none =>
        rw [q] at hg k
        rw [hg]
        exact Kd.now (Kd.from k f13) o3 r3
      | some d' =>
        rw [q] at hg k
        obtain ⟨v, v1, v2⟩ := hg
        rw [v1]
        exact Kd.now (Kd.from k f13) o3 v2
  · cases hh
end
end AH
namespace AH
open PySem L2 TL PySem.Spec PyProof.Rows
end AH
set_option maxRecDepth 100000
set_option maxHeartbeats 2000000
namespace AH
open PySem L2 TL PySem.Spec PyProof.Rows
def fInD (neg : Bool) (a b : D) (S : Sto) : Option (D × Sto) := match toPyS S a, toPyS S b with
  | some d, some (.list ds) => if SeqAt.shaped d = true ∧ SeqAt.shaped (.list ds) = true then some (.bl (if neg then !ds.any fun z => PyData.eqv z d else ds.any fun z => PyData.eqv z d), S) else none
  | _, _ => none
section
variable {K : PySem.W.Frag} {G : Gx} {w : Wd}
theorem s2_inD {neg : Bool} : S2 K G (if neg then rNotInD K else rInD K) (fInD neg) := fun w x y dx dy d S' o rx ry hh Q k => by
  unfold fInD at hh
  split at hh
  · rename_i p ps h1 h2
    split at hh
    · rename_i hs
      cases hh
      cases neg with
      | false => exact ⟨p, ps, toPyS_dp o rx h1, toPyS_dp o ry h2, hs.1, hs.2, Kd.now k o .bl⟩
      | true => exact ⟨p, ps, toPyS_dp o rx h1, toPyS_dp o ry h2, hs.1, hs.2, Kd.now k o .bl⟩
    · cases hh
  · cases hh
end
section
variable {X : Cx}
theorem opInD (K : PySem.W.Frag) {k : Nat} (hr : Room k X.A) (h : X.K = K := by rfl) : OpR X (compareOp .In) (rInD K) := by subst h; exact op_inD (by have := hr.un; omega)
end
end AH
set_option maxRecDepth 100000
set_option maxHeartbeats 2000000
namespace AH
open PySem L2 TL PySem.Spec PyProof.Rows
def rUpd : V → List V → Hp → VK → Prop := fun x xs H Q => ∃ (a b : Addr) (kvs more : List (Key × V)), x = .ref a ∧ xs = [.ref b] ∧ a ≠ b ∧ H a = some (.dK kvs) ∧ Rd H b (.dK more) ∧ kvs.length + more.length ≤ sizeLine ∧ Q .non (upd H a (.dK (mergeK kvs more)))
theorem mt_upd {X : Cx} : MtR X "dict.update" rUpd := by
  intro pins s σ H x xs v us Q I rx rxs h
  obtain ⟨a, b, kvs, more, rfl, rfl, hab, e1, e2, hz, q⟩ := h
  cases rx
  cases rxs with
  | cons ry rt =>
    cases rt
    cases ry
    obtain ⟨z1, d1, vs, rel, dd⟩ := dk_of I.hok e1
    obtain ⟨z2, d2, us, rel2, dd2⟩ := dk_rd I.hok e2
    have hm := KV.merge rel2 rel
    refine call_meetsIn PySem.F.slot_dict_update dd.typeIs PySem.F.entry_dict_update (PySem.F.args_dict_update_2 _ _) (meets_dict_update (mixKind X.prog X.w) a b hab d2) ⟨vs, us, dd, dd2, by rw [← rel.length, ← rel2.length]; exact hz, fun h' dd' _ hs => ?_⟩
    have he : ∃ q, h'.get? a = some q := let ⟨q, _, _, hq, _⟩ := dd'; ⟨q, hq⟩
    refine ⟨.non, _, d_write (t' := s.toks) I (by rw [e1]; exact True.intro) hs he (dk_new (Nat.le_trans (length_mergeK more kvs) hz) d1 hm dd'), rfl, q⟩
def fUpd (a : D) (bs : List D) (S : Sto) : Option (D × Sto) := match a, bs with
  | .ref l, [.ref m] => if l = m then none else match S.get l, S.get m with
    | some (.dic false kvs), some (.dic _ more) => if kvs.length + more.length ≤ sizeLine then some (.non, S.set l (.dic false (dmerge kvs more))) else none
    | _, _ => none
  | _, _ => none
def isDf (x : D) (S : Sto) : Option (Nat × Sto) := match x with
  | .ref l => match S.get l with
    | some (.dic false _) => some (l, S)
    | _ => none
  | _ => none
theorem isDf_is {x : D} {S S1 : Sto} {l : Nat} (e : isDf x S = some (l, S1)) : S1 = S ∧ x = .ref l ∧ ∃ kvs, S.get l = some (.dic false kvs) := by
  unfold isDf at e
  split at e
  · split at e
    · rename_i g
      cases e
      exact ⟨rfl, rfl, _, g⟩
    · cases e
  · cases e
/-- a method of a dict that stands free -/
def eDM (f : D → List D → Sto → Option (D × Sto)) (eo : Ev) (el : EvL) : Ev := fun ρ S => (eo ρ S).bind fun x => (isDf x.1 x.2).bind fun u => (el ρ u.2).bind fun y => f (.ref u.1) y.1 y.2
section
variable {K : PySem.W.Frag} {G : Gx} {w : Wd}
theorem sm_upd : SM K G rUpd fUpd := fun w x dx xs ds d S' o rx r hh Q k => by
  unfold fUpd at hh
  split at hh
  · split at hh
    · cases hh
    · rename_i l m hne
      split at hh
      · rename_i kvs lk more g1 g2
        split at hh
        · rename_i hz
          cases hh
          obtain ⟨v, rfl, r1⟩ := r.one_of
          obtain ⟨a, ks, rfl, i1, q1, rk, q1'⟩ := o.dict rx g1
          obtain ⟨b, ms, rfl, i2, q2, rk2, _⟩ := o.dict r1 g2
          have i5 := q1' rfl
          have nf : ∀ q z, w.H a ≠ some (.frz q z) := fun q z e => by
            rw [i5] at e
            cases e
          have f3 := Fr.put (o := .dic false (dmerge kvs more)) (u := .dK (mergeK ks ms)) i1 nf
          have o3 := o.put g1 i1 nf (o := .dic false (dmerge kvs more)) (u := .dK (mergeK ks ms)) ⟨_, upd_same, L2.Paired.mapP (rk_merge rk2 rk) fun _ _ q => ⟨q.1, q.2.mono f3.mv⟩⟩
          refine ⟨a, b, ks, ms, rfl, rfl, fun e => hne (o.inj l m a i1 (by rw [e]; exact i2)), i5, q2, by rw [rk_len rk, rk_len rk2]; exact hz, k _ (w.put l (.dic false (dmerge kvs more)) a (.dK (mergeK ks ms))) rfl f3 o3 .non⟩
        · cases hh
      · cases hh
  · cases hh
theorem se_dm {r : V → List V → Hp → VK → Prop} {f : D → List D → Sto → Option (D × Sto)} {to : TE} {ta : TA} {eo : Ev} {el : EvL} (hr : SM K G r f) (ho : SE K G to eo) (ha : SA K G ta el) : SE K G (tBM K "dict" r to ta) (eDM f eo el) := fun w σ ρ d S' o rs h Q k => by
  obtain ⟨⟨dx, S1⟩, h1, h2⟩ := bnd h
  obtain ⟨⟨l, S1'⟩, h3, h4⟩ := bnd h2
  obtain ⟨⟨ds, S2⟩, h5, h6⟩ := bnd h4
  clear h h2 h4
  obtain ⟨rfl, ex, kvs, g⟩ := isDf_is h3
  dsimp only at ex
  subst ex
  refine ho w σ ρ _ S1' o rs h1 _ fun x w1 e1 f1 o1 r1 => ?_
  subst e1
  obtain ⟨a, ks, rfl, i1, q1, rk, q1'⟩ := o1.dict r1 g
  refine ⟨.inr (.inr (.inl ⟨rfl, .inl ⟨ks, q1' rfl⟩⟩)), ha w1 σ ρ ds S2 o1 (rs.fr o f1) h5 _ fun xs w2 e2 f2 o2 r2 => ?_⟩
  subst e2
  exact hr w2 _ _ xs ds d S' o2 (r1.mono f2.mv) r2 h6 Q (Kd.from k (f1.trans f2))
structure Mw (w w' : Wd) : Prop where
  io : ∀ l a, w.io l = some a → w'.io l = some a
  hp : ∀ a o, w.H a = some o → ¬ w.Ex a → w'.H a = some o ∧ ¬ w'.Ex a
theorem Mw.put {w : Wd} {l : Nat} {a : Addr} {o : MO} {u : HO} (h : w.io l = some a) : Mw w (w.put l o a u) := ⟨fun _ _ e => e, fun b z e k => ⟨by
  show upd w.H a u b = some z
  rw [upd_ne (fun (q : b = a) => k (.inr ⟨l, by rw [q]; exact h⟩))]
  exact e, k⟩⟩
def DK.d : DK → D
  | .i n => .int n
  | .s c => .str c
end
end AH
namespace AH
open PySem L2 TL PySem.Spec PyProof.Rows
theorem peUpd (K : PySem.W.Frag) {X : Cx} {o e : Expr} {es : List Expr} {to : TE} {t : TA} {apos pos : Pos} (ho : PE X o to) (ha : PA X (e :: es) t)
    (hbase : attributeBase o "update" X.env (eval o X.env) = eval o X.env := by rfl)
    (hfew : ((backTo pos (starEach (e :: es) X.env)).all (fun x => !x.1) && (backToKw pos (keywordEach [] X.env)).all (fun x => x.1.isSome)
      && decide ((e :: es).length + ([] : List Keyword).length + (if ([] : List Keyword).isEmpty then 0 else 1) < 30)) = true := by rfl)
    (hline : (apos.endLine == pos.line) = true := by rfl) (hs : starEach (e :: es) X.env = (false, eval e X.env) :: starEach es X.env := by rfl) (hplain : (backTo pos (starEach es X.env)).any (·.1) = false := by rfl) (h : X.K = K := by rfl) :
    PE X (.Call (.Attribute o "update" apos) (e :: es) [] pos) (tBM K "dict" rUpd to t) := by subst h; exact pe_bm PySem.F.plainAttrs_dict PySem.F.slot_dict_update PySem.F.type_dict_update mt_upd ho ha hbase hfew hline hs hplain
end AH
set_option maxRecDepth 100000
set_option maxHeartbeats 2000000
namespace AH
open PySem L2 TL PySem.Spec PyProof.Rows Classical
end AH
set_option maxRecDepth 100000
set_option maxHeartbeats 2000000
namespace AH
open PySem L2 TL
def Sto.nil0 : Sto := ⟨0, fun _ => none⟩
/-- a run ends, and behind it P -/
def W {α : Type} (o : Option (α × Sto)) (P : α → Sto → Prop) : Prop := ∃ a S, o = some (a, S) ∧ P a S
abbrev PS := Fl → Rho → Sto → Prop
def WS (o : Option (Fl × Rho × Sto)) (P : PS) : Prop := ∃ f ρ S, o = some (f, ρ, S) ∧ P f ρ S
section
variable {α β : Type} {P : α → Sto → Prop} {S S1 : Sto} {ρ : Rho} {Q : PS}
theorem W.mono {o : Option (α × Sto)} {P' : α → Sto → Prop} (h : W o P) (k : ∀ a S, P a S → P' a S) : W o P' := by
  obtain ⟨a, S, e, p⟩ := h
  exact ⟨a, S, e, k a S p⟩
theorem WS.mono {o : Option (Fl × Rho × Sto)} {Q' : PS} (h : WS o Q) (k : ∀ f ρ S, Q f ρ S → Q' f ρ S) : WS o Q' := by
  obtain ⟨a, r, S, e, p⟩ := h
  exact ⟨a, r, S, e, k a r S p⟩
theorem w_ret {a : α} (h : P a S) : W (some (a, S)) P := ⟨a, S, rfl, h⟩
theorem w_bind {o : Option (β × Sto)} {f : β × Sto → Option (α × Sto)} (h : W o fun b S1 => W (f (b, S1)) P) : W (o.bind f) P := by
  obtain ⟨b, S1, rfl, a, S2, e, p⟩ := h
  exact ⟨a, S2, e, p⟩
theorem ws_bind {o : Option (β × Sto)} {f : β × Sto → Option (Fl × Rho × Sto)} (h : W o fun b S1 => WS (f (b, S1)) Q) : WS (o.bind f) Q := by
  obtain ⟨b, S1, rfl, a, r, S2, e, p⟩ := h
  exact ⟨a, r, S2, e, p⟩
theorem we_var {i : Nat} {d : D} {P : D → Sto → Prop} (e : ρ[i]? = some (.val d)) (h : P d S) : W (eVar i ρ S) P := by
  refine ⟨d, S, ?_, h⟩
  unfold eVar
  rw [e]
theorem we_c {d : D} {P : D → Sto → Prop} (h : P d S) : W (eC d ρ S) P := w_ret h
theorem we_2 {f : D → D → Sto → Option (α × Sto)} {a b : Ev} (h : W (a ρ S) fun x S1 => W (b ρ S1) fun y S2 => W (f x y S2) P) : W (e2 f a b ρ S) P :=
  w_bind (h.mono fun _ _ q => w_bind q)
theorem we_1 {f : D → Sto → Option (α × Sto)} {a : Ev} (h : W (a ρ S) fun x S1 => W (f x S1) P) : W (e1 f a ρ S) P := w_bind h
theorem we_n {f : List D → Sto → Option (α × Sto)} {a : EvL} (h : W (a ρ S) fun x S1 => W (f x S1) P) : W (eN f a ρ S) P := w_bind h
theorem we_3 {f : D → Option Int → Option Int → Sto → Option (α × Sto)} {a : Ev} {b c : EvO} (h : W (a ρ S) fun x S1 => W (b ρ S1) fun y S2 => W (c ρ S2) fun z S3 => W (f x y z S3) P) : W (e3 f a b c ρ S) P :=
  w_bind (h.mono fun _ _ q => w_bind (q.mono fun _ _ q => w_bind q))
theorem wo_none {P : Option Int → Sto → Prop} (h : P none S) : W (oNone ρ S) P := w_ret h
theorem wo_some {P : Option Int → Sto → Prop} {a : Ev} (h : W (a ρ S) fun x S1 => ∃ i, x = .int i ∧ P (some i) S1) : W (oSome a ρ S) P :=
  w_bind (h.mono fun x S1 ⟨i, e, p⟩ => by
    subst e
    exact w_ret p)
theorem wl_nil {P : List D → Sto → Prop} (h : P [] S) : W (aNil ρ S) P := w_ret h
theorem wl_cons {P : List D → Sto → Prop} {a : Ev} {b : EvL} (h : W (a ρ S) fun x S1 => W (b ρ S1) fun y S2 => P (x :: y) S2) : W (aCons a b ρ S) P :=
  w_bind (h.mono fun _ _ q => w_bind (q.mono fun _ _ q => w_ret q))
theorem we_V {P : D → Sto → Prop} {a : EvL} (h : W (a ρ S) fun x S1 => P (.lst x) S1) : W (eV a ρ S) P := w_bind (h.mono fun _ _ q => w_ret q)
theorem we_own {P : D → Sto → Prop} {a : EvL} (h : W (a ρ S) fun x S1 => P (.ref S1.next) (S1.new (.lst x))) : W (eOwn a ρ S) P := w_bind (h.mono fun _ _ q => w_ret q)
theorem we_tup {P : D → Sto → Prop} {a : EvL} (h : W (a ρ S) fun x S1 => x.length ≤ 16777216 ∧ P (.tup x) S1) : W (eTup a ρ S) P := w_bind (h.mono fun x S1 ⟨q, p⟩ => by
  show W (if x.length ≤ sizeLine then some (.tup x, S1) else none) P
  rw [if_pos (by rw [sizeLine_eq]; exact q)]
  exact w_ret p)
theorem wl_lst {P : List D → Sto → Prop} {a : EvL} (h : W (a ρ S) fun x S1 => x.length ≤ 16777216 ∧ P x S1) : W (fLst a ρ S) P := w_bind (h.mono fun x S1 ⟨q, p⟩ => by
  show W (if x.length ≤ sizeLine then some (x, S1) else none) P
  rw [if_pos (by rw [sizeLine_eq]; exact q)]
  exact w_ret p)
theorem wt_of {P : Bool → Sto → Prop} {a : Ev} (h : W (a ρ S) fun x S1 => ∃ b, x = .bl b ∧ P b S1) : W (tOf a ρ S) P :=
  w_bind (h.mono fun x S1 ⟨i, e, p⟩ => by
    subst e
    exact w_ret p)
theorem wt_or {P : Bool → Sto → Prop} {a b : EvT} (h : W (a ρ S) fun x S1 => (x = true → P true S1) ∧ (x = false → W (b ρ S1) P)) : W (tOrE a b ρ S) P :=
  w_bind (h.mono fun x S1 ⟨p, q⟩ => by
    cases x with
    | true => exact w_ret (p rfl)
    | false => exact q rfl)
theorem wt_and {P : Bool → Sto → Prop} {a b : EvT} (h : W (a ρ S) fun x S1 => (x = false → P false S1) ∧ (x = true → W (b ρ S1) P)) : W (tAndE a b ρ S) P :=
  w_bind (h.mono fun x S1 ⟨p, q⟩ => by
    cases x with
    | false => exact w_ret (p rfl)
    | true => exact q rfl)
theorem wt_not {P : Bool → Sto → Prop} {a : EvT} (h : W (a ρ S) fun x S1 => P (!x) S1) : W (tNotE a ρ S) P := w_bind (h.mono fun _ _ q => w_ret q)
theorem we_and {P : D → Sto → Prop} {a b : Ev} (h : W (a ρ S) fun x S1 => ∃ c, x = .bl c ∧ (c = false → P (.bl false) S1) ∧ (c = true → W (b ρ S1) P)) : W (eAndE a b ρ S) P :=
  w_bind (h.mono fun x S1 ⟨c, e, p, q⟩ => by
    subst e
    cases c with
    | false => exact w_ret (p rfl)
    | true => exact q rfl)
theorem we_or {P : D → Sto → Prop} {a b : Ev} (h : W (a ρ S) fun x S1 => ∃ c, x = .bl c ∧ (c = true → P (.bl true) S1) ∧ (c = false → W (b ρ S1) P)) : W (eOrE a b ρ S) P :=
  w_bind (h.mono fun x S1 ⟨c, e, p, q⟩ => by
    subst e
    cases c with
    | true => exact w_ret (p rfl)
    | false => exact q rfl)
theorem we_not {P : D → Sto → Prop} {a : Ev} (h : W (a ρ S) fun x S1 => ∃ c, x = .bl c ∧ P (.bl (!c)) S1) : W (eNotE a ρ S) P :=
  w_bind (h.mono fun x S1 ⟨c, e, p⟩ => by
    subst e
    exact w_ret p)
theorem we_if {P : D → Sto → Prop} {t : EvT} {a b : Ev} (h : W (t ρ S) fun c S1 => (c = true → W (a ρ S1) P) ∧ (c = false → W (b ρ S1) P)) : W (eIf t a b ρ S) P :=
  w_bind (h.mono fun x S1 ⟨p, q⟩ => by
    cases x with
    | true => exact p rfl
    | false => exact q rfl)
def isNon : D → Option Bool
  | .non => some true
  | .raw _ => none
  | _ => some false
theorem we_isN {P : D → Sto → Prop} {a : Ev} (h : W (a ρ S) fun x S1 => ∃ c, isNon x = some c ∧ P (.bl c) S1) : W (eIsN a ρ S) P :=
  w_bind (h.mono fun x S1 ⟨c, e, p⟩ => by
    cases x <;> cases e <;> exact w_ret p)
theorem we_notN {P : D → Sto → Prop} {a : Ev} (h : W (a ρ S) fun x S1 => ∃ c, isNon x = some c ∧ P (.bl (!c)) S1) : W (eNotN a ρ S) P :=
  w_bind (h.mono fun x S1 ⟨c, e, p⟩ => by
    cases x <;> cases e <;> exact w_ret p)
theorem we_chain {P : D → Sto → Prop} {f g : D → D → Sto → Option (D × Sto)} {a b c : Ev} (h : W (a ρ S) fun x S1 => W (b ρ S1) fun y S2 => W (f x y S2) fun z S3 => ∃ k, z = .bl k ∧ (k = false → P (.bl false) S3) ∧ (k = true → W (c ρ S3) fun u S4 => W (g y u S4) P)) : W (eChain f g a b c ρ S) P :=
  w_bind (h.mono fun _ _ q => w_bind (q.mono fun _ _ q => w_bind (q.mono fun z S3 ⟨k, e, p, q⟩ => by
    subst e
    cases k with
    | false => exact w_ret (p rfl)
    | true => exact w_bind (q rfl))))
def nxt (b : EvS) (Q : PS) : PS := fun f ρ S => match f with
  | .nx => WS (b ρ S) Q
  | f => Q f ρ S
theorem ws_next (h : Q .nx ρ S) : WS (sNext ρ S) Q := ⟨_, _, _, rfl, h⟩
theorem ws_brk (h : Q .bk ρ S) : WS (sBrk ρ S) Q := ⟨_, _, _, rfl, h⟩
theorem ws_cnt (h : Q .ct ρ S) : WS (sCnt ρ S) Q := ⟨_, _, _, rfl, h⟩
theorem ws_seq {a b : EvS} (h : WS (a ρ S) (nxt b Q)) : WS (sSeq a b ρ S) Q := by
  obtain ⟨f, ρ1, S1, e, p⟩ := h
  unfold sSeq
  rw [e]
  cases f with
  | nx => exact p
  | bk => exact ⟨_, _, _, rfl, p⟩
  | ct => exact ⟨_, _, _, rfl, p⟩
  | rt d => exact ⟨_, _, _, rfl, p⟩
  | rf ds => exact ⟨_, _, _, rfl, p⟩
theorem ws_if {t : EvT} {a b : EvS} (h : W (t ρ S) fun c S1 => (c = true → WS (a ρ S1) Q) ∧ (c = false → WS (b ρ S1) Q)) : WS (sIf t a b ρ S) Q :=
  ws_bind (h.mono fun x S1 ⟨p, q⟩ => by
    cases x with
    | true => exact p rfl
    | false => exact q rfl)
theorem ws_do {e : Ev} (h : W (e ρ S) fun _ S1 => Q .nx ρ S1) : WS (sDo e ρ S) Q := ws_bind (h.mono fun _ _ q => ⟨_, _, _, rfl, q⟩)
theorem ws_ret {e : Ev} (h : W (e ρ S) fun d S1 => Q (.rt d) ρ S1) : WS (sRet e ρ S) Q := ws_bind (h.mono fun _ _ q => ⟨_, _, _, rfl, q⟩)
theorem ws_retN (h : Q (.rt .non) ρ S) : WS (sRetN ρ S) Q := ⟨_, _, _, rfl, h⟩
theorem ws_retF {e : EvL} (h : W (e ρ S) fun d S1 => Q (.rf d) ρ S1) : WS (sRetF e ρ S) Q := ws_bind (h.mono fun _ _ q => ⟨_, _, _, rfl, q⟩)
theorem ws_retA {i : Nat} {ds : List D} (e : ρ[i]? = some (.acc ds)) (h : Q (.rf ds) ρ S) : WS (sRetA i ρ S) Q := by
  refine ⟨_, _, _, ?_, h⟩
  unfold sRetA
  rw [e]
/-- into a name -/
theorem ws_set {e : Ev} {i : Nat} (h : W (e ρ S) fun d S1 => i < ρ.length ∧ Q .nx (ρ.set i (.val d)) S1) : WS (sAsg e (gNm i) ρ S) Q := ws_bind (h.mono fun d S1 ⟨l, q⟩ => by
  refine ⟨.nx, ρ.set i (.val d), S1, ?_, q⟩
  show ((gNm i d ρ S1).bind _) = _
  unfold gNm
  rw [if_pos l]
  rfl)
theorem ws_asg {e : Ev} {g : EvG} (h : W (e ρ S) fun d S1 => W ((g d ρ S1)) fun ρ' S2 => Q .nx ρ' S2) : WS (sAsg e g ρ S) Q := ws_bind (h.mono fun d S1 q => ws_bind (q.mono fun _ _ p => ⟨_, _, _, rfl, p⟩))
theorem wg_nm {i : Nat} {d : D} {P : Rho → Sto → Prop} (l : i < ρ.length) (h : P (ρ.set i (.val d)) S) : W (gNm i d ρ S) P := by
  refine ⟨_, _, ?_, h⟩
  unfold gNm
  rw [if_pos l]
theorem ws_acc {e : EvL} {i : Nat} (h : W (e ρ S) fun d S1 => i < ρ.length ∧ Q .nx (ρ.set i (.acc d)) S1) : WS (sAcc i e ρ S) Q := ws_bind (h.mono fun d S1 ⟨l, q⟩ => by
  refine ⟨.nx, ρ.set i (.acc d), S1, ?_, q⟩
  show (if i < ρ.length then _ else _) = _
  rw [if_pos l])
theorem ws_frz {i : Nat} {ds : List D} {s : EvS} (e : ρ[i]? = some (.acc ds)) (h : WS (s (ρ.set i (.val (.lst ds))) S) Q) : WS (sFrz i s ρ S) Q := by
  have z : frz i ρ = ρ.set i (.val (.lst ds)) := by
    unfold frz
    rw [e]
  show WS (s (frz i ρ) S) Q
  rw [z]
  exact h
theorem ws_frz0 {i : Nat} {d : D} {s : EvS} (e : ρ[i]? = some (.val d)) (h : WS (s ρ S) Q) : WS (sFrz i s ρ S) Q := by
  have z : frz i ρ = ρ := by
    unfold frz
    rw [e]
  show WS (s (frz i ρ) S) Q
  rw [z]
  exact h
theorem ws_app {e : Ev} {i : Nat} {ds : List D} (q : ρ[i]? = some (.acc ds)) (h : W (e ρ S) fun d S1 => ds.length < 16777216 ∧ Q .nx (ρ.set i (.acc (ds ++ [d]))) S1) : WS (sApp i e ρ S) Q := ws_bind (h.mono fun d S1 ⟨l, k⟩ => by
  refine ⟨.nx, ρ.set i (.acc (ds ++ [d])), S1, ?_, k⟩
  dsimp only
  rw [q]
  exact if_pos (by rw [sizeLine_eq]; exact l))
theorem ws_extend {e : EvL} {i : Nat} {ds : List D} (q : ρ[i]? = some (.acc ds)) (h : W (e ρ S) fun d S1 => ds.length + d.length ≤ 16777216 ∧ Q .nx (ρ.set i (.acc (ds ++ d))) S1) : WS (sExtend i e ρ S) Q := ws_bind (h.mono fun d S1 ⟨l, k⟩ => by
  refine ⟨.nx, ρ.set i (.acc (ds ++ d)), S1, ?_, k⟩
  dsimp only
  rw [q]
  exact if_pos (by rw [sizeLine_eq]; exact l))
theorem ws_par {i j : Nat} {a b : Ev} (h : W (a ρ S) fun x S1 => W (b ρ S1) fun y S2 => (i < ρ.length ∧ j < ρ.length) ∧ Q .nx ((ρ.set i (.val x)).set j (.val y)) S2) : WS (sPar i j a b ρ S) Q := ws_bind (h.mono fun x S1 q => ws_bind (q.mono fun y S2 ⟨l, k⟩ => ⟨.nx, _, S2, if_pos l, k⟩))
theorem ws_for {it : EvL} {g : EvG} {b : EvS} (h : W (it ρ S) fun ds S1 => WS (forL g b ds ρ S1) Q) : WS (sFor it g b ρ S) Q := ws_bind h
/-- behind a body: on, or out -/
def lp (I : Rho → Sto → Prop) (Q : PS) : PS := fun f ρ S => match f with
  | .nx => I ρ S
  | .ct => I ρ S
  | .bk => Q .nx ρ S
  | f => Q f ρ S
theorem forL_from {g : EvG} {b : EvS} {all : List D} (I : Nat → Rho → Sto → Prop) (step : ∀ k d ρ S, all[k]? = some d → I k ρ S → W (g d ρ S) fun ρ1 S1 => WS (b ρ1 S1) (lp (I (k + 1)) Q)) (fin : ∀ ρ S, I all.length ρ S → Q .nx ρ S) :
    ∀ (ds : List D) (k : Nat) ρ S, all.drop k = ds → k ≤ all.length → I k ρ S → WS (forL g b ds ρ S) Q
  | [], k, ρ, S, e, hk, i => by
    have l : all.length ≤ k := List.drop_eq_nil_iff.mp e
    have e2 : k = all.length := by omega
    subst e2
    exact ⟨_, _, _, rfl, fin ρ S i⟩
  | d :: ds, k, ρ, S, e, hk, i => by
    have hd : all[k]? = some d := by
      have z := congrArg (·[0]?) e
      simpa using z
    have lt : k < all.length := (List.getElem?_eq_some_iff.mp hd).1
    have e2 : all.drop (k + 1) = ds := by
      rw [← List.tail_drop, e]
      rfl
    obtain ⟨ρ1, S1, e1, f, ρ2, S2, e3, p⟩ := step k d ρ S hd i
    unfold forL
    rw [e1]
    dsimp only
    rw [e3]
    cases f with
    | nx => exact forL_from I step fin ds (k + 1) ρ2 S2 e2 lt p
    | ct => exact forL_from I step fin ds (k + 1) ρ2 S2 e2 lt p
    | bk => exact ⟨_, _, _, rfl, p⟩
    | rt d => exact ⟨_, _, _, rfl, p⟩
    | rf ds => exact ⟨_, _, _, rfl, p⟩
theorem ws_loop {g : EvG} {b : EvS} {all : List D} (I : Nat → Rho → Sto → Prop) (i0 : I 0 ρ S) (step : ∀ k d ρ S, all[k]? = some d → I k ρ S → W (g d ρ S) fun ρ1 S1 => WS (b ρ1 S1) (lp (I (k + 1)) Q)) (fin : ∀ ρ S, I all.length ρ S → Q .nx ρ S) : WS (forL g b all ρ S) Q :=
  forL_from I step fin all 0 ρ S rfl (Nat.zero_le _) i0
theorem wi_L {a : Ev} {P : List D → Sto → Prop} (h : W (a ρ S) fun x S1 => (∃ ds, x = .lst ds ∧ P ds S1) ∨ ∃ ns : List Int, x = .scr ns ∧ P (ns.map D.int) S1) : W (iL a ρ S) P := w_bind (h.mono fun x S1 q => by
  rcases q with ⟨ds, e, p⟩ | ⟨ds, e, p⟩
  · subst e
    exact w_ret p
  · subst e
    exact w_ret p)
theorem wi_T {a : Ev} {P : List D → Sto → Prop} (h : W (a ρ S) fun x S1 => (∃ ds, x = .tup ds ∧ P ds S1)) : W (iT a ρ S) P := w_bind (h.mono fun x S1 q => by
  obtain ⟨ds, e, p⟩ := q
  subst e
  exact w_ret p)
theorem wi_S {a : Ev} {P : List D → Sto → Prop} (h : W (a ρ S) fun x S1 => (∃ ds, x = .str ds ∧ P (chars ds) S1)) : W (iS a ρ S) P := w_bind (h.mono fun x S1 q => by
  obtain ⟨ds, e, p⟩ := q
  subst e
  exact w_ret p)
theorem wi_R1 {a : EvL} {P : List D → Sto → Prop} (h : W (a ρ S) fun x S1 => ∃ j : Int, x = [.int j] ∧ (-1000000000 ≤ j ∧ j ≤ 1000000000) ∧ P (rng 0 j.toNat) S1) : W (iR1 a ρ S) P := w_bind (h.mono fun x S1 ⟨j, e, l, p⟩ => by
  subst e
  exact ⟨_, _, if_pos l, p⟩)
theorem wi_R2 {a : EvL} {P : List D → Sto → Prop} (h : W (a ρ S) fun x S1 => ∃ i j : Int, x = [.int i, .int j] ∧ (-1000000000 ≤ i ∧ i ≤ 1000000000 ∧ -1000000000 ≤ j ∧ j ≤ 1000000000) ∧ P (rng i (j - i).toNat) S1) : W (iR2 a ρ S) P := w_bind (h.mono fun x S1 ⟨i, j, e, l, p⟩ => by
  subst e
  exact ⟨_, _, if_pos l, p⟩)
theorem wi_R3 {a : EvL} {P : List D → Sto → Prop} (h : W (a ρ S) fun x S1 => ∃ i j c : Int, x = [.int i, .int j, .int c] ∧ (0 ≤ i ∧ i ≤ 1000000000 ∧ 0 ≤ j ∧ j ≤ 1000000000 ∧ 0 < c ∧ c ≤ 1000000) ∧ P (rng3 i c (rn3 i j c)) S1) : W (iR3 a ρ S) P := w_bind (h.mono fun x S1 ⟨i, j, c, e, l, p⟩ => by
  subst e
  exact ⟨_, _, if_pos l, p⟩)
theorem wi_E {a : EvL} {P : List D → Sto → Prop} (h : W (a ρ S) fun x S1 => ∃ ds, x = [.lst ds] ∧ P (enumD ds) S1) : W (iE a ρ S) P := w_bind (h.mono fun x S1 ⟨ds, e, p⟩ => by
  subst e
  exact w_ret p)
theorem rng_get {lo : Int} {n k : Nat} {d : D} (h : (rng lo n)[k]? = some d) : d = .int (lo + (k : Nat)) ∧ k < n := by
  unfold rng at h
  rw [List.getElem?_map] at h
  cases e : (List.range n)[k]? with
  | none => rw [e] at h; cases h
  | some j =>
    rw [e] at h
    cases h
    have l : k < n := by
      have z := (List.getElem?_eq_some_iff.mp e).1
      simpa using z
    rw [List.getElem?_range l] at e
    cases e
    exact ⟨rfl, l⟩
theorem rng_len {lo : Int} {n : Nat} : (rng lo n).length = n := by
  unfold rng
  simp
theorem lcC_from {g : EvP} {t : EvT} {e : Ev} {all : List D} {P : List D → Sto → Prop} (I : Nat → List D → Sto → Prop) (step : ∀ k d out S, all[k]? = some d → I k out S → ∃ ρ1, g d ρ = some ρ1 ∧ W (t ρ1 S) fun c S1 => (c = false → I (k + 1) out S1) ∧ (c = true → W (e ρ1 S1) fun x S2 => I (k + 1) (out ++ [x]) S2)) :
    ∀ (ds : List D) (k : Nat) out S, all.drop k = ds → k ≤ all.length → I k out S → (∀ out S, I all.length out S → P out S) → W (lcC g t e ρ ds S) fun r S1 => P (out ++ r) S1
  | [], k, out, S, eq, hk, i, fin => by
    have l : all.length ≤ k := List.drop_eq_nil_iff.mp eq
    have e2 : k = all.length := by omega
    subst e2
    refine ⟨_, _, rfl, ?_⟩
    show P (out ++ []) S
    rw [List.append_nil]
    exact fin out S i
  | d :: ds, k, out, S, eq, hk, i, fin => by
    have hd : all[k]? = some d := by
      have z := congrArg (·[0]?) eq
      simpa using z
    have lt : k < all.length := (List.getElem?_eq_some_iff.mp hd).1
    have e2 : all.drop (k + 1) = ds := by
      rw [← List.tail_drop, eq]
      rfl
    obtain ⟨ρ1, e1, c, S1, e3, h1, h2⟩ := step k d out S hd i
    unfold lcC
    rw [e1]
    simp only [Option.bind_some]
    rw [e3]
    simp only [Option.bind_some]
    cases c with
    | false => exact lcC_from I step ds (k + 1) out S1 e2 lt (h1 rfl) fin
    | true =>
      obtain ⟨x, S2, e4, p⟩ := h2 rfl
      obtain ⟨r, S3, e5, q⟩ := lcC_from I step ds (k + 1) (out ++ [x]) S2 e2 lt p fin
      refine ⟨x :: r, S3, ?_, ?_⟩
      · simp only [if_true, e4, Option.bind_some, e5]
      · have z : out ++ x :: r = out ++ [x] ++ r := by simp
        show P (out ++ x :: r) S3
        rw [z]
        exact q
theorem wl_lc {it : EvL} {vs : List Nat} {g : EvP} {t : EvT} {e : Ev} {P : List D → Sto → Prop} (h : W (it ρ S) fun all S1 => ∃ I : Nat → List D → Sto → Prop, I 0 [] S1 ∧ (∀ k d out S, all[k]? = some d → I k out S → ∃ ρ1, g d (wipeR ρ vs) = some ρ1 ∧ W (t ρ1 S) fun c S1 => (c = false → I (k + 1) out S1) ∧ (c = true → W (e ρ1 S1) fun x S2 => I (k + 1) (out ++ [x]) S2)) ∧ ∀ out S, I all.length out S → out.length ≤ 16777216 ∧ P out S) : W (fLc it vs g t e ρ S) P :=
  w_bind (h.mono fun all S1 ⟨I, i0, step, fin⟩ => by
    obtain ⟨r, S2, e1, q⟩ := lcC_from (P := fun out S => out.length ≤ 16777216 ∧ P out S) I step all 0 [] S1 rfl (Nat.zero_le _) i0 fin
    refine ⟨r, S2, ?_, q.2⟩
    show ((lcC g t e (wipeR ρ vs) all S1).bind _) = _
    rw [e1]
    exact if_pos (by rw [sizeLine_eq]; exact q.1))
theorem wt_yes {P : Bool → Sto → Prop} (h : P true S) : W (tYesE ρ S) P := w_ret h
theorem we_call {F : Fn} {ds : List D} {P : D → Sto → Prop} (h : W (F ds S) fun o S1 => match o with | .v d => P d S1 | .f es => P (.lst es) S1) : W (callE F ds S) P := w_bind (h.mono fun o S1 q => by
  cases o with
  | v d => exact w_ret q
  | f es => exact w_ret q)
theorem we_callF {F : Fn} {ds : List D} {P : List D → Sto → Prop} (h : W (F ds S) fun o S1 => ∃ es, o = .f es ∧ P es S1) : W (callF F ds S) P := w_bind (h.mono fun o S1 ⟨es, e, q⟩ => by
  subst e
  exact w_ret q)
def endP (P : Out → Sto → Prop) : PS := fun f _ S => match f with
  | .nx => P (.v .non) S
  | .rt d => P (.v d) S
  | .rf ds => P (.f ds) S
  | _ => False
theorem w_run {n m : Nat} {b : EvS} {ds : List D} {P : Out → Sto → Prop} (hl : ds.length = n) (h : WS (b (rho0 m ds) S) (endP P)) : W (runB n m b ds S) P := by
  obtain ⟨f, ρ', S1, e, p⟩ := h
  unfold runB
  rw [if_pos hl, e]
  cases f with
  | nx => exact ⟨_, _, rfl, p⟩
  | rt d => exact ⟨_, _, rfl, p⟩
  | rf ds => exact ⟨_, _, rfl, p⟩
  | bk => exact absurd p id
  | ct => exact absurd p id
theorem wo_add {i j : Int} {P : D → Sto → Prop} (h : P (.int (i + j)) S) : W (fAdd (.int i) (.int j) S) P := w_ret h
theorem wo_addS {x y : List Nat} {P : D → Sto → Prop} (l : x.length + y.length ≤ 16777216) (h : P (.str (x ++ y)) S) : W (fAdd (.str x) (.str y) S) P := ⟨_, _, if_pos (by rw [sizeLine_eq]; exact l), h⟩
theorem wo_sub {i j : Int} {P : D → Sto → Prop} (h : P (.int (i - j)) S) : W (fSub (.int i) (.int j) S) P := w_ret h
theorem wo_neg {i : Int} {P : D → Sto → Prop} (h : P (.int (-i)) S) : W (fNeg (.int i) S) P := w_ret h
theorem wo_cmp {p : Int → Int → Bool} {i j : Int} {P : D → Sto → Prop} (h : P (.bl (p i j)) S) : W (fCmp p (.int i) (.int j) S) P := w_ret h
theorem wo_eqI {i j : Int} {P : D → Sto → Prop} (h : P (.bl (decide (i = j))) S) : W (fEq (.int i) (.int j) S) P := w_ret h
theorem wo_neI {i j : Int} {P : D → Sto → Prop} (h : P (.bl (!decide (i = j))) S) : W (fNe (.int i) (.int j) S) P := w_ret h
theorem wo_eqS {i j : List Nat} {P : D → Sto → Prop} (h : P (.bl (decide (i = j))) S) : W (fEq (.str i) (.str j) S) P := w_ret h
theorem wo_neS {i j : List Nat} {P : D → Sto → Prop} (h : P (.bl (!decide (i = j))) S) : W (fNe (.str i) (.str j) S) P := w_ret h
theorem wo_eqB {i j : Bool} {P : D → Sto → Prop} (h : P (.bl (decide (i = j))) S) : W (fEq (.bl i) (.bl j) S) P := w_ret h
theorem wo_neB {i j : Bool} {P : D → Sto → Prop} (h : P (.bl (!decide (i = j))) S) : W (fNe (.bl i) (.bl j) S) P := w_ret h
theorem wo_len {z : List Nat} {P : D → Sto → Prop} (l : z.length ≤ 16777216) (h : P (.int z.length) S) : W (fLen [.str z] S) P := ⟨_, _, if_pos (by rw [sizeLine_eq]; exact l), h⟩
theorem wo_lenL {ds : List D} {P : D → Sto → Prop} (h : P (.int ds.length) S) : W (fLen [.lst ds] S) P := w_ret h
theorem wo_lenT {ds : List D} {P : D → Sto → Prop} (h : P (.int ds.length) S) : W (fLen [.tup ds] S) P := w_ret h
theorem wo_lenC {ds : List Int} {P : D → Sto → Prop} (h : P (.int ds.length) S) : W (fLen [.scr ds] S) P := w_ret h
theorem wo_lenR {l : Nat} {ds : List D} {P : D → Sto → Prop} (g : S.get l = some (.lst ds)) (h : P (.int ds.length) S) : W (fLen [.ref l] S) P := by
  refine ⟨_, _, ?_, h⟩
  simp [fLen, seqOf, lstOf, g]
theorem wo_max {i j : Int} {P : D → Sto → Prop} (h : P (.int (if j > i then j else i)) S) : W (fMax2 [.int i, .int j] S) P := w_ret h
theorem wo_min {i j : Int} {P : D → Sto → Prop} (h : P (.int (if j < i then j else i)) S) : W (fMin2 [.int i, .int j] S) P := w_ret h
theorem wo_slS {z : List Nat} {lo hi : Option Int} {P : D → Sto → Prop} (l : z.length ≤ 16777216) (h : P (.str (cutL z lo hi)) S) : W (fSl (.str z) lo hi S) P := ⟨_, _, if_pos (by rw [sizeLine_eq]; exact l), h⟩
theorem wo_slL {ds : List D} {lo hi : Option Int} {P : List D → Sto → Prop} (h : P (cutL ds lo hi) S) : W (fSlL (.lst ds) lo hi S) P := w_ret h
theorem wo_cat {x y : List D} {P : List D → Sto → Prop} (l : x.length + y.length ≤ 16777216) (h : P (x ++ y) S) : W (fCat (.lst x) (.lst y) S) P := ⟨_, _, if_pos (by rw [sizeLine_eq]; exact l), h⟩
theorem wo_isT {d : D} {T n : String} {P : D → Sto → Prop} (o : okT T = true) (e : tyName S d = some n) (h : P (.bl (isT T n)) S) : W (fIsT [d, .raw (.ty T)] S) P := by
  refine ⟨_, _, ?_, h⟩
  simp [fIsT, o, e]
theorem atI_nat {α : Type} {xs : List α} {i : Int} {a : α} (h0 : 0 ≤ i) (h : xs[i.toNat]? = some a) : atI xs i = some a := by
  have lt := (List.getElem?_eq_some_iff.mp h).1
  have e : ixN xs.length i = some i.toNat := by
    unfold ixN
    rw [if_pos h0, if_pos (by omega)]
  unfold atI
  rw [e]
  exact h
theorem wo_ixL {ds : List D} {i : Int} {d : D} {P : D → Sto → Prop} (h0 : 0 ≤ i) (e : ds[i.toNat]? = some d) (h : P d S) : W (fIx (.lst ds) (.int i) S) P := by
  refine ⟨_, _, ?_, h⟩
  simp [fIx, seqOf, lstOf, atI_nat h0 e]
theorem wo_ixR {l : Nat} {ds : List D} {i : Int} {d : D} {P : D → Sto → Prop} (g : S.get l = some (.lst ds)) (h0 : 0 ≤ i) (e : ds[i.toNat]? = some d) (h : P d S) : W (fIx (.ref l) (.int i) S) P := by
  refine ⟨_, _, ?_, h⟩
  simp [fIx, seqOf, lstOf, g, atI_nat h0 e]
theorem wo_ixT {ds : List D} {i : Int} {d : D} {P : D → Sto → Prop} (h0 : 0 ≤ i) (e : ds[i.toNat]? = some d) (h : P d S) : W (fIx (.tup ds) (.int i) S) P := by
  refine ⟨_, _, ?_, h⟩
  simp [fIx, seqOf, atI_nat h0 e]
theorem wo_ixS {z : List Nat} {i : Int} {c : Nat} {P : D → Sto → Prop} (l : z.length ≤ 16777216) (h0 : 0 ≤ i) (e : z[i.toNat]? = some c) (h : P (.str [c]) S) : W (fIx (.str z) (.int i) S) P := by
  refine ⟨_, _, ?_, h⟩
  simp [fIx, atI_nat h0 e, sizeLine_eq, l]
theorem wo_mul {i j : Int} {P : D → Sto → Prop} (l : (-(2 ^ 64) < i ∧ i < 2 ^ 64) ∨ (-(2 ^ 64) < j ∧ j < 2 ^ 64)) (h : P (.int (i * j)) S) : W (fMul (.int i) (.int j) S) P := ⟨_, _, if_pos (by unfold mulOk; exact decide_eq_true l), h⟩
theorem wo_div {i j : Int} {P : D → Sto → Prop} (l : 0 < j ∧ j < 1073741824) (h : P (.int (i / j)) S) : W (fDiv (.int i) (.int j) S) P := ⟨_, _, if_pos l, h⟩
theorem wo_mod {i j : Int} {P : D → Sto → Prop} (l : 0 < j) (h : P (.int (i % j)) S) : W (fMod (.int i) (.int j) S) P := ⟨_, _, if_pos l, h⟩
theorem wo_pow {i j : Int} {P : D → Sto → Prop} (l : 0 ≤ j ∧ j ≤ 1000 ∧ -1000 ≤ i ∧ i ≤ 1000) (h : P (.int (i ^ j.toNat)) S) : W (fPow (.int i) (.int j) S) P := ⟨_, _, if_pos l, h⟩
theorem wo_addT {x y : List D} {P : D → Sto → Prop} (l : x.isEmpty = false ∧ x.length + y.length ≤ 16777216) (h : P (.tup (x ++ y)) S) : W (fAdd (.tup x) (.tup y) S) P := ⟨_, _, if_pos (by rw [sizeLine_eq]; exact l), h⟩
theorem wo_listC {ns : List Int} {P : List D → Sto → Prop} (h : P (ns.map D.int) S) : W (fListOf [.scr ns] S) P := w_ret h
theorem wo_listL {ds : List D} {P : List D → Sto → Prop} (h : P ds S) : W (fListOf [.lst ds] S) P := w_ret h
theorem wo_listT {ds : List D} {P : List D → Sto → Prop} (h : P ds S) : W (fListOf [.tup ds] S) P := w_ret h
theorem wo_listR {l : Nat} {ds : List D} {P : List D → Sto → Prop} (g : S.get l = some (.lst ds)) (h : P ds S) : W (fListOf [.ref l] S) P := by
  refine ⟨_, _, ?_, h⟩
  simp [fListOf, seqOf, lstOf, g]
theorem wo_slR {l : Nat} {ds : List D} {lo hi : Option Int} {P : List D → Sto → Prop} (g : S.get l = some (.lst ds)) (h : P (cutL ds lo hi) S) : W (fSlL (.ref l) lo hi S) P := by
  refine ⟨_, _, ?_, h⟩
  simp [fSlL, lstOf, g]
theorem wo_tupT {ds : List D} {P : D → Sto → Prop} (h : P (.tup ds) S) : W (fTupOf [.tup ds] S) P := w_ret h
theorem wo_tupL {ds : List D} {P : D → Sto → Prop} (h : P (.tup ds) S) : W (fTupOf [.lst ds] S) P := w_ret h
theorem wo_intI {i : Int} {P : D → Sto → Prop} (h : P (.int i) S) : W (fInt [.int i] S) P := w_ret h
theorem wo_intB {b : Bool} {P : D → Sto → Prop} (h : P (.int (if b then 1 else 0)) S) : W (fInt [.bl b] S) P := w_ret h
theorem wo_strI {n : Int} {P : D → Sto → Prop} (l : 0 ≤ n ∧ n < 10 ^ 30) (h : P (.str (numL n.toNat)) S) : W (fStr [.int n] S) P := ⟨_, _, if_pos l, h⟩
theorem wo_strS {z : List Nat} {P : D → Sto → Prop} (h : P (.str z) S) : W (fStr [.str z] S) P := w_ret h
theorem wo_inS {c : Nat} {z : List Nat} {P : D → Sto → Prop} (h : P (.bl (decide (c ∈ z))) S) : W (fInS (.str [c]) (.str z) S) P := w_ret h
theorem wo_ninS {c : Nat} {z : List Nat} {P : D → Sto → Prop} (h : P (.bl (!decide (c ∈ z))) S) : W (fNotInS (.str [c]) (.str z) S) P := w_ret h
/-- a list of the store: an item stored, and the methods -/
theorem wg_sb {eo ei : Ev} {d : D} {P : Rho → Sto → Prop} (h : W (eo ρ S) fun x S1 => W (ei ρ S1) fun y S2 => ∃ l i ds, x = .ref l ∧ y = .int i ∧ S2.get l = some (.lst ds) ∧ (0 ≤ i ∧ i < ds.length) ∧ P ρ (S2.set l (.lst (ds.set i.toNat d)))) : W (gSb eo ei d ρ S) P := w_bind (h.mono fun x S1 q => w_bind (q.mono fun y S2 ⟨l, i, ds, e1, e2, g, r, p⟩ => by
  subst e1
  subst e2
  refine ⟨_, _, ?_, p⟩
  have e : ixN ds.length i = some i.toNat := by
    unfold ixN
    rw [if_pos r.1, if_pos r.2]
  simp only [g, e, Option.bind_some]))
theorem we_bm {f : D → List D → Sto → Option (D × Sto)} {eo : Ev} {el : EvL} {P : D → Sto → Prop} (h : W (eo ρ S) fun x S1 => ∃ l ds, x = .ref l ∧ S1.get l = some (.lst ds) ∧ W (el ρ S1) fun y S2 => W (f (.ref l) y S2) P) : W (eBM f eo el ρ S) P := w_bind (h.mono fun x S1 ⟨l, ds, e, g, q⟩ => by
  subst e
  dsimp only
  rw [g]
  exact w_bind q)
theorem wo_popAt {l : Nat} {i : Int} {ds : List D} {d : D} {P : D → Sto → Prop} (g : S.get l = some (.lst ds)) (h0 : 0 ≤ i) (e : ds[i.toNat]? = some d) (lz : ds.length ≤ 16777216) (h : P d (S.set l (.lst (ds.eraseIdx i.toNat)))) : W (fPopAt (.ref l) [.int i] S) P := by
  refine ⟨_, _, ?_, h⟩
  simp [fPopAt, g, h0, e, sizeLine_eq, lz]
theorem wo_append {l : Nat} {ds : List D} {d : D} {P : D → Sto → Prop} (g : S.get l = some (.lst ds)) (lz : ds.length < 16777216) (h : P .non (S.set l (.lst (ds ++ [d])))) : W (fAppend (.ref l) [d] S) P := by
  refine ⟨_, _, ?_, h⟩
  simp [fAppend, g, sizeLine_eq, lz]
theorem wo_clear {l : Nat} {ds : List D} {P : D → Sto → Prop} (g : S.get l = some (.lst ds)) (h : P .non (S.set l (.lst []))) : W (fClear (.ref l) [] S) P := by
  refine ⟨_, _, ?_, h⟩
  simp [fClear, g]
theorem nxt_nx {b : EvS} (h : WS (b ρ S) Q) : nxt b Q .nx ρ S := h
theorem nxt_rt {b : EvS} {d : D} (h : Q (.rt d) ρ S) : nxt b Q (.rt d) ρ S := h
theorem nxt_rf {b : EvS} {d : List D} (h : Q (.rf d) ρ S) : nxt b Q (.rf d) ρ S := h
theorem nxt_bk {b : EvS} (h : Q .bk ρ S) : nxt b Q .bk ρ S := h
theorem nxt_ct {b : EvS} (h : Q .ct ρ S) : nxt b Q .ct ρ S := h
theorem lp_nx {I : Rho → Sto → Prop} (h : I ρ S) : lp I Q .nx ρ S := h
theorem lp_ct {I : Rho → Sto → Prop} (h : I ρ S) : lp I Q .ct ρ S := h
theorem lp_bk {I : Rho → Sto → Prop} (h : Q .nx ρ S) : lp I Q .bk ρ S := h
theorem lp_rt {I : Rho → Sto → Prop} {d : D} (h : Q (.rt d) ρ S) : lp I Q (.rt d) ρ S := h
theorem lp_rf {I : Rho → Sto → Prop} {d : List D} (h : Q (.rf d) ρ S) : lp I Q (.rf d) ρ S := h
theorem end_nx {P : Out → Sto → Prop} (h : P (.v .non) S) : endP P .nx ρ S := h
theorem end_rt {P : Out → Sto → Prop} {d : D} (h : P (.v d) S) : endP P (.rt d) ρ S := h
theorem end_rf {P : Out → Sto → Prop} {d : List D} (h : P (.f d) S) : endP P (.rf d) ρ S := h
theorem we_m1 {f : D → List D → Sto → Option (α × Sto)} {eo ea : Ev} (h : W (eo ρ S) fun x S1 => ∃ c, x = .str c ∧ W (ea ρ S1) fun y S2 => W (f (.str c) [y] S2) P) : W (eM1 f eo ea ρ S) P := w_bind (h.mono fun x S1 ⟨c, e, q⟩ => by
  subst e
  exact w_bind q)
theorem we_rev {a : Ev} {P : D → Sto → Prop} (h : W (a ρ S) fun x S1 => W (fRev x S1) P) : W (eRev a ρ S) P := we_1 h
theorem wo_rev {z : List Nat} {P : D → Sto → Prop} (l : z.length ≤ 16777216) (h : P (.str z.reverse) S) : W (fRev (.str z) S) P := ⟨_, _, if_pos (by rw [sizeLine_eq]; exact l), h⟩
end
end AH
set_option maxRecDepth 100000
set_option maxHeartbeats 2000000
local macro_rules | `(tactic| fail $s:str) => match s.getString with
  | "MEM" => `(tactic| (first | exact List.mem_cons_self | (apply List.mem_cons_of_mem; fail "MEM") | (apply List.mem_append_left; fail "MEM") | (apply List.mem_append_right; fail "MEM") | assumption))
  | "UDD" => `(tactic| (first | exact Ud.hd | (apply Ud.tl; fail "UDD") | (apply Ud.lf; fail "UDD") | (apply Ud.rt; fail "UDD") | assumption))
  | "PRM" => `(tactic| (refine perm_cnt fun q => ?_; simp only [List.count_append, List.count_cons, List.count_nil]; omega))
  | "BND" => `(tactic| (first | omega | decide | (simp only [List.length_append, List.length_cons, List.length_nil, List.length_map, List.length_singleton, List.length_take, List.length_drop, List.length_set]; omega) | (simp; omega)))
  | "STEP" => `(tactic| (repeat (first | ((with_reducible show WS _ _); first | (with_reducible refine ws_set ?_) | (with_reducible refine ws_seq ?_) | (with_reducible refine ws_do ?_) | (with_reducible refine xs_if ?_) | (with_reducible refine ws_next ?_) | (with_reducible refine ws_brk ?_) | (with_reducible refine ws_cnt ?_) | (with_reducible refine ws_ret ?_) | (with_reducible refine ws_retF ?_) | (with_reducible refine ws_retN ?_) | (with_reducible refine ws_acc ?_) | (with_reducible refine ws_par ?_) | (with_reducible refine ws_asg ?_) | (with_reducible refine ws_for ?_) | (with_reducible refine xs_putF ?_) | (with_reducible refine ws_par3 ?_) | (with_reducible refine xf_nil ?_) | ((with_reducible apply ws_frz); rfl) | ((with_reducible apply ws_app); rfl) | ((with_reducible apply ws_extend); rfl) | ((with_reducible apply ws_retA); rfl) | ((with_reducible apply ws_frz0); rfl)) | ((with_reducible show W ((_ : Rho → Sto → _) (_ : Rho) (_ : Sto)) _); first | ((with_reducible apply we_var); rfl) | (with_reducible refine we_c ?_) | (with_reducible refine wl_nil ?_) | (with_reducible refine wl_cons ?_) | (with_reducible refine we_2 ?_) | (with_reducible refine we_n ?_) | (with_reducible refine wt_of ?_) | (with_reducible refine we_V ?_) | (with_reducible refine xe_fld ?_) | (with_reducible refine xe_mt ?_) | (with_reducible refine we_1 ?_) | (with_reducible refine we_3 ?_) | (with_reducible refine xe_own ?_) | (with_reducible refine we_tup ?_) | (with_reducible refine wl_lst ?_) | (with_reducible refine xt_or ?_) | (with_reducible refine xt_and ?_) | (with_reducible refine wt_not ?_) | (with_reducible refine xe_and ?_) | (with_reducible refine xe_or ?_) | (with_reducible refine we_not ?_) | (with_reducible refine xe_if ?_) | (with_reducible refine we_isN ?_) | (with_reducible refine we_notN ?_) | (with_reducible refine xe_chain ?_) | (with_reducible refine wt_yes ?_) | (with_reducible refine wi_L ?_) | (with_reducible refine wi_T ?_) | (with_reducible refine wi_S ?_) | (with_reducible refine wi_R1 ?_) | (with_reducible refine wi_R2 ?_) | (with_reducible refine wi_R3 ?_) | (with_reducible refine wi_E ?_) | (with_reducible refine xe_bm ?_) | (with_reducible refine xg_sb ?_) | (with_reducible refine we_m1 ?_) | (with_reducible refine xg_fd ?_) | (with_reducible refine xg_dput ?_) | (with_reducible refine xe_dget2 ?_) | (with_reducible refine xe_disp ?_) | (with_reducible refine xe_newK ?_) | (with_reducible refine xe_newT ?_) | (with_reducible refine wg_cons ?_) | (with_reducible refine wg_nil ?_) | (with_reducible refine wi_ES ?_) | (with_reducible refine xe_mtF ?_) | (with_reducible refine xe_mtO ?_) | (with_reducible refine xe_mk ?_) | (with_reducible refine we_rev ?_) | (with_reducible refine wg_tp rfl ?_) | (with_reducible refine wg_nm (Nat.le_of_ble_eq_true rfl) ?_)) | ((with_reducible show W _ _); first | (with_reducible refine wo_none ?_) | (with_reducible refine wo_some ?_) | (with_reducible refine we_call ?_) | (with_reducible refine we_callF ?_) | (with_reducible refine xe_callO ?_) | (with_reducible refine xl_nil ?_) | (with_reducible refine wo_add ?_) | (with_reducible refine wo_sub ?_) | (with_reducible refine wo_neg ?_) | (with_reducible refine wo_cmp ?_) | (with_reducible refine wo_eqI ?_) | (with_reducible refine wo_neI ?_) | (with_reducible refine wo_eqS ?_) | (with_reducible refine wo_neS ?_) | (with_reducible refine wo_eqB ?_) | (with_reducible refine wo_neB ?_) | (with_reducible refine wo_lenL ?_) | (with_reducible refine wo_lenT ?_) | (with_reducible refine wo_lenC ?_) | (with_reducible refine wo_max ?_) | (with_reducible refine wo_min ?_) | (with_reducible refine wo_slL ?_) | (with_reducible refine wo_listC ?_) | (with_reducible refine wo_listL ?_) | (with_reducible refine wo_listT ?_) | (with_reducible refine wo_tupT ?_) | (with_reducible refine wo_tupL ?_) | (with_reducible refine wo_intI ?_) | (with_reducible refine wo_intB ?_) | (with_reducible refine wo_strS ?_) | (with_reducible refine wo_inS ?_) | (with_reducible refine wo_ninS ?_) | ((with_reducible apply xl_cons); rfl) | ((with_reducible apply wo_isT); rfl; rfl) | ((with_reducible apply xo_fld); assumption; fail "MEM"; rfl) | ((with_reducible apply xo_pFld); assumption; fail "UDD"; rfl; intro S hs) | ((with_reducible apply xo_isI); assumption; fail "MEM") | ((with_reducible apply xo_ownB); assumption; intro ln S hs) | ((with_reducible apply xo_newB); assumption; intro ln S hs) | ((with_reducible apply xo_newKB); assumption; intro ln S hs) | ((with_reducible apply xo_newTB); assumption; intro ln S hs) | ((with_reducible apply xo_own); assumption; intro ln S hs) | ((with_reducible apply xo_new); assumption; intro ln S hs) | ((with_reducible apply xo_newK); assumption; intro ln S hs) | ((with_reducible apply xo_newT); assumption; intro ln S hs) | ((with_reducible apply xo_disp); assumption; rfl; intro ln S hs) | ((with_reducible apply xo_dget); assumption; fail "MEM"; rfl; rfl) | ((with_reducible apply xo_din); assumption; fail "MEM"; rfl) | ((with_reducible apply xo_dnotin); assumption; fail "MEM"; rfl) | ((with_reducible apply xo_dput); assumption; fail "UDD"; rfl; fail "BND"; rfl; intro S hs) | ((with_reducible apply xo_ixR); assumption; fail "MEM"; decide; rfl) | ((with_reducible apply xo_lenR); assumption; fail "MEM") | ((with_reducible apply xo_slR); assumption; fail "MEM") | ((with_reducible apply xo_listR); assumption; fail "MEM") | ((with_reducible apply xo_append); assumption; fail "UDD"; fail "BND"; intro S hs) | ((with_reducible apply xo_clear); assumption; fail "UDD"; intro S hs) | ((with_reducible apply xo_isL); assumption; fail "MEM") | ((with_reducible apply xo_isD); assumption; fail "MEM") | ((with_reducible apply wo_ixL); decide; rfl) | ((with_reducible apply wo_ixT); decide; rfl) | ((with_reducible apply wo_addS); fail "BND") | ((with_reducible apply wo_len); fail "BND") | ((with_reducible apply wo_slS); fail "BND") | ((with_reducible apply wo_cat); fail "BND")) | ((with_reducible show Br _ _ _); first | (with_reducible refine Br.t ?_) | (with_reducible refine Br.f ?_) | (with_reducible refine Br.n ?_) | ((with_reducible apply Br.it); rfl) | ((with_reducible apply Br.jt); rfl) | ((with_reducible apply Br.dt); assumption) | ((with_reducible apply Br.df); assumption)) | (with_reducible refine nxt_nx ?_) | (with_reducible refine lp_nx ?_) | (with_reducible refine lp_ct ?_) | (with_reducible refine lp_bk ?_) | (with_reducible refine lp_rt ?_) | (with_reducible refine lp_rf ?_) | (with_reducible refine nxt_rt ?_) | (with_reducible refine nxt_rf ?_) | (with_reducible refine nxt_bk ?_) | (with_reducible refine nxt_ct ?_) | (with_reducible refine end_nx ?_) | (with_reducible refine end_rt ?_) | (with_reducible refine end_rf ?_) | (refine ⟨Nat.le_of_ble_eq_true rfl, ?_⟩) | (with_reducible refine ⟨_, rfl, ?_⟩) | (refine ⟨⟨Nat.le_of_ble_eq_true rfl, Nat.le_of_ble_eq_true rfl⟩, ?_⟩) | (refine ⟨⟨Nat.le_of_ble_eq_true rfl, Nat.le_of_ble_eq_true rfl, Nat.le_of_ble_eq_true rfl⟩, ?_⟩) | (with_reducible refine ⟨_, _, rfl, ?_⟩) | (with_reducible refine ⟨_, _, _, rfl, ?_⟩) | (with_reducible refine Or.inl ⟨_, rfl, ?_⟩) | (with_reducible refine Or.inr ⟨_, rfl, ?_⟩))))
  | "STAY" => `(tactic| (repeat (first | ((with_reducible show WS _ _); first | (with_reducible refine ws_set ?_) | (with_reducible refine ws_do ?_) | (with_reducible refine xs_if ?_) | (with_reducible refine ws_next ?_) | (with_reducible refine ws_brk ?_) | (with_reducible refine ws_cnt ?_) | (with_reducible refine ws_ret ?_) | (with_reducible refine ws_retF ?_) | (with_reducible refine ws_retN ?_) | (with_reducible refine ws_acc ?_) | (with_reducible refine ws_par ?_) | (with_reducible refine ws_asg ?_) | (with_reducible refine ws_for ?_) | (with_reducible refine xs_putF ?_) | (with_reducible refine ws_par3 ?_) | (with_reducible refine xf_nil ?_) | ((with_reducible apply ws_frz); rfl) | ((with_reducible apply ws_app); rfl) | ((with_reducible apply ws_extend); rfl) | ((with_reducible apply ws_retA); rfl) | ((with_reducible apply ws_frz0); rfl)) | ((with_reducible show W ((_ : Rho → Sto → _) (_ : Rho) (_ : Sto)) _); first | ((with_reducible apply we_var); rfl) | (with_reducible refine we_c ?_) | (with_reducible refine wl_nil ?_) | (with_reducible refine wl_cons ?_) | (with_reducible refine we_2 ?_) | (with_reducible refine we_n ?_) | (with_reducible refine wt_of ?_) | (with_reducible refine we_V ?_) | (with_reducible refine xe_fld ?_) | (with_reducible refine xe_mt ?_) | (with_reducible refine we_1 ?_) | (with_reducible refine we_3 ?_) | (with_reducible refine xe_own ?_) | (with_reducible refine we_tup ?_) | (with_reducible refine wl_lst ?_) | (with_reducible refine xt_or ?_) | (with_reducible refine xt_and ?_) | (with_reducible refine wt_not ?_) | (with_reducible refine xe_and ?_) | (with_reducible refine xe_or ?_) | (with_reducible refine we_not ?_) | (with_reducible refine xe_if ?_) | (with_reducible refine we_isN ?_) | (with_reducible refine we_notN ?_) | (with_reducible refine xe_chain ?_) | (with_reducible refine wt_yes ?_) | (with_reducible refine wi_L ?_) | (with_reducible refine wi_T ?_) | (with_reducible refine wi_S ?_) | (with_reducible refine wi_R1 ?_) | (with_reducible refine wi_R2 ?_) | (with_reducible refine wi_R3 ?_) | (with_reducible refine wi_E ?_) | (with_reducible refine xe_bm ?_) | (with_reducible refine xg_sb ?_) | (with_reducible refine we_m1 ?_) | (with_reducible refine xg_fd ?_) | (with_reducible refine xg_dput ?_) | (with_reducible refine xe_dget2 ?_) | (with_reducible refine xe_disp ?_) | (with_reducible refine xe_newK ?_) | (with_reducible refine xe_newT ?_) | (with_reducible refine wg_cons ?_) | (with_reducible refine wg_nil ?_) | (with_reducible refine wi_ES ?_) | (with_reducible refine xe_mtF ?_) | (with_reducible refine xe_mtO ?_) | (with_reducible refine xe_mk ?_) | (with_reducible refine we_rev ?_) | (with_reducible refine wg_tp rfl ?_) | (with_reducible refine wg_nm (Nat.le_of_ble_eq_true rfl) ?_)) | ((with_reducible show W _ _); first | (with_reducible refine wo_none ?_) | (with_reducible refine wo_some ?_) | (with_reducible refine we_call ?_) | (with_reducible refine we_callF ?_) | (with_reducible refine xe_callO ?_) | (with_reducible refine xl_nil ?_) | (with_reducible refine wo_add ?_) | (with_reducible refine wo_sub ?_) | (with_reducible refine wo_neg ?_) | (with_reducible refine wo_cmp ?_) | (with_reducible refine wo_eqI ?_) | (with_reducible refine wo_neI ?_) | (with_reducible refine wo_eqS ?_) | (with_reducible refine wo_neS ?_) | (with_reducible refine wo_eqB ?_) | (with_reducible refine wo_neB ?_) | (with_reducible refine wo_lenL ?_) | (with_reducible refine wo_lenT ?_) | (with_reducible refine wo_lenC ?_) | (with_reducible refine wo_max ?_) | (with_reducible refine wo_min ?_) | (with_reducible refine wo_slL ?_) | (with_reducible refine wo_listC ?_) | (with_reducible refine wo_listL ?_) | (with_reducible refine wo_listT ?_) | (with_reducible refine wo_tupT ?_) | (with_reducible refine wo_tupL ?_) | (with_reducible refine wo_intI ?_) | (with_reducible refine wo_intB ?_) | (with_reducible refine wo_strS ?_) | (with_reducible refine wo_inS ?_) | (with_reducible refine wo_ninS ?_) | ((with_reducible apply xl_cons); rfl) | ((with_reducible apply wo_isT); rfl; rfl) | ((with_reducible apply xo_fld); assumption; fail "MEM"; rfl) | ((with_reducible apply xo_pFld); assumption; fail "UDD"; rfl; intro S hs) | ((with_reducible apply xo_isI); assumption; fail "MEM") | ((with_reducible apply xo_ownB); assumption; intro ln S hs) | ((with_reducible apply xo_newB); assumption; intro ln S hs) | ((with_reducible apply xo_newKB); assumption; intro ln S hs) | ((with_reducible apply xo_newTB); assumption; intro ln S hs) | ((with_reducible apply xo_own); assumption; intro ln S hs) | ((with_reducible apply xo_new); assumption; intro ln S hs) | ((with_reducible apply xo_newK); assumption; intro ln S hs) | ((with_reducible apply xo_newT); assumption; intro ln S hs) | ((with_reducible apply xo_disp); assumption; rfl; intro ln S hs) | ((with_reducible apply xo_dget); assumption; fail "MEM"; rfl; rfl) | ((with_reducible apply xo_din); assumption; fail "MEM"; rfl) | ((with_reducible apply xo_dnotin); assumption; fail "MEM"; rfl) | ((with_reducible apply xo_dput); assumption; fail "UDD"; rfl; fail "BND"; rfl; intro S hs) | ((with_reducible apply xo_ixR); assumption; fail "MEM"; decide; rfl) | ((with_reducible apply xo_lenR); assumption; fail "MEM") | ((with_reducible apply xo_slR); assumption; fail "MEM") | ((with_reducible apply xo_listR); assumption; fail "MEM") | ((with_reducible apply xo_append); assumption; fail "UDD"; fail "BND"; intro S hs) | ((with_reducible apply xo_clear); assumption; fail "UDD"; intro S hs) | ((with_reducible apply xo_isL); assumption; fail "MEM") | ((with_reducible apply xo_isD); assumption; fail "MEM") | ((with_reducible apply wo_ixL); decide; rfl) | ((with_reducible apply wo_ixT); decide; rfl) | ((with_reducible apply wo_addS); fail "BND") | ((with_reducible apply wo_len); fail "BND") | ((with_reducible apply wo_slS); fail "BND") | ((with_reducible apply wo_cat); fail "BND")) | ((with_reducible show Br _ _ _); first | (with_reducible refine Br.t ?_) | (with_reducible refine Br.f ?_) | (with_reducible refine Br.n ?_) | ((with_reducible apply Br.it); rfl) | ((with_reducible apply Br.jt); rfl) | ((with_reducible apply Br.dt); assumption) | ((with_reducible apply Br.df); assumption)) | (with_reducible refine nxt_nx ?_) | (with_reducible refine lp_nx ?_) | (with_reducible refine lp_ct ?_) | (with_reducible refine lp_bk ?_) | (with_reducible refine lp_rt ?_) | (with_reducible refine lp_rf ?_) | (with_reducible refine nxt_rt ?_) | (with_reducible refine nxt_rf ?_) | (with_reducible refine nxt_bk ?_) | (with_reducible refine nxt_ct ?_) | (with_reducible refine end_nx ?_) | (with_reducible refine end_rt ?_) | (with_reducible refine end_rf ?_) | (refine ⟨Nat.le_of_ble_eq_true rfl, ?_⟩) | (with_reducible refine ⟨_, rfl, ?_⟩) | (refine ⟨⟨Nat.le_of_ble_eq_true rfl, Nat.le_of_ble_eq_true rfl⟩, ?_⟩) | (refine ⟨⟨Nat.le_of_ble_eq_true rfl, Nat.le_of_ble_eq_true rfl, Nat.le_of_ble_eq_true rfl⟩, ?_⟩) | (with_reducible refine ⟨_, _, rfl, ?_⟩) | (with_reducible refine ⟨_, _, _, rfl, ?_⟩) | (with_reducible refine Or.inl ⟨_, rfl, ?_⟩) | (with_reducible refine Or.inr ⟨_, rfl, ?_⟩))))
  | "ONE" => `(tactic| (refine ws_seq ?_; fail "STAY"))
  | "OSTEP" => `(tactic| (repeat (first | with_reducible (first | refine ws_seq ?_ | refine nxt_nx ?_ | refine lp_nx ?_ | refine lp_ct ?_ | refine lp_bk ?_ | refine lp_rt ?_ | refine lp_rf ?_ | refine nxt_rt ?_ | refine nxt_rf ?_ | refine nxt_bk ?_ | refine nxt_ct ?_ | refine end_nx ?_ | refine end_rt ?_ | refine end_rf ?_ | refine ws_next ?_ | refine ws_brk ?_ | refine ws_cnt ?_ | refine ws_do ?_ | refine ws_ret ?_ | refine ws_retF ?_ | refine ws_retN ?_ | refine ws_set ?_ | refine ws_acc ?_ | refine ws_par ?_ | refine ws_asg ?_ | refine ws_for ?_ | refine ws_if ?_ | refine we_2 ?_ | refine we_1 ?_ | refine we_n ?_ | refine we_3 ?_ | refine we_c ?_ | refine wo_none ?_ | refine wo_some ?_ | refine wl_cons ?_ | refine wl_nil ?_ | refine we_V ?_ | refine we_own ?_ | refine we_tup ?_ | refine wl_lst ?_ | refine wt_of ?_ | refine wt_or ?_ | refine wt_and ?_ | refine wt_not ?_ | refine we_and ?_ | refine we_or ?_ | refine we_not ?_ | refine we_if ?_ | refine we_isN ?_ | refine we_notN ?_ | refine we_chain ?_ | refine wt_yes ?_ | refine wi_L ?_ | refine wi_T ?_ | refine wi_S ?_ | refine wi_R1 ?_ | refine wi_R2 ?_ | refine wi_R3 ?_ | refine wi_E ?_ | refine we_call ?_ | refine we_callF ?_ | refine we_bm ?_ | refine wg_sb ?_ | refine we_m1 ?_ | refine we_fld ?_ | refine ws_putF ?_ | refine wg_fd ?_ | refine wg_cons ?_ | refine wg_nil ?_ | refine wi_ES ?_ | refine ws_par3 ?_ | refine we_mt ?_ | refine we_mtF ?_ | refine we_mk ?_ | refine we_rev ?_ | refine wo_add ?_ | refine wo_sub ?_ | refine wo_neg ?_ | refine wo_cmp ?_ | refine wo_eqI ?_ | refine wo_neI ?_ | refine wo_eqS ?_ | refine wo_neS ?_ | refine wo_eqB ?_ | refine wo_neB ?_ | refine wo_lenL ?_ | refine wo_lenT ?_ | refine wo_lenC ?_ | refine wo_max ?_ | refine wo_min ?_ | refine wo_slL ?_ | refine wo_listC ?_ | refine wo_listL ?_ | refine wo_listT ?_ | refine wo_tupT ?_ | refine wo_tupL ?_ | refine wo_intI ?_ | refine wo_intB ?_ | refine wo_strS ?_ | refine wo_inS ?_ | refine wo_ninS ?_) | ((with_reducible apply we_var); rfl) | ((with_reducible apply ws_frz); rfl) | ((with_reducible apply ws_app); rfl) | ((with_reducible apply ws_extend); rfl) | ((with_reducible apply ws_retA); rfl) | ((with_reducible apply ws_frz0); rfl) | ((with_reducible apply wo_isT); rfl; rfl) | (refine ⟨Nat.le_of_ble_eq_true rfl, ?_⟩) | (with_reducible refine ⟨_, rfl, ?_⟩) | (with_reducible refine wg_tp rfl ?_) | (with_reducible refine wg_nm (Nat.le_of_ble_eq_true rfl) ?_) | (refine ⟨⟨Nat.le_of_ble_eq_true rfl, Nat.le_of_ble_eq_true rfl⟩, ?_⟩) | (with_reducible refine Or.inl ⟨_, rfl, ?_⟩) | (with_reducible refine Or.inr ⟨_, rfl, ?_⟩))))
  | _ => Lean.Macro.throwUnsupported
namespace AH
open PySem L2 TL
/-- the drawn numbers' box: a list of the numbers left, and the stirred number -/
structure Box (S : Sto) (l m : Nat) : Prop where
  ne : m < l
  out : ∃ q : Int, S.get l = some (.lst [.ref m, .int q])
  inn : ∃ xs : List Int, S.get m = some (.lst (xs.map .int)) ∧ xs.length ≤ 63
  lt : l < S.next
/-- only the box changes -/
structure Bx (l m : Nat) (S S' : Sto) : Prop where
  box : Box S' l m
  nx : S'.next = S.next
  fr : ∀ k, k ≠ l → k ≠ m → S'.get k = S.get k
theorem Bx.refl {l m : Nat} {S : Sto} (b : Box S l m) : Bx l m S S := ⟨b, rfl, fun _ _ _ => rfl⟩
theorem Bx.trans {l m : Nat} {S T U : Sto} (a : Bx l m S T) (b : Bx l m T U) : Bx l m S U := ⟨b.box, b.nx.trans a.nx, fun k h1 h2 => (b.fr k h1 h2).trans (a.fr k h1 h2)⟩
theorem Bx.setL {l m : Nat} {S : Sto} (b : Box S l m) (q : Int) : Bx l m S (S.set l (.lst [.ref m, .int q])) := by
  have h := b.ne
  refine ⟨⟨b.ne, ⟨q, if_pos rfl⟩, ?_, b.lt⟩, rfl, fun k h1 h2 => if_neg h1⟩
  obtain ⟨xs, e, z⟩ := b.inn
  exact ⟨xs, (if_neg (by omega)).trans e, z⟩
theorem Bx.setM {l m : Nat} {S : Sto} (b : Box S l m) {xs : List Int} (z : xs.length ≤ 63) : Bx l m S (S.set m (.lst (xs.map .int))) := by
  have h := b.ne
  refine ⟨⟨b.ne, ?_, ⟨xs, if_pos rfl, z⟩, b.lt⟩, rfl, fun k h1 h2 => if_neg h2⟩
  obtain ⟨q, e⟩ := b.out
  exact ⟨q, (if_neg (by omega)).trans e⟩
theorem toPys_ints : ∀ xs : List Int, toPys (xs.map D.int) = some (xs.map PyData.int)
  | [] => rfl
  | x :: xs => by
    show (match toPy (.int x), toPys (xs.map D.int) with
      | some p, some ps => some (p :: ps)
      | _, _ => none) = _
    rw [toPys_ints xs]
    rfl
theorem lay_ints : ∀ xs : List Int, PyData.canLayAll0 (xs.map PyData.int) = true ∧ PyData.depthAll (xs.map PyData.int) = 0
  | [] => ⟨rfl, rfl⟩
  | x :: xs => by
    obtain ⟨h1, h2⟩ := lay_ints xs
    refine ⟨?_, ?_⟩
    · show (PyData.canLay0 (.int x) && PyData.canLayAll0 (xs.map PyData.int)) = true
      rw [h1]
      rfl
    · show max (PyData.depth (.int x)) (PyData.depthAll (xs.map PyData.int)) = 0
      rw [h2]
      rfl
theorem shaped_ints (xs : List Int) : SeqAt.shaped (.list (xs.map PyData.int)) = true := by
  obtain ⟨h1, h2⟩ := lay_ints xs
  show (PyData.canLayAll0 (xs.map PyData.int) && decide (PyData.depthAll (xs.map PyData.int) + 1 ≤ 64)) = true
  rw [h1, h2]
  rfl
theorem eqv_nil : ∀ xs : List Int, PyData.eqvAll (xs.map PyData.int) [] = xs.isEmpty
  | [] => rfl
  | _ :: _ => rfl
theorem wo_eqNil {S : Sto} {m : Nat} {xs : List Int} {P : D → Sto → Prop} (g : S.get m = some (.lst (xs.map .int))) (h : P (.bl xs.isEmpty) S) : W (fEq (.ref m) (.lst []) S) P := by
  refine ⟨_, _, ?_, h⟩
  have e : eqD S (.ref m) (.lst []) = some xs.isEmpty := by
    show (match toPyS S (.ref m), toPyS S (.lst []) with
      | some p, some q => eqPy p q
      | _, _ => none) = _
    have e1 : toPyS S (.ref m) = some (.list (xs.map PyData.int)) := by
      show (match S.get m with
        | some (.lst ds) => (toPys ds).map PyData.list
        | _ => none) = _
      rw [g]
      dsimp only
      rw [toPys_ints]
      rfl
    have e2 : toPyS S (.lst []) = some (.list []) := rfl
    rw [e1, e2]
    dsimp only
    unfold eqPy
    rw [if_pos ⟨shaped_ints xs, shaped_ints []⟩]
    show some (PyData.eqvAll (xs.map PyData.int) []) = _
    rw [eqv_nil]
  unfold fEq
  rw [e]
  rfl
def bTake : EvS := (sSeq (sIf (tOf (e2 fEq (e2 fIx (eVar 0) (eC (.int 0))) (eV (fLst aNil)))) (sSeq (sAsg (e2 fMod (e2 fMul (e2 fIx (eVar 0) (eC (.int 1))) (eC (.int 48271))) (eC (.int 2147483647))) (gSb (eVar 0) (eC (.int 1))))
  (sRet (e2 fMod (e2 fDiv (e2 fIx (eVar 0) (eC (.int 1))) (eC (.int 7))) (eVar 1)))) sNext)
  (sSeq (sAsg (e2 fIx (e2 fIx (eVar 0) (eC (.int 0))) (eC (.int 0))) (gNm 2))
  (sSeq (sAsg (e2 fDiv (eVar 2) (eVar 1)) (gSb (e2 fIx (eVar 0) (eC (.int 0))) (eC (.int 0))))
  (sSeq (sIf (tOrE (tOf (e2 fEq (e2 fIx (e2 fIx (eVar 0) (eC (.int 0))) (eC (.int 0))) (eC (.int 0)))) (tOf (e2 fEq (e2 fIx (e2 fIx (eVar 0) (eC (.int 0))) (eC (.int 0))) (e1 fNeg (eC (.int 1)))))) (sDo (eBM fPopAt (e2 fIx (eVar 0) (eC (.int 0))) (aCons (eC (.int 0)) aNil))) sNext)
  (sRet (e2 fMod (eVar 2) (eVar 1)))))))
def F_take : Fn := runB 2 3 bTake
theorem take_ok {S : Sto} {l m : Nat} {n : Int} (b : Box S l m) (h0 : 0 < n) (h1 : n < 1073741824) : W (F_take [.ref l, .int n] S) fun o S' => ∃ r : Int, o = .v (.int r) ∧ (0 ≤ r ∧ r < n) ∧ Bx l m S S' := by
  refine w_run rfl ?_
  obtain ⟨q, eq⟩ := b.out
  obtain ⟨xs, ex, lx⟩ := b.inn
  show WS (bTake [.val (.ref l), .val (.int n), .no] S) _
  unfold bTake
  fail "OSTEP"
  refine wo_ixR eq (by decide) rfl ?_
  fail "OSTEP"
  refine wo_eqNil ex ?_
  fail "OSTEP"
  refine ⟨fun hc => ?_, fun hc => ?_⟩
  · fail "OSTEP"
    refine wo_ixR eq (by decide) rfl ?_
    fail "OSTEP"
    refine wo_mul (Or.inr (by decide)) ?_
    fail "OSTEP"
    refine wo_mod (by decide) ?_
    fail "OSTEP"
    refine ⟨_, _, _, rfl, rfl, eq, by simp, ?_⟩
    fail "OSTEP"
    have bx := Bx.setL b (q * 48271 % 2147483647)
    refine wo_ixR (if_pos rfl) (by decide) rfl ?_
    fail "OSTEP"
    refine wo_div (by decide) ?_
    fail "OSTEP"
    refine wo_mod h0 ?_
    fail "OSTEP"
    exact ⟨⟨Int.emod_nonneg _ (by omega), Int.emod_lt_of_pos _ h0⟩, bx⟩
  · cases xs with
    | nil => cases hc
    | cons x xs =>
      fail "OSTEP"
      refine wo_ixR eq (by decide) rfl ?_
      fail "OSTEP"
      refine wo_ixR ex (by decide) rfl ?_
      fail "OSTEP"
      refine wo_div ⟨h0, h1⟩ ?_
      fail "OSTEP"
      refine wo_ixR eq (by decide) rfl ?_
      fail "OSTEP"
      refine ⟨_, _, _, rfl, rfl, ex, ⟨by decide, by simp⟩, ?_⟩
      have bx : Bx l m S (S.set m (.lst (((x / n) :: xs).map .int))) := Bx.setM b (by simpa using lx)
      have ex2 : (S.set m (.lst (((x / n) :: xs).map .int))).get m = some (.lst (((x / n) :: xs).map .int)) := if_pos rfl
      fail "OSTEP"
      have eq2 : (S.set m (.lst (((x / n) :: xs).map .int))).get l = some (.lst [.ref m, .int q]) := (if_neg (by have := b.ne; omega)).trans eq
      refine wo_ixR eq2 (by decide) rfl ?_
      fail "OSTEP"
      refine wo_ixR ex2 (by decide) rfl ?_
      fail "OSTEP"
      refine ⟨fun _ => ?_, fun _ => ?_⟩
      · refine ⟨fun _ => ?_, fun z => nomatch z⟩
        fail "OSTEP"
        refine wo_ixR eq2 (by decide) rfl ?_
        fail "OSTEP"
        refine ⟨_, _, rfl, ex2, ?_⟩
        fail "OSTEP"
        refine wo_popAt ex2 (by decide) rfl (by simp at lx ⊢; omega) ?_
        fail "OSTEP"
        refine wo_mod h0 ?_
        fail "OSTEP"
        exact ⟨⟨Int.emod_nonneg _ (by omega), Int.emod_lt_of_pos _ h0⟩, bx.trans (Bx.setM bx.box (xs := xs) (by simp at lx; omega))⟩
      · fail "OSTEP"
        refine wo_ixR eq2 (by decide) rfl ?_
        fail "OSTEP"
        refine wo_ixR ex2 (by decide) rfl ?_
        fail "OSTEP"
        refine ⟨fun _ => ?_, fun _ => ?_⟩
        · fail "OSTEP"
          refine wo_ixR eq2 (by decide) rfl ?_
          fail "OSTEP"
          refine ⟨_, _, rfl, ex2, ?_⟩
          fail "OSTEP"
          refine wo_popAt ex2 (by decide) rfl (by simp at lx ⊢; omega) ?_
          fail "OSTEP"
          refine wo_mod h0 ?_
          fail "OSTEP"
          exact ⟨⟨Int.emod_nonneg _ (by omega), Int.emod_lt_of_pos _ h0⟩, bx.trans (Bx.setM bx.box (xs := xs) (by simp at lx; omega))⟩
        · fail "OSTEP"
          refine wo_mod h0 ?_
          fail "OSTEP"
          exact ⟨⟨Int.emod_nonneg _ (by omega), Int.emod_lt_of_pos _ h0⟩, bx⟩
def bBegun : EvS := (sSeq (sAsg (eC (.int 0)) (gNm 1))
  (sSeq (sFor (iL (eVar 0)) (gNm 2) (sAsg (e2 fMod (e2 fAdd (e2 fAdd (e2 fMul (eVar 1) (eC (.int 48271))) (e2 fMul (eVar 2) (eC (.int 69621)))) (eC (.int 11))) (eC (.int 2147483647))) (gNm 1)))
  (sRet (eOwn (fLst (aCons (eOwn (eN fListOf (aCons (eVar 0) aNil))) (aCons (e2 fMul (eVar 1) (eN fInt (aCons (e2 fGt (eN fLen (aCons (eVar 0) aNil)) (eC (.int 2))) aNil))) aNil)))))))
def F_begun : Fn := runB 1 3 bBegun
/-- new things stand above -/
structure Up (S S' : Sto) : Prop where
  nx : S.next ≤ S'.next
  fr : ∀ k, k < S.next → S'.get k = S.get k
theorem Up.trans {a b c : Sto} (x : Up a b) (y : Up b c) : Up a c := ⟨Nat.le_trans x.nx y.nx, fun k h => (y.fr k (Nat.lt_of_lt_of_le h x.nx)).trans (x.fr k h)⟩
theorem Up.new (S : Sto) (o : MO) : Up S (S.new o) := ⟨Nat.le_succ _, fun k h => if_neg (by omega)⟩
theorem begun_ok {S : Sto} {ns : List Int} (hl : ns.length ≤ 63) : W (F_begun [.scr ns] S) fun o S' => ∃ l m, o = .v (.ref l) ∧ Box S' l m ∧ Up S S' := by
  refine w_run rfl ?_
  show WS (bBegun [.val (.scr ns), .no, .no] S) _
  unfold bBegun
  fail "OSTEP"
  refine ws_loop (fun _ ρ S1 => S1 = S ∧ ∃ (q : Int) (z : Sl), ρ = [.val (.scr ns), .val (.int q), z]) ⟨rfl, 0, .no, rfl⟩ ?_ ?_
  · rintro k d ρ S1 hk ⟨rfl, q, z, rfl⟩
    have e : ∃ x : Int, d = .int x := by
      rw [List.getElem?_map] at hk
      cases h : ns[k]? with
      | none => rw [h] at hk; cases hk
      | some x => rw [h] at hk; cases hk; exact ⟨x, rfl⟩
    obtain ⟨x, rfl⟩ := e
    fail "OSTEP"
    refine wo_mul (Or.inr (by decide)) ?_
    fail "OSTEP"
    refine wo_mul (Or.inr (by decide)) ?_
    fail "OSTEP"
    refine wo_mod (by decide) ?_
    fail "OSTEP"
    exact ⟨rfl, _, _, rfl⟩
  · rintro ρ S1 ⟨rfl, q, z, rfl⟩
    fail "OSTEP"
    refine wo_mul (Or.inr (by split <;> decide)) ?_
    fail "OSTEP"
    refine ⟨_, S1.next, rfl, ⟨Nat.lt_succ_self _, ⟨_, if_pos rfl⟩, ⟨ns, ?_, hl⟩, Nat.lt_succ_self _⟩, (Up.new _ _).trans (Up.new _ _)⟩
    refine (if_neg ?_).trans (if_pos rfl)
    exact Nat.ne_of_lt (Nat.lt_succ_self _)
def bAlike (F : Fn) : EvS := (sSeq (sIf (tOf (eIsN (eVar 1))) (sRet (eIsN (eVar 0))) sNext)
  (sSeq (sIf (tOf (eN fIsT (aCons (eVar 1) (aCons (eC (.raw (.ty "bool"))) aNil)))) (sRet (eAndE (eN fIsT (aCons (eVar 0) (aCons (eC (.raw (.ty "bool"))) aNil))) (e2 fEq (eVar 0) (eVar 1)))) sNext)
  (sSeq (sIf (tOf (eN fIsT (aCons (eVar 1) (aCons (eC (.raw (.ty "int"))) aNil)))) (sRet (eAndE (eN fIsT (aCons (eVar 0) (aCons (eC (.raw (.ty "int"))) aNil))) (eAndE (eNotE (eN fIsT (aCons (eVar 0) (aCons (eC (.raw (.ty "bool"))) aNil)))) (e2 fEq (eVar 0) (eVar 1))))) sNext)
  (sSeq (sIf (tOf (eN fIsT (aCons (eVar 1) (aCons (eC (.raw (.ty "str"))) aNil)))) (sRet (eAndE (eN fIsT (aCons (eVar 0) (aCons (eC (.raw (.ty "str"))) aNil))) (e2 fEq (eVar 0) (eVar 1)))) sNext)
  (sSeq (sIf (tOrE (tOf (e2 fNe (eN fIsT (aCons (eVar 1) (aCons (eC (.raw (.ty "tuple"))) aNil))) (eN fIsT (aCons (eVar 0) (aCons (eC (.raw (.ty "tuple"))) aNil))))) (tOf (e2 fNe (eN fIsT (aCons (eVar 1) (aCons (eC (.raw (.ty "list"))) aNil))) (eN fIsT (aCons (eVar 0) (aCons (eC (.raw (.ty "list"))) aNil)))))) (sRet (eC (.bl false))) sNext)
  (sSeq (sIf (tOf (e2 fNe (eN fLen (aCons (eVar 0) aNil)) (eN fLen (aCons (eVar 1) aNil)))) (sRet (eC (.bl false))) sNext)
  (sSeq (sFor (iR1 (aCons (eN fLen (aCons (eVar 1) aNil)) aNil)) (gNm 2) (sIf (tNotE (tOf (eN (callE F) (aCons (e2 fIx (eVar 0) (eVar 2)) (aCons (e2 fIx (eVar 1) (eVar 2)) aNil))))) (sRet (eC (.bl false))) sNext))
  (sRet (eC (.bl true))))))))))
def F_alike : Nat → Fn
  | 0 => fun _ _ => none
  | n + 1 => runB 2 3 (bAlike (F_alike n))
/-- alike behind at most n looks: equal data, a list of the store like the list it holds -/
inductive Ak (S : Sto) : Nat → D → D → Prop
  | non {n} : Ak S (n + 1) .non .non
  | bl {n b} : Ak S (n + 1) (.bl b) (.bl b)
  | int {n i} : Ak S (n + 1) (.int i) (.int i)
  | str {n c} : Ak S (n + 1) (.str c) (.str c)
  | tup {n as bs} : as.length = bs.length → as.length ≤ 1000000 → (∀ (i : Nat) a b, as[i]? = some a → bs[i]? = some b → Ak S n a b) → Ak S (n + 1) (.tup as) (.tup bs)
  | lst {n a b as bs} : lstOf S a = some as → lstOf S b = some bs → as.length = bs.length → as.length ≤ 1000000 → (∀ (i : Nat) a b, as[i]? = some a → bs[i]? = some b → Ak S n a b) → Ak S (n + 1) a b
theorem lstOf_ty {S : Sto} {a : D} {as : List D} (h : lstOf S a = some as) : tyName S a = some "list" ∧ isNon a = some false ∧ seqOf S a = some as := by
  unfold lstOf at h
  split at h
  · cases h
    exact ⟨rfl, rfl, rfl⟩
  · rename_i l
    split at h
    · rename_i ds g
      cases h
      refine ⟨?_, rfl, ?_⟩
      · simp [tyName, g]
      · simp [seqOf, lstOf, g]
    · cases h
  · cases h
theorem wo_lenO {S : Sto} {a : D} {as : List D} {P : D → Sto → Prop} (h : lstOf S a = some as) (k : P (.int as.length) S) : W (fLen [a] S) P := by
  refine ⟨_, _, ?_, k⟩
  have e := (lstOf_ty h).2.2
  cases a with
  | lst ds => cases h; rfl
  | ref l => simp [fLen, e]
  | _ => cases h
theorem wo_ixO {S : Sto} {a : D} {as : List D} {i : Int} {d : D} {P : D → Sto → Prop} (h : lstOf S a = some as) (h0 : 0 ≤ i) (e : as[i.toNat]? = some d) (k : P d S) : W (fIx a (.int i) S) P := by
  refine ⟨_, _, ?_, k⟩
  have e2 := (lstOf_ty h).2.2
  cases a with
  | lst ds => simp [fIx, e2, atI_nat h0 e]
  | ref l => simp [fIx, e2, atI_nat h0 e]
  | _ => cases h
theorem alike_ok {S : Sto} : ∀ {n : Nat} {a b : D}, Ak S n a b → W (F_alike n [a, b] S) fun o S' => o = .v (.bl true) ∧ S' = S
  | 0, _, _, h => by cases h
  | n + 1, a, b, h => by
    refine w_run rfl ?_
    show WS (bAlike (F_alike n) [.val a, .val b, .no] S) _
    unfold bAlike
    cases h with
    | non =>
      fail "OSTEP"
      refine ⟨fun _ => ?_, fun z => nomatch z⟩
      fail "OSTEP"
      exact ⟨rfl, rfl⟩
    | bl =>
      fail "OSTEP"
      refine ⟨fun z => (nomatch z), fun _ => ?_⟩
      fail "OSTEP"
      refine ⟨fun _ => ?_, fun z => nomatch z⟩
      fail "OSTEP"
      refine ⟨fun z => (nomatch z), fun _ => ?_⟩
      fail "OSTEP"
      simp
    | int =>
      fail "OSTEP"
      refine ⟨fun z => (nomatch z), fun _ => ?_⟩
      fail "OSTEP"
      refine ⟨fun z => (nomatch z), fun _ => ?_⟩
      fail "OSTEP"
      refine ⟨fun _ => ?_, fun z => nomatch z⟩
      fail "OSTEP"
      refine ⟨fun z => (nomatch z), fun _ => ?_⟩
      fail "OSTEP"
      refine ⟨fun z => (nomatch z), fun _ => ?_⟩
      fail "OSTEP"
      simp
    | str =>
      fail "OSTEP"
      refine ⟨fun z => (nomatch z), fun _ => ?_⟩
      fail "OSTEP"
      refine ⟨fun z => (nomatch z), fun _ => ?_⟩
      fail "OSTEP"
      refine ⟨fun z => (nomatch z), fun _ => ?_⟩
      fail "OSTEP"
      refine ⟨fun _ => ?_, fun z => nomatch z⟩
      fail "OSTEP"
      refine ⟨fun z => (nomatch z), fun _ => ?_⟩
      fail "OSTEP"
      simp
    | tup hl hz hk =>
      rename_i as bs
      fail "OSTEP"
      refine ⟨fun z => (nomatch z), fun _ => ?_⟩
      fail "OSTEP"
      refine ⟨fun z => (nomatch z), fun _ => ?_⟩
      fail "OSTEP"
      refine ⟨fun z => (nomatch z), fun _ => ?_⟩
      fail "OSTEP"
      refine ⟨fun z => (nomatch z), fun _ => ?_⟩
      fail "OSTEP"
      refine ⟨fun z => (nomatch z), fun _ => ?_⟩
      fail "OSTEP"
      refine ⟨fun z => (nomatch z), fun _ => ?_⟩
      fail "OSTEP"
      refine ⟨fun z => ?_, fun _ => ?_⟩
      · simp [hl] at z
      fail "OSTEP"
      refine ⟨by omega, ?_⟩
      refine ws_loop (fun _ ρ S1 => S1 = S ∧ ∃ z : Sl, ρ = [.val (.tup as), .val (.tup bs), z]) ⟨rfl, .no, rfl⟩ ?_ ?_
      · rintro k d ρ S1 hd ⟨rfl, z, rfl⟩
        obtain ⟨rfl, lt⟩ := rng_get hd
        have lt' : k < bs.length := by simpa using lt
        have ea : as[((0 : Int) + (k : Int)).toNat]? = some (as[k]'(by omega)) := by simp
        have eb : bs[((0 : Int) + (k : Int)).toNat]? = some (bs[k]'lt') := by simp
        fail "OSTEP"
        refine wo_ixT (by omega) ea ?_
        fail "OSTEP"
        refine wo_ixT (by omega) eb ?_
        fail "OSTEP"
        refine (alike_ok (hk k _ _ (by simp at ea; exact List.getElem?_eq_getElem (by omega)) (List.getElem?_eq_getElem lt'))).mono fun o S2 h => ?_
        obtain ⟨rfl, rfl⟩ := h
        fail "OSTEP"
        refine ⟨fun z => (nomatch z), fun _ => ?_⟩
        fail "OSTEP"
        exact ⟨rfl, _, rfl⟩
      · rintro ρ S1 ⟨rfl, z, rfl⟩
        fail "OSTEP"
        exact ⟨rfl, rfl⟩
    | lst h1 h2 hl hz hk =>
      rename_i as bs
      obtain ⟨ta, na, sa⟩ := lstOf_ty h1
      obtain ⟨tb, nb, sb⟩ := lstOf_ty h2
      fail "OSTEP"
      refine ⟨false, nb, ?_⟩
      fail "OSTEP"
      refine ⟨fun z => (nomatch z), fun _ => ?_⟩
      fail "OSTEP"
      refine wo_isT rfl tb ?_
      fail "OSTEP"
      refine ⟨fun z => (nomatch z), fun _ => ?_⟩
      fail "OSTEP"
      refine wo_isT rfl tb ?_
      fail "OSTEP"
      refine ⟨fun z => (nomatch z), fun _ => ?_⟩
      fail "OSTEP"
      refine wo_isT rfl tb ?_
      fail "OSTEP"
      refine ⟨fun z => (nomatch z), fun _ => ?_⟩
      fail "OSTEP"
      refine wo_isT rfl tb ?_
      fail "OSTEP"
      refine wo_isT rfl ta ?_
      fail "OSTEP"
      refine ⟨fun z => (nomatch z), fun _ => ?_⟩
      fail "OSTEP"
      refine wo_isT rfl tb ?_
      fail "OSTEP"
      refine wo_isT rfl ta ?_
      fail "OSTEP"
      refine ⟨fun z => (nomatch z), fun _ => ?_⟩
      fail "OSTEP"
      refine wo_lenO h1 ?_
      fail "OSTEP"
      refine wo_lenO h2 ?_
      fail "OSTEP"
      refine ⟨fun z => ?_, fun _ => ?_⟩
      · simp [hl] at z
      fail "OSTEP"
      refine wo_lenO h2 ?_
      fail "OSTEP"
      refine ⟨by omega, ?_⟩
      refine ws_loop (fun _ ρ S1 => S1 = S ∧ ∃ z : Sl, ρ = [.val a, .val b, z]) ⟨rfl, .no, rfl⟩ ?_ ?_
      · rintro k d ρ S1 hd ⟨rfl, z, rfl⟩
        obtain ⟨rfl, lt⟩ := rng_get hd
        have lt' : k < bs.length := by simpa using lt
        have ea : as[((0 : Int) + (k : Int)).toNat]? = some (as[k]'(by omega)) := by simp
        have eb : bs[((0 : Int) + (k : Int)).toNat]? = some (bs[k]'lt') := by simp
        fail "OSTEP"
        refine wo_ixO h1 (by omega) ea ?_
        fail "OSTEP"
        refine wo_ixO h2 (by omega) eb ?_
        fail "OSTEP"
        refine (alike_ok (hk k _ _ (List.getElem?_eq_getElem (by omega)) (List.getElem?_eq_getElem lt'))).mono fun o S2 h => ?_
        obtain ⟨rfl, rfl⟩ := h
        fail "OSTEP"
        refine ⟨fun z => (nomatch z), fun _ => ?_⟩
        fail "OSTEP"
        exact ⟨rfl, _, rfl⟩
      · rintro ρ S1 ⟨rfl, z, rfl⟩
        fail "OSTEP"
        exact ⟨rfl, rfl⟩
end AH
set_option maxRecDepth 100000
set_option maxHeartbeats 2000000
namespace AH
open PySem L2 TL
theorem cut_lo {α : Type} (xs : List α) (n : Nat) : cutL xs none (some (n : Int)) = xs.take n := by
  unfold cutL
  rw [HT.sIx_none, HT.sIx_nat, List.drop_zero, Nat.sub_zero, List.take_eq_take_iff]
  omega
theorem cut_hi {α : Type} (xs : List α) (n : Nat) : cutL xs (some (n : Int)) none = xs.drop n := by
  unfold cutL
  rw [HT.sIx_none, HT.sIx_nat]
  by_cases h : n ≤ xs.length
  · rw [Nat.min_eq_left h, List.take_of_length_le (by simp)]
  · rw [Nat.min_eq_right (by omega), List.drop_eq_nil_of_le (by omega), List.drop_eq_nil_of_le (by omega)]
    simp
theorem cut_mid {α : Type} (xs : List α) (a b : Nat) : cutL xs (some (a : Int)) (some (b : Int)) = (xs.drop a).take (b - a) := by
  unfold cutL
  rw [HT.sIx_nat, HT.sIx_nat]
  by_cases h : a ≤ xs.length
  · rw [Nat.min_eq_left h, List.take_eq_take_iff, List.length_drop]
    omega
  · rw [Nat.min_eq_right (Nat.le_of_lt (Nat.lt_of_not_le h)), List.drop_eq_nil_of_le (Nat.le_refl _), List.drop_eq_nil_of_le (by omega)]
    simp
theorem strs_one : ∀ zs : List Nat, strsOf (zs.map fun c => D.str [c]) = some (zs.map fun c => [c])
  | [] => rfl
  | z :: zs => by
    show (strsOf (zs.map fun c => D.str [c])).map _ = _
    rw [strs_one zs]
    rfl
theorem join_one : ∀ zs : List Nat, joinD [] (zs.map fun c => [c]) = zs
  | [] => rfl
  | [z] => rfl
  | z :: y :: zs => by
    show [z] ++ ([] ++ joinD [] ((y :: zs).map fun c => [c])) = _
    rw [join_one (y :: zs)]
    rfl
theorem sum_one : ∀ zs : List Nat, ((zs.map fun c => [c]).map (·.length)).sum = zs.length
  | [] => rfl
  | z :: zs => by
    show 1 + ((zs.map fun c => [c]).map (·.length)).sum = zs.length + 1
    rw [sum_one zs]
    omega
theorem wo_joinC {S : Sto} {zs : List Nat} {P : D → Sto → Prop} (l : zs.length ≤ 16777216) (h : P (.str zs) S) : W (fJoin (.str []) [.lst (zs.map fun c => D.str [c])] S) P := by
  refine ⟨_, _, ?_, h⟩
  show ((strsOf (zs.map fun c => D.str [c])).bind _) = _
  rw [strs_one]
  show (if ((zs.map fun c => [c]).map (·.length)).sum + (zs.map fun c => [c]).length * 0 ≤ 16777216 then some (D.str (joinD [] (zs.map fun c => [c])), S) else none) = _
  rw [sum_one, join_one, if_pos (by omega)]
def okS (c : List Nat) : Prop := ∀ x ∈ c, x < 1114112
theorem okS_lay {c : List Nat} (h : okS c) : PyData.canLay0 (.str ⟨c.toArray⟩) = true := by
  show (c.toArray.all (· < 0x110000)) = true
  rw [← Array.all_toList, List.all_eq_true]
  intro x hx
  exact decide_eq_true (h x hx)
theorem toPys_strs : ∀ zs : List (List Nat), toPys (zs.map D.str) = some (zs.map fun c => PyData.str ⟨c.toArray⟩)
  | [] => rfl
  | z :: zs => by
    show (match toPy (.str z), toPys (zs.map D.str) with
      | some p, some ps => some (p :: ps)
      | _, _ => none) = _
    rw [toPys_strs zs]
    rfl
theorem lay_strs : ∀ zs : List (List Nat), (∀ c ∈ zs, okS c) → PyData.canLayAll0 (zs.map fun c => PyData.str ⟨c.toArray⟩) = true ∧ PyData.depthAll (zs.map fun c => PyData.str ⟨c.toArray⟩) = 0
  | [], _ => ⟨rfl, rfl⟩
  | z :: zs, h => by
    obtain ⟨h1, h2⟩ := lay_strs zs fun c hc => h c (List.mem_cons_of_mem _ hc)
    refine ⟨?_, ?_⟩
    · show (PyData.canLay0 (.str ⟨z.toArray⟩) && PyData.canLayAll0 _) = true
      rw [h1, okS_lay (h z (List.mem_cons_self ..))]
      rfl
    · show max (PyData.depth (.str ⟨z.toArray⟩)) (PyData.depthAll _) = 0
      rw [h2]
      rfl
theorem map_get {α : Type} {f : α → D} {xs : List α} {k : Nat} {d : D} (h : (xs.map f)[k]? = some d) : ∃ x, xs[k]? = some x ∧ d = f x := by
  rw [List.getElem?_map] at h
  cases e : xs[k]? with
  | none => rw [e] at h; cases h
  | some x => rw [e] at h; cases h; exact ⟨x, rfl, rfl⟩
end AH
set_option maxRecDepth 100000
set_option maxHeartbeats 4000000
namespace AH
open PySem L2 TL
theorem strsOf_map : ∀ zs : List (List Nat), strsOf (zs.map D.str) = some zs
  | [] => rfl
  | z :: zs => by
    show (strsOf (zs.map D.str)).map _ = _
    rw [strsOf_map zs]
    rfl
theorem wo_joinS {S : Sto} {s : List Nat} {zs : List (List Nat)} {P : D → Sto → Prop} (l : (zs.map (·.length)).sum + zs.length * s.length ≤ 16777216) (h : P (.str (joinD s zs)) S) : W (fJoin (.str s) [.lst (zs.map .str)] S) P := by
  refine ⟨_, _, ?_, h⟩
  show ((strsOf (zs.map D.str)).bind _) = _
  rw [strsOf_map]
  exact if_pos l
theorem wo_split {S : Sto} {z : List Nat} {c : Nat} {P : List D → Sto → Prop} (l : c < 256 ∧ z.length + 2 ≤ 16777216) (h : P ((splitC c z).map .str) S) : W (fSplit (.str z) [.str [c]] S) P := ⟨_, _, if_pos (by rw [sizeLine_eq]; exact l), h⟩
theorem wo_intS {S : Sto} {z : List Nat} {P : D → Sto → Prop} (l : allDig z = true ∧ z ≠ [] ∧ z.length ≤ 600) (h : P (.int (decV z)) S) : W (fIntS [.str z] S) P := ⟨_, _, if_pos l, h⟩
theorem chars_get {z : List Nat} {k : Nat} {d : D} (h : (chars z)[k]? = some d) : ∃ c, z[k]? = some c ∧ d = .str [c] := map_get h
theorem chars_len {z : List Nat} : (chars z).length = z.length := by
  unfold chars
  simp
/-- the signs of a text that are not of A -/
theorem wl_signs {it : EvL} {i : Nat} {t : EvT} {ρ : Rho} {S : Sto} {A : List Nat} {ρ1 : Nat → Rho} {P : List D → Sto → Prop} (hp : ∀ c, pNm i (.str [c]) (wipeR ρ [i]) = some (ρ1 c)) (hv : ∀ c, (ρ1 c)[i]? = some (.val (.str [c])))
    (h : W (it ρ S) fun all S1 => ∃ z : List Nat, all = chars z ∧ z.length ≤ 16777216 ∧ (∀ c, W (t (ρ1 c) S1) fun b S2 => b = !decide (c ∈ A) ∧ S2 = S1) ∧ P ((z.filter fun c => !decide (c ∈ A)).map fun c => D.str [c]) S1) : W (fLc it [i] (pNm i) t (eVar i) ρ S) P := by
  refine wl_lc (h.mono fun all S1 hh => ?_)
  obtain ⟨z, rfl, hz, ht, hP⟩ := hh
  refine ⟨fun k out S2 => S2 = S1 ∧ out = ((z.take k).filter fun c => !decide (c ∈ A)).map fun c => D.str [c], ⟨rfl, rfl⟩, ?_, ?_⟩
  · rintro k d out S2 hk ⟨rfl, rfl⟩
    obtain ⟨c, hc, rfl⟩ := chars_get hk
    refine ⟨_, hp c, (ht c).mono fun b S3 hb => ?_⟩
    obtain ⟨rfl, rfl⟩ := hb
    have e : z.take (k + 1) = z.take k ++ [c] := by
      rw [List.take_add_one, hc]
      rfl
    refine ⟨fun q => ⟨rfl, ?_⟩, fun q => we_var (hv c) ⟨rfl, ?_⟩⟩
    · rw [e, List.filter_append]
      simp only [List.filter_cons, q]
      simp
    · rw [e, List.filter_append]
      simp only [List.filter_cons, q]
      simp
  · rintro out S2 ⟨rfl, rfl⟩
    rw [chars_len, List.take_of_length_le (Nat.le_refl _)]
    refine ⟨?_, hP⟩
    rw [List.length_map]
    exact Nat.le_trans (List.length_filter_le _ _) hz
theorem eqv_strs_nil : ∀ zs : List (List Nat), PyData.eqvAll (zs.map fun c => PyData.str ⟨c.toArray⟩) [] = zs.isEmpty
  | [] => rfl
  | _ :: _ => rfl
theorem wo_neNil {S : Sto} {z : List Nat} {P : D → Sto → Prop} (ok : okS z) (h : P (.bl (!z.isEmpty)) S) : W (fNe (.lst (z.map fun c => D.str [c])) (.lst []) S) P := by
  refine ⟨_, _, ?_, h⟩
  have e : eqD S (.lst (z.map fun c => D.str [c])) (.lst []) = some z.isEmpty := by
    have e0 : (z.map fun c => D.str [c]) = (z.map fun c => [c]).map D.str := by simp
    rw [e0]
    show (match (toPys ((z.map fun c => [c]).map D.str)).map PyData.list, (toPys []).map PyData.list with
      | some p, some q => eqPy p q
      | _, _ => none) = _
    rw [toPys_strs]
    have hs : SeqAt.shaped (PyData.list ((z.map fun c => [c]).map fun c => PyData.str ⟨c.toArray⟩)) = true := by
      obtain ⟨h1, h2⟩ := lay_strs (z.map fun c => [c]) (by
        intro c hc
        rw [List.mem_map] at hc
        obtain ⟨x, hx, rfl⟩ := hc
        intro y hy
        rw [List.mem_singleton] at hy
        rw [hy]
        exact ok x hx)
      show (PyData.canLayAll0 _ && decide (PyData.depthAll _ + 1 ≤ 64)) = true
      rw [h1, h2]
      rfl
    show (if SeqAt.shaped (PyData.list ((z.map fun c => [c]).map fun c => PyData.str ⟨c.toArray⟩)) = true ∧ SeqAt.shaped (PyData.list []) = true then some (PyData.eqvAll ((z.map fun c => [c]).map fun c => PyData.str ⟨c.toArray⟩) []) else none) = _
    rw [if_pos ⟨hs, rfl⟩, eqv_strs_nil]
    cases z <;> rfl
  unfold fNe
  rw [e]
  rfl
theorem filt_empty {A z : List Nat} : (z.filter fun c => !decide (c ∈ A)).isEmpty = decide (∀ c ∈ z, c ∈ A) := by
  rw [Bool.eq_iff_iff, List.isEmpty_iff, List.filter_eq_nil_iff, decide_eq_true_iff]
  constructor
  · intro h c hc
    have := h c hc
    simpa using this
  · intro h c hc
    simpa using h c hc
theorem okS_filter {z : List Nat} {p : Nat → Bool} (h : okS z) : okS (z.filter p) := fun c hc => h c (List.mem_filter.mp hc).1
def sg : List Nat := [97, 98, 99, 100, 101, 102, 103, 104, 105, 106, 107, 108, 109, 110, 111, 112, 113, 114, 115, 116, 117, 118, 119, 120, 121, 122, 48, 49, 50, 51, 52, 53, 54, 55, 56, 57, 32, 62, 63, 60, 59]
def sb : List Nat := [97, 98, 99, 100, 101, 102, 103, 104, 105, 106, 107, 108, 109, 110, 111, 112, 113, 114, 115, 116, 117, 118, 119, 120, 121, 122, 48, 49, 50, 51, 52, 53, 54, 55, 56, 57, 32, 62, 63, 60, 59, 124]
def dg : List Nat := [48, 49, 50, 51, 52, 53, 54, 55, 56, 57]
theorem sb_lt : ∀ c ∈ sb, c < 128 := by decide
theorem sg_sb : ∀ c ∈ sg, c ∈ sb := by decide
theorem dg_iff {c : Nat} : c ∈ dg ↔ 48 ≤ c ∧ c ≤ 57 := by
  unfold dg
  simp
  omega
def sumV (z : List Nat) : Nat := z.foldl (fun f c => (f * 61 + sb.idxOf c + 1) % 9973) 0
theorem sumV_lt (z : List Nat) : sumV z < 9973 := by
  have h : ∀ (z : List Nat) (a : Nat), a < 9973 → z.foldl (fun f c => (f * 61 + sb.idxOf c + 1) % 9973) a < 9973 := by
    intro z
    induction z with
    | nil => exact fun a h => h
    | cons x z ih => exact fun a h => ih _ (Nat.mod_lt _ (by decide))
  exact h z 0 (by decide)
def packV (fs : List (List Nat)) : List Nat := ((((numL (joinD [124] fs).length ++ [46]) ++ numL (sumV (joinD [124] fs))) ++ [46]) ++ joinD [124] fs) ++ [33]
theorem join_len {s : List Nat} : ∀ zs : List (List Nat), (joinD s zs).length ≤ (zs.map (·.length)).sum + zs.length * s.length
  | [] => Nat.zero_le _
  | [p] => by
    show p.length ≤ p.length + 0 + _
    omega
  | p :: q :: r => by
    have h := join_len (s := s) (q :: r)
    show (p ++ (s ++ joinD s (q :: r))).length ≤ (p.length + ((q :: r).map (·.length)).sum) + ((q :: r).length + 1) * s.length
    rw [List.length_append, List.length_append, Nat.succ_mul]
    omega
theorem join_mem {s : List Nat} {c : Nat} : ∀ {zs : List (List Nat)}, c ∈ joinD s zs → c ∈ s ∨ ∃ z ∈ zs, c ∈ z
  | [], h => by cases h
  | [p], h => .inr ⟨p, List.mem_singleton.mpr rfl, h⟩
  | p :: q :: r, h => by
    have h' : c ∈ p ++ (s ++ joinD s (q :: r)) := h
    rcases List.mem_append.mp h' with h | h
    · exact .inr ⟨p, List.mem_cons_self .., h⟩
    · rcases List.mem_append.mp h with h | h
      · exact .inl h
      · rcases join_mem h with h | ⟨z, hz, h⟩
        · exact .inl h
        · exact .inr ⟨z, List.mem_cons_of_mem _ hz, h⟩
/-- fields as packed wants them -/
structure Fs (fs : List (List Nat)) (n : Nat) : Prop where
  ne : fs ≠ []
  sg : ∀ z ∈ fs, ∀ c ∈ z, c ∈ sg
  le : (fs.map (·.length)).sum + fs.length ≤ n
theorem Fs.body {fs : List (List Nat)} {n : Nat} (h : Fs fs n) : (∀ c ∈ joinD [124] fs, c ∈ sb) ∧ (joinD [124] fs).length ≤ n := by
  refine ⟨fun c hc => ?_, ?_⟩
  · rcases join_mem hc with h1 | ⟨z, hz, h1⟩
    · rw [List.mem_singleton] at h1
      rw [h1]
      decide
    · exact sg_sb c (h.sg z hz c h1)
  · have := join_len (s := [124]) fs
    have h2 := h.le
    simp at this
    omega
theorem Fs.mono {fs : List (List Nat)} {n m : Nat} (h : Fs fs n) (l : n ≤ m) : Fs fs m := ⟨h.ne, h.sg, Nat.le_trans h.le l⟩
theorem numL_le {n k : Nat} (hk : 0 < k) (h : n < 10 ^ k) : (numL n).length ≤ k := numL_len hk h
def numV (w : List Nat) : Option Nat := if (1 ≤ w.length ∧ w.length ≤ 6) ∧ (∀ c ∈ w, c ∈ dg) ∧ (w.head? ≠ some 48 ∨ w = [48]) then some (decV w) else none
def numD : Option Nat → D
  | some n => .int n
  | none => .non
def bNumber : EvS := (sSeq (sIf (tOrE (tNotE (tOf (eChain fLe fLe (eC (.int 1)) (eN fLen (aCons (eVar 0) aNil)) (eC (.int 6))))) (tOf (e2 fNe (eV (fLc (iS (eVar 0)) [1] (pNm 1) (tOf (e2 fNotInS (eVar 1) (eC (.str dg)))) (eVar 1))) (eV (fLst aNil))))) (sRet (eC .non)) sNext)
  (sRet (eIf (tOrE (tOf (e2 fNe (e2 fIx (eVar 0) (eC (.int 0))) (eC (.str [48])))) (tOf (e2 fEq (eVar 0) (eC (.str [48]))))) (eN fIntS (aCons (eVar 0) aNil)) (eC .non))))
def F_number : Fn := runB 1 2 bNumber
theorem number_ok {S : Sto} {w : List Nat} (hl : w.length ≤ 16777216) (hw : okS w) : W (F_number [.str w] S) fun o S' => o = .v (numD (numV w)) ∧ S' = S := by
  refine w_run rfl ?_
  show WS (bNumber [.val (.str w), .no] S) _
  unfold bNumber
  have bad : ¬ ((1 ≤ w.length ∧ w.length ≤ 6) ∧ (∀ c ∈ w, c ∈ dg) ∧ (w.head? ≠ some 48 ∨ w = [48])) → numD (numV w) = .non := fun h => by
    unfold numV
    rw [if_neg h]
    rfl
  fail "OSTEP"
  refine wo_len hl ?_
  fail "OSTEP"
  refine ⟨fun z => ?_, fun z => ?_⟩
  · have z := of_decide_eq_false z
    fail "OSTEP"
    refine ⟨fun _ => ⟨fun _ => ?_, fun q => nomatch q⟩, fun q => nomatch q⟩
    fail "OSTEP"
    rw [bad (by omega)]
    exact ⟨rfl, rfl⟩
  have z1 := of_decide_eq_true z
  fail "OSTEP"
  refine ⟨fun z => ?_, fun z => ?_⟩
  · have z : decide ((w.length : Int) ≤ 6) = false := by simpa using z
    have z := of_decide_eq_false z
    refine ⟨fun _ => ?_, fun q => nomatch q⟩
    fail "OSTEP"
    rw [bad (by omega)]
    exact ⟨rfl, rfl⟩
  have z2 : decide ((w.length : Int) ≤ 6) = true := by simpa using z
  have z2 := of_decide_eq_true z2
  fail "OSTEP"
  refine wl_signs (A := dg) (fun c => rfl) (fun c => rfl) ?_
  fail "OSTEP"
  refine ⟨hl, fun c => ?_, ?_⟩
  · fail "OSTEP"
    exact ⟨rfl, rfl⟩
  fail "OSTEP"
  refine wo_neNil (okS_filter hw) ?_
  rw [filt_empty]
  fail "OSTEP"
  refine ⟨fun z => ?_, fun z => ?_⟩
  · have z : ¬ ∀ c ∈ w, c ∈ dg := fun q => by
      rw [decide_eq_true q] at z
      cases z
    fail "OSTEP"
    rw [bad fun q => z q.2.1]
    exact ⟨rfl, rfl⟩
  have z3 : ∀ c ∈ w, c ∈ dg := by
    by_cases q : ∀ c ∈ w, c ∈ dg
    · exact q
    · rw [decide_eq_false q] at z
      cases z
  fail "OSTEP"
  cases w with
  | nil => simp at z1
  | cons x w =>
    refine wo_ixS (c := x) hl (by decide) rfl ?_
    fail "OSTEP"
    have good : (x ≠ 48 ∨ x :: w = [48]) → W (fIntS [.str (x :: w)] S) fun d S1 => Out.v d = .v (numD (numV (x :: w))) ∧ S1 = S := fun q => by
      refine wo_intS ⟨?_, by simp, by omega⟩ ?_
      · unfold allDig
        rw [List.all_eq_true]
        exact fun c hc => decide_eq_true (dg_iff.mp (z3 c hc))
      · unfold numV
        rw [if_pos ⟨⟨by omega, by omega⟩, z3, by simpa using q⟩]
        exact ⟨rfl, rfl⟩
    refine ⟨fun q => ?_, fun q => ?_⟩
    · refine ⟨fun _ => ?_, fun z => nomatch z⟩
      fail "OSTEP"
      refine (good (.inl ?_)).mono fun d S1 h => ?_
      · intro e
        subst e
        simp at q
      fail "OSTEP"
      exact h
    · fail "OSTEP"
      refine ⟨fun r => ?_, fun r => ?_⟩
      · fail "OSTEP"
        refine (good (.inr (of_decide_eq_true r))).mono fun d S1 h => ?_
        fail "OSTEP"
        exact h
      · fail "OSTEP"
        rw [bad ?_]
        · exact ⟨rfl, rfl⟩
        · intro h
          have q : x = 48 := by simpa using q
          have r := of_decide_eq_false r
          rcases h.2.2 with h | h
          · exact h (by simp [q])
          · exact r h
def unpackV (t : List Nat) : Option (List (List Nat)) := match splitC 46 t with
  | [a, b, c] => if c.drop (c.length - 1) = [33] ∧ (∀ x ∈ c.take (c.length - 1), x ∈ sb) ∧ numV a = some (c.take (c.length - 1)).length ∧ numV b = some (sumV (c.take (c.length - 1))) then some (splitC 124 (c.take (c.length - 1))) else none
  | _ => none
theorem split_mem {c x : Nat} : ∀ {z p : List Nat}, p ∈ splitC c z → x ∈ p → x ∈ z
  | [], p, h, hx => by
    rw [splitC, List.mem_singleton] at h
    rw [h] at hx
    exact hx
  | y :: z, p, h, hx => by
    unfold splitC at h
    split at h
    · rcases List.mem_cons.mp h with h | h
      · rw [h] at hx
        cases hx
      · exact List.mem_cons_of_mem _ (split_mem h hx)
    · cases e : splitC c z with
      | nil => exact absurd e (splitC_ne c z)
      | cons q qs =>
        rw [e] at h
        rcases List.mem_cons.mp h with h | h
        · rw [h] at hx
          rcases List.mem_cons.mp hx with hx | hx
          · rw [hx]
            exact List.mem_cons_self ..
          · exact List.mem_cons_of_mem _ (split_mem (p := q) (by rw [e]; exact List.mem_cons_self ..) hx)
        · exact List.mem_cons_of_mem _ (split_mem (p := p) (by rw [e]; exact List.mem_cons_of_mem _ h) hx)
theorem split_len {c : Nat} : ∀ {z p : List Nat}, p ∈ splitC c z → p.length ≤ z.length
  | [], p, h => by
    rw [splitC, List.mem_singleton] at h
    rw [h]
    exact Nat.le_refl _
  | y :: z, p, h => by
    unfold splitC at h
    split at h
    · rcases List.mem_cons.mp h with h | h
      · rw [h]
        exact Nat.zero_le _
      · exact Nat.le_succ_of_le (split_len h)
    · cases e : splitC c z with
      | nil => exact absurd e (splitC_ne c z)
      | cons q qs =>
        rw [e] at h
        rcases List.mem_cons.mp h with h | h
        · rw [h]
          exact Nat.succ_le_succ (split_len (p := q) (by rw [e]; exact List.mem_cons_self ..))
        · exact Nat.le_succ_of_le (split_len (p := p) (by rw [e]; exact List.mem_cons_of_mem _ h))
theorem numL_head {n : Nat} : n ≠ 0 → (numL n).head? ≠ some 48 := by
  induction n using Nat.strongRecOn with
  | ind n ih =>
    intro h0
    by_cases h : n < 10
    · rw [numL_lt h]
      simp
      omega
    · rw [numL_step (by omega)]
      have h1 := ih (n / 10) (by omega) (by omega)
      cases e : numL (n / 10) with
      | nil => exact absurd e (numL_ne _)
      | cons x xs =>
        rw [e] at h1
        exact h1
theorem decV_num (n : Nat) : decV (numL n) = n := by
  induction n using Nat.strongRecOn with
  | ind n ih =>
    by_cases h : n < 10
    · rw [numL_lt h]
      show 0 * 10 + (48 + n - 48) = n
      omega
    · rw [numL_step (by omega)]
      unfold decV
      rw [List.foldl_append]
      have h1 := ih (n / 10) (by omega)
      unfold decV at h1
      rw [h1]
      show n / 10 * 10 + (48 + n % 10 - 48) = n
      omega
theorem numL_dg {n c : Nat} (h : c ∈ numL n) : c ∈ dg := dg_iff.mpr (by
  have r := numL_digits n c h
  omega)
theorem numV_num {n : Nat} (h : n < 1000000) : numV (numL n) = some n := by
  have h1 : (numL n).length ≤ 6 := numL_le (by omega) (by omega)
  have h2 : 1 ≤ (numL n).length := by
    cases e : numL n with
    | nil => exact absurd e (numL_ne n)
    | cons x xs => simp
  unfold numV
  rw [if_pos, decV_num]
  refine ⟨⟨h2, h1⟩, fun c hc => numL_dg hc, ?_⟩
  by_cases q : n = 0
  · subst q
    exact .inr (numL_lt (by omega))
  · exact .inl (numL_head q)
theorem wl_drawn {it : EvL} {j : Nat} {e : Ev} {ρ : Rho} {S : Sto} {A : List Nat} {l m : Nat} {ρ1 : D → Rho} {P : List D → Sto → Prop} (hp : ∀ d, pNm j d (wipeR ρ [j]) = some (ρ1 d))
    (h : W (it ρ S) fun all S1 => ∃ n : Nat, all.length = n ∧ n ≤ 1000000 ∧ Box S1 l m ∧ (∀ S2 d, Box S2 l m → W (e (ρ1 d) S2) fun x S3 => ∃ c, x = .str [c] ∧ c ∈ A ∧ Bx l m S2 S3) ∧ ∀ (zs : List Nat) S2, zs.length = n → (∀ c ∈ zs, c ∈ A) → Bx l m S1 S2 → P (zs.map fun c => D.str [c]) S2) : W (fLc it [j] (pNm j) tYesE e ρ S) P := by
  refine wl_lc (h.mono fun all S1 hh => ?_)
  obtain ⟨n, hn, hn2, b, he, hP⟩ := hh
  refine ⟨fun k out S2 => Bx l m S1 S2 ∧ ∃ zs : List Nat, out = zs.map (fun c => D.str [c]) ∧ zs.length = k ∧ ∀ c ∈ zs, c ∈ A, ⟨Bx.refl b, [], rfl, rfl, fun c hc => (nomatch hc)⟩, ?_, ?_⟩
  · rintro k d out S2 hk ⟨bx, zs, rfl, hl, hc⟩
    refine ⟨_, hp d, wt_yes ⟨fun z => (nomatch z), fun _ => ?_⟩⟩
    refine (he S2 d bx.box).mono fun x S3 h => ?_
    obtain ⟨c, rfl, hcA, bx3⟩ := h
    refine ⟨bx.trans bx3, zs ++ [c], by rw [List.map_append]; rfl, by simp [hl], fun y hy => ?_⟩
    rcases List.mem_append.mp hy with h | h
    · exact hc y h
    · rw [List.mem_singleton] at h
      rw [h]
      exact hcA
  · rintro out S2 ⟨bx, zs, rfl, hl, hc⟩
    exact ⟨by rw [List.length_map]; omega, hP zs S2 (by omega) hc bx⟩
/-- a sign at a drawn place -/
theorem draw_sign {A : List Nat} {S : Sto} {l m : Nat} {N : Int} (b : Box S l m) (hN : (A.length : Int) = N) (h0 : 0 < N) (h1 : N < 1000) : W (F_take [.ref l, .int N] S) fun o S' => ∃ (r : Nat) (c : Nat), o = .v (.int r) ∧ A[r]? = some c ∧ c ∈ A ∧ Bx l m S S' :=
  (take_ok b h0 (by omega)).mono fun o S' h => by
    obtain ⟨r, rfl, hr, bx⟩ := h
    have lt : r.toNat < A.length := by omega
    refine ⟨r.toNat, A[r.toNat]'lt, ?_, List.getElem?_eq_getElem lt, List.getElem_mem lt, bx⟩
    rw [Int.toNat_of_nonneg hr.1]
/-- a drawn one of some numbers -/
theorem draw_nat {S : Sto} {l m : Nat} {n : Nat} (b : Box S l m) (h0 : 0 < n) (h1 : n < 1073741824) : W (F_take [.ref l, .int n] S) fun o S' => ∃ r : Nat, o = .v (.int r) ∧ r < n ∧ Bx l m S S' :=
  (take_ok b (by omega) (by omega)).mono fun o S' h => by
    obtain ⟨r, rfl, hr, bx⟩ := h
    refine ⟨r.toNat, ?_, by omega, bx⟩
    rw [Int.toNat_of_nonneg hr.1]
theorem packV_len {fs : List (List Nat)} {n : Nat} (h : Fs fs n) (hn : n ≤ 900000) : (packV fs).length ≤ n + 15 := by
  obtain ⟨hb, hbl⟩ := h.body
  have l1 : (numL (joinD [124] fs).length).length ≤ 6 := numL_le (by omega) (by omega)
  have l2 : (numL (sumV (joinD [124] fs))).length ≤ 6 := numL_le (by omega) (by have := sumV_lt (joinD [124] fs); omega)
  unfold packV
  simp
  omega
theorem packV_okS {fs : List (List Nat)} {n : Nat} (h : Fs fs n) : okS (packV fs) := by
  obtain ⟨hb, hbl⟩ := h.body
  have hd : ∀ n, ∀ c ∈ numL n, c < 1114112 := fun n c hc => by
    have := dg_iff.mp (numL_dg hc)
    omega
  intro c hc
  unfold packV at hc
  simp only [List.mem_append, List.mem_singleton] at hc
  rcases hc with ((((hc | hc) | hc) | hc) | hc) | hc
  · exact hd _ c hc
  · omega
  · exact hd _ c hc
  · omega
  · have := sb_lt c (hb c hc)
    omega
  · omega
end AH
set_option maxRecDepth 100000
set_option maxHeartbeats 4000000
namespace AH
open PySem L2 TL
theorem join_cons {s p : List Nat} {qs : List (List Nat)} (h : qs ≠ []) : joinD s (p :: qs) = p ++ (s ++ joinD s qs) := by
  cases qs with
  | nil => exact absurd rfl h
  | cons q r => rfl
theorem join_cons1 {s p : List Nat} {x : Nat} : ∀ {qs : List (List Nat)}, joinD s ((x :: p) :: qs) = x :: joinD s (p :: qs)
  | [] => rfl
  | _ :: _ => rfl
theorem join_split {c : Nat} : ∀ z : List Nat, joinD [c] (splitC c z) = z
  | [] => rfl
  | x :: z => by
    unfold splitC
    split
    · rename_i h
      rw [join_cons (splitC_ne c z), join_split z, h]
      rfl
    · cases e : splitC c z with
      | nil => exact absurd e (splitC_ne c z)
      | cons p ps =>
        show joinD [c] ((x :: p) :: ps) = _
        rw [join_cons1, ← e, join_split z]
theorem split_free {c : Nat} : ∀ {z p : List Nat}, p ∈ splitC c z → c ∉ p
  | [], p, h => by
    rw [splitC, List.mem_singleton] at h
    rw [h]
    exact fun q => nomatch q
  | x :: z, p, h => by
    unfold splitC at h
    split at h
    · rcases List.mem_cons.mp h with h | h
      · rw [h]
        exact fun q => nomatch q
      · exact split_free h
    · rename_i hx
      cases e : splitC c z with
      | nil => exact absurd e (splitC_ne c z)
      | cons q qs =>
        rw [e] at h
        rcases List.mem_cons.mp h with h | h
        · rw [h]
          intro r
          rcases List.mem_cons.mp r with r | r
          · exact hx r.symm
          · exact split_free (z := z) (p := q) (by rw [e]; exact List.mem_cons_self ..) r
        · exact split_free (z := z) (p := p) (by rw [e]; exact List.mem_cons_of_mem _ h)
theorem split_count {c : Nat} : ∀ z : List Nat, (splitC c z).length = z.count c + 1
  | [] => rfl
  | x :: z => by
    have ih := split_count (c := c) z
    unfold splitC
    split
    · rename_i h
      rw [h, List.length_cons, ih, List.count_cons_self]
    · rename_i h
      rw [List.count_cons_of_ne h]
      cases e : splitC c z with
      | nil => exact absurd e (splitC_ne c z)
      | cons q qs =>
        rw [e] at ih
        exact ih
theorem sum_split {c : Nat} : ∀ z : List Nat, ((splitC c z).map (·.length)).sum + (splitC c z).length = z.length + 1
  | [] => rfl
  | x :: z => by
    have ih := sum_split (c := c) z
    unfold splitC
    split
    · rw [List.map_cons, List.sum_cons, List.length_cons, List.length_cons]
      show 0 + _ + _ = _
      omega
    · cases e : splitC c z with
      | nil => exact absurd e (splitC_ne c z)
      | cons q qs =>
        rw [e] at ih
        simp at ih ⊢
        omega
theorem decV_snoc (w : List Nat) (c : Nat) : decV (w ++ [c]) = decV w * 10 + (c - 48) := by
  unfold decV
  rw [List.foldl_append]
  rfl
theorem num_of_dec : ∀ (n : Nat) (w : List Nat), w.length = n → w ≠ [] → (∀ c ∈ w, c ∈ dg) → (w.head? ≠ some 48 ∨ w = [48]) → numL (decV w) = w
  | 0, w, hn, h, _, _ => absurd (List.length_eq_zero_iff.mp hn) h
  | n + 1, w, hn, h, hd, hh => by
    have e : w = w.dropLast ++ [w.getLast h] := (List.dropLast_concat_getLast h).symm
    generalize hu : w.dropLast = u at e
    generalize hx : w.getLast h = x at e
    have xd : 48 ≤ x ∧ x ≤ 57 := dg_iff.mp (hd x (by rw [← hx]; exact List.getLast_mem h))
    have ud : ∀ c ∈ u, c ∈ dg := fun c hc => hd c (by rw [e]; exact List.mem_append_left _ hc)
    by_cases hu0 : u = []
    · subst hu0
      rw [e]
      show numL (0 * 10 + (x - 48)) = [x]
      rw [numL_lt (by omega)]
      congr 1
      omega
    · have ulen : u.length = n := by
        have := congrArg List.length e
        simp at this
        omega
      have uh : u.head? ≠ some 48 := by
        rcases hh with hh | hh
        · rw [e] at hh
          cases u with
          | nil => exact absurd rfl hu0
          | cons y ys => exact hh
        · rw [hh] at e
          cases u with
          | nil => exact absurd rfl hu0
          | cons y ys =>
            have := congrArg List.length e
            simp at this
      have ih := num_of_dec n u ulen hu0 ud (.inl uh)
      have pos : 0 < decV u := by
        refine Nat.pos_of_ne_zero fun z => ?_
        rw [z, numL_lt (by omega)] at ih
        exact uh (by rw [← ih]; rfl)
      rw [e, decV_snoc, numL_step (by omega)]
      have e1 : (decV u * 10 + (x - 48)) / 10 = decV u := by omega
      have e2 : 48 + (decV u * 10 + (x - 48)) % 10 = x := by omega
      rw [e1, e2, ih]
theorem numV_back {w : List Nat} {n : Nat} (h : numV w = some n) : w = numL n := by
  unfold numV at h
  split at h
  · rename_i q
    cases h
    exact (num_of_dec _ w rfl (by intro z; rw [z] at q; simp at q) q.2.1 q.2.2).symm
  · cases h
theorem sb_sg {c : Nat} (h : c ∈ sb) (n : c ≠ 124) : c ∈ sg := by
  have e : sb = sg ++ [124] := rfl
  rw [e] at h
  rcases List.mem_append.mp h with h | h
  · exact h
  · exact absurd (List.mem_singleton.mp h) n
theorem fs_split {B : List Nat} (h : ∀ c ∈ B, c ∈ sb) : Fs (splitC 124 B) (B.length + 1) := ⟨splitC_ne _ _, fun z hz c hc => sb_sg (h c (split_mem hz hc)) fun e => split_free hz (by rw [← e]; exact hc), by rw [sum_split]; exact Nat.le_refl _⟩
theorem pack_split (B : List Nat) : packV (splitC 124 B) = ((((numL B.length ++ [46]) ++ numL (sumV B)) ++ [46]) ++ B) ++ [33] := by
  unfold packV
  rw [join_split]
theorem unpack_is {t : List Nat} {fs : List (List Nat)} (h : unpackV t = some fs) : t = packV fs ∧ Fs fs (t.length + 1) := by
  unfold unpackV at h
  split at h
  · rename_i a b c e
    split at h
    · rename_i q
      cases h
      obtain ⟨h1, h2, h3, h4⟩ := q
      generalize hB : c.take (c.length - 1) = B at h2 h3 h4 ⊢
      have ec : c = B ++ [33] := by
        rw [← hB, ← h1]
        exact (List.take_append_drop _ _).symm
      have et : t = a ++ 46 :: (b ++ 46 :: c) := by
        have := join_split (c := 46) t
        rw [e] at this
        rw [← this]
        rfl
      have ea := numV_back h3
      have eb := numV_back h4
      refine ⟨?_, (fs_split h2).mono ?_⟩
      · rw [pack_split, ← ea, ← eb, et, ec]
        simp
      · rw [et, ec]
        simp
        omega
    · cases h
  · cases h
/-- the sign that ends a letter stands nowhere else -/
theorem pack_end {fs : List (List Nat)} {n : Nat} (h : Fs fs n) : ∃ u, packV fs = u ++ [33] ∧ (33 : Nat) ∉ u := by
  refine ⟨_, rfl, fun q => ?_⟩
  simp only [List.mem_append, List.mem_singleton] at q
  rcases q with (((q | q) | q) | q) | q
  · exact numL_free (by omega) q
  · omega
  · exact numL_free (by omega) q
  · omega
  · exact absurd (h.body.1 _ q) (by decide)
theorem unpack_cut {fs : List (List Nat)} {n e : Nat} (h : Fs fs n) (he : e < (packV fs).length) : unpackV ((packV fs).take e) = none := by
  cases q : unpackV ((packV fs).take e) with
  | none => rfl
  | some gs =>
    obtain ⟨h1, h2⟩ := unpack_is q
    obtain ⟨u, hu, hn⟩ := pack_end h
    obtain ⟨v, hv, _⟩ := pack_end h2
    rw [hv] at h1
    have hm : (33 : Nat) ∈ (packV fs).take e := by
      rw [h1]
      simp
    have hl : (packV fs).length = u.length + 1 := by
      rw [hu]
      simp
    rw [hu, List.take_append_of_le_length (by omega)] at hm
    exact absurd (List.mem_of_mem_take hm) hn
end AH
set_option maxRecDepth 100000
set_option maxHeartbeats 2000000
namespace AH
open PySem L2 TL Classical
section
variable {α β : Type} {P : α → Sto → Prop} {S S1 : Sto} {ρ : Rho} {Q : PS}
theorem we_kget {kvs : Kvs} {a b : Ev} {P : D → Sto → Prop} (h : W (a ρ S) fun x S1 => W (b ρ S1) fun y S2 => ∃ c, x = .str c ∧ P (match kGet kvs c with
    | some i => .int i
    | none => y) S2) : W (eKGet2 kvs a b ρ S) P := w_bind (h.mono fun x S1 q => w_bind (q.mono fun y S2 ⟨c, e, p⟩ => by
  subst e
  exact w_ret p))
end
end AH
set_option maxRecDepth 100000
set_option maxHeartbeats 2000000
namespace AH
open PySem L2 TL
section
variable {α β : Type} {P : α → Sto → Prop} {S S1 : Sto} {ρ : Rho} {Q : PS}
theorem we_fld {c i : Nat} {a : Ev} {P : D → Sto → Prop} (h : W (a ρ S) fun x S1 => ∃ l fs d, x = .ref l ∧ S1.get l = some (.ins c fs) ∧ fs[i]? = some d ∧ P d S1) : W (eFld c i a ρ S) P := w_bind (h.mono fun x S1 ⟨l, fs, d, e, g, q, p⟩ => by
  subst e
  refine ⟨d, S1, ?_, p⟩
  simp only [g, q, if_true, Option.map_some])
theorem ws_putF {c i : Nat} {eo ev : Ev} (h : W (ev ρ S) fun y S1 => W (eo ρ S1) fun x S2 => ∃ l fs ds, x = .ref l ∧ S2.get l = some (.ins c fs) ∧ putL fs i y = some ds ∧ Q .nx ρ (S2.set l (.ins c ds))) : WS (sPutF c i eo ev ρ S) Q := ws_bind (h.mono fun y S1 q => ws_bind (q.mono fun x S2 ⟨l, fs, ds, e, g, q, p⟩ => by
  subst e
  refine ⟨.nx, ρ, _, ?_, p⟩
  simp only [g, q, if_true, Option.map_some]))
theorem wg_fd {c i : Nat} {eo : Ev} {d : D} {P : Rho → Sto → Prop} (h : W (eo ρ S) fun x S2 => ∃ l fs ds, x = .ref l ∧ S2.get l = some (.ins c fs) ∧ putL fs i d = some ds ∧ P ρ (S2.set l (.ins c ds))) : W (gFd c i eo d ρ S) P := w_bind (h.mono fun x S2 ⟨l, fs, ds, e, g, q, p⟩ => by
  subst e
  refine ⟨ρ, _, ?_, p⟩
  simp only [g, q, if_true, Option.map_some])
theorem wg_tp {n : Nat} {hh : EvGs} {ds : List D} {P : Rho → Sto → Prop} (l : ds.length = n) (h : W (hh ds ρ S) P) : W (gTp n hh (.tup ds) ρ S) P := by
  obtain ⟨a, b, e, p⟩ := h
  refine ⟨a, b, ?_, p⟩
  unfold gTp
  dsimp only
  rw [if_pos l]
  exact e
theorem wg_cons {g : EvG} {hh : EvGs} {d : D} {ds : List D} {P : Rho → Sto → Prop} (h : W (g d ρ S) fun ρ1 S1 => W (hh ds ρ1 S1) P) : W (gsCons g hh (d :: ds) ρ S) P := by
  obtain ⟨a, b, e, a2, b2, e2, p⟩ := h
  refine ⟨a2, b2, ?_, p⟩
  unfold gsCons
  dsimp only
  rw [e]
  exact e2
theorem wg_nil {P : Rho → Sto → Prop} (h : P ρ S) : W (gsNil [] ρ S) P := ⟨_, _, rfl, h⟩
theorem we_mk {c : Nat} {F : Fn} {el : EvL} {P : D → Sto → Prop} (h : W (el ρ S) fun ds S1 => W (F (.ref S1.next :: ds) (S1.new (.ins c []))) fun o S2 => o = .v .non ∧ P (.ref S1.next) S2) : W (eMk c F el ρ S) P := w_bind (h.mono fun ds S1 q => by
  obtain ⟨o, S2, e, rfl, p⟩ := q
  refine ⟨.ref S1.next, S2, ?_, p⟩
  dsimp only
  rw [e]
  rfl)
theorem we_mt {c : Nat} {F : Fn} {eo : Ev} {el : EvL} {P : D → Sto → Prop} (h : W (eo ρ S) fun x S1 => ∃ l fs, x = .ref l ∧ S1.get l = some (.ins c fs) ∧ W (el ρ S1) fun ds S2 => W (callE F (.ref l :: ds) S2) P) : W (eMt c F eo el ρ S) P := w_bind (h.mono fun x S1 ⟨l, fs, e, g, q⟩ => by
  subst e
  dsimp only
  rw [g]
  dsimp only
  rw [if_pos rfl]
  exact w_bind q)
theorem we_mtF {c : Nat} {F : Fn} {eo : Ev} {el : EvL} {P : List D → Sto → Prop} (h : W (eo ρ S) fun x S1 => ∃ l fs, x = .ref l ∧ S1.get l = some (.ins c fs) ∧ W (el ρ S1) fun ds S2 => W (callF F (.ref l :: ds) S2) P) : W (fMt c F eo el ρ S) P := w_bind (h.mono fun x S1 ⟨l, fs, e, g, q⟩ => by
  subst e
  dsimp only
  rw [g]
  dsimp only
  rw [if_pos rfl]
  exact w_bind q)
theorem ws_par3 {i j l : Nat} {a b c : Ev} (h : W (a ρ S) fun x S1 => W (b ρ S1) fun y S2 => W (c ρ S2) fun z S3 => (i < ρ.length ∧ j < ρ.length ∧ l < ρ.length) ∧ Q .nx (((ρ.set i (.val x)).set j (.val y)).set l (.val z)) S3) : WS (sPar3 i j l a b c ρ S) Q :=
  ws_bind (h.mono fun x S1 q => ws_bind (q.mono fun y S2 q => ws_bind (q.mono fun z S3 ⟨l, k⟩ => ⟨.nx, _, S3, if_pos l, k⟩)))
theorem wi_ES {a : EvL} {P : List D → Sto → Prop} (h : W (a ρ S) fun x S1 => ∃ z, x = [.str z] ∧ P (enumS z) S1) : W (iES a ρ S) P := w_bind (h.mono fun x S1 ⟨ds, e, p⟩ => by
  subst e
  exact w_ret p)
end
end AH
set_option maxRecDepth 100000
set_option maxHeartbeats 4000000
namespace AH
open PySem L2 TL
def b_Pane_rows : EvS := (sRetF (eN fListOf (aCons (eFld 0 0 (eVar 0)) aNil)))
def F_Pane_rows : Fn := runB 1 1 b_Pane_rows
structure PV where
  kept : List (List Nat)
  text : List Nat
  work : Option (Nat × Nat)
  many : Nat
  past : List (List Nat × List Nat)
  notes : List D
def wkD : Option (Nat × Nat) → D
  | none => .non
  | some (a, b) => .tup [.int a, .int b]
def chD (q : List Nat × List Nat) : D := .tup [.str q.1, .str q.2]
def paneD (p : PV) : List D := [.lst (p.kept.map .str), .str p.text, wkD p.work, .int p.many, .lst (p.past.map chD), .lst p.notes]
def lastN {α : Type} (n : Nat) (xs : List α) : List α := xs.drop (xs.length - n)
theorem lastN_len {α : Type} {n : Nat} {xs : List α} : (lastN n xs).length ≤ n := by
  unfold lastN
  rw [List.length_drop]
  omega
theorem lastN_mem {α : Type} {n : Nat} {xs : List α} {x : α} (h : x ∈ lastN n xs) : x ∈ xs := List.mem_of_mem_drop h
def wLine : List Nat := [108, 105, 110, 101]
def wRow : List Nat := [114, 111, 119]
def wClear : List Nat := [99, 108, 101, 97, 114]
/-- rows and line behind a change -/
def ap (rl : List (List Nat) × List Nat) (q : List Nat × List Nat) : List (List Nat) × List Nat := if q.1 = wLine then (rl.1, q.2) else if q.1 = wClear then ([], rl.2) else (lastN 40 (rl.1 ++ [q.2]), rl.2)
def chg (p : PV) (w t : List Nat) : PV := { p with kept := (ap (p.kept, p.text) (w, t)).1, text := (ap (p.kept, p.text) (w, t)).2, many := p.many + 1, past := lastN 30 (p.past ++ [(w, t)]) }
/-- the pane at l -/
def Pn (S : Sto) (l : Nat) (p : PV) : Prop := S.get l = some (.ins 0 (paneD p))
structure Pc (l : Nat) (p : PV) (S S' : Sto) : Prop where
  at_ : Pn S' l p
  nx : S'.next = S.next
  fr : ∀ k, k ≠ l → S'.get k = S.get k
theorem Pc.trans {l : Nat} {p q : PV} {S T U : Sto} (a : Pc l p S T) (b : Pc l q T U) : Pc l q S U := ⟨b.at_, b.nx.trans a.nx, fun k h => (b.fr k h).trans (a.fr k h)⟩
theorem Pc.set {l : Nat} {p : PV} {S : Sto} : Pc l p S (S.set l (.ins 0 (paneD p))) := ⟨if_pos rfl, rfl, fun k h => if_neg h⟩
theorem Pc.box {l a b : Nat} {p : PV} {S S' : Sto} (h : Pc l p S S') (bx : Box S a b) (ha : l ≠ a) (hb : l ≠ b) : Box S' a b := by
  obtain ⟨q, e⟩ := bx.out
  obtain ⟨xs, e2, z⟩ := bx.inn
  exact ⟨bx.ne, ⟨q, (h.fr a (Ne.symm ha)).trans e⟩, ⟨xs, (h.fr b (Ne.symm hb)).trans e2, z⟩, by rw [h.nx]; exact bx.lt⟩
/-- what always holds of a pane -/
structure Pg (p : PV) : Prop where
  k1 : p.kept.length ≤ 40
  k2 : ∀ z ∈ p.kept, z.length ≤ 60 ∧ okS z
  t1 : p.text.length ≤ 30
  t2 : ∀ c ∈ p.text, c < 128
  w1 : ∀ a b, p.work = some (a, b) → a < b ∧ b ≤ 99
  p1 : p.past.length ≤ 30
  n1 : p.notes.length ≤ 100
theorem ap_len {rl : List (List Nat) × List Nat} {q : List Nat × List Nat} (h : rl.1.length ≤ 40) : (ap rl q).1.length ≤ 40 := by
  unfold ap
  split
  · exact h
  · split
    · exact Nat.zero_le _
    · exact lastN_len
theorem okS_lt {c : List Nat} (h : ∀ x ∈ c, x < 128) : okS c := fun x hx => Nat.lt_trans (h x hx) (by decide)
def wMany : List Nat := [109, 97, 110, 121]
def countV (line : List Nat) : Option Nat := match splitC 32 line with
  | [a, b] => if a = wMany ∧ (1 ≤ b.length ∧ b.length ≤ 2) ∧ (∀ c ∈ b, c ∈ dg) ∧ b.head? ≠ some 48 then some (decV b) else none
  | _ => none
def say4 : List Nat := [115, 97, 121, 32]
def wStop : List Nat := [115, 116, 111, 112]
def doV (p : PV) (line : List Nat) : PV :=
  let p1 := chg p wRow ([62, 32] ++ line)
  let p2 := if line = [] then p1 else chg p1 wLine []
  if line.take 4 = say4 then chg p2 wRow (line.drop 4) else if line = wClear then chg p2 wClear [] else if line = wStop ∧ p2.work ≠ none then { p2 with work := none } else match countV line with
  | some n => { p2 with work := some (0, n) }
  | none => if line = [] then p2 else chg p2 wRow ([63, 32] ++ line)
def ptV (p1 : PV) (c : Nat) : PV := if c = 59 then doV p1 p1.text else if c = 60 then (if p1.text = [] then p1 else chg p1 wLine (p1.text.take (p1.text.length - 1))) else if p1.text.length < 30 then chg p1 wLine (p1.text ++ [c]) else p1
def pressV (p : PV) (nt : D) (c : Nat) : PV := ptV { p with notes := lastN 100 (p.notes ++ [nt]) } c
theorem bd {p : Prop} [Decidable p] (h : (!decide p) = false) : p := by
  by_cases q : p
  · exact q
  · rw [decide_eq_false q] at h
    cases h
theorem bt {p : Prop} [Decidable p] (h : (!decide p) = true) : ¬ p := fun q => by
  rw [decide_eq_true q] at h
  cases h
def an : List Nat := [97, 98, 99, 100, 101, 102, 103, 104, 105, 106, 107, 108, 109, 110, 111, 112, 113, 114, 115, 116, 117, 118, 119, 120, 121, 122, 48, 49, 50, 51, 52, 53, 54, 55, 56, 57, 32, 60, 59]
theorem rows_ok {S : Sto} {l : Nat} {p : PV} (h : Pn S l p) : W (F_Pane_rows [.ref l] S) fun o S' => o = .f (p.kept.map .str) ∧ S' = S := by
  refine w_run rfl ?_
  show WS (b_Pane_rows [.val (.ref l)] S) _
  unfold b_Pane_rows
  fail "OSTEP"
  refine ⟨l, _, _, rfl, h, rfl, ?_⟩
  fail "OSTEP"
  exact ⟨rfl, rfl⟩
theorem lastN_snoc {α : Type} {n : Nat} {xs : List α} {x : α} (h0 : 0 < n) : lastN n (lastN n xs ++ [x]) = lastN n (xs ++ [x]) := by
  unfold lastN
  by_cases h : xs.length ≤ n
  · rw [Nat.sub_eq_zero_of_le h]
    rfl
  · have e : (xs.drop (xs.length - n) ++ [x]).length = n + 1 := by
      simp
      omega
    have e2 : (xs ++ [x]).length - n = xs.length + 1 - n := by simp
    rw [e, e2, List.drop_append_of_le_length (by simp; omega), List.drop_drop, List.drop_append_of_le_length (by omega)]
    congr 2
    omega
/-- from p0 the changes cs lead to p -/
structure Led (p0 p : PV) (cs : List (List Nat × List Nat)) : Prop where
  many : p.many = p0.many + cs.length
  now : (p.kept, p.text) = cs.foldl ap (p0.kept, p0.text)
  past : p.past = lastN 30 (p0.past ++ cs)
def Rd (p0 p : PV) : Prop := ∃ cs, Led p0 p cs
end AH
set_option maxRecDepth 100000
set_option maxHeartbeats 4000000
namespace AH
open PySem L2 TL
abbrev Hm := List (Nat × MO)
structure Hs (S : Sto) (A : Hm) : Prop where
  nd : (A.map (·.1)).Nodup
  at_ : ∀ p ∈ A, S.get p.1 = some p.2
  lt : ∀ p ∈ A, p.1 < S.next
inductive Ud : Hm → Nat → MO → MO → Hm → Prop
  | hd {l o o' A} : Ud ((l, o) :: A) l o o' ((l, o') :: A)
  | tl {p A l o o' A'} : Ud A l o o' A' → Ud (p :: A) l o o' (p :: A')
  | lf {A B l o o' A'} : Ud A l o o' A' → Ud (A ++ B) l o o' (A' ++ B)
  | rt {A B l o o' B'} : Ud B l o o' B' → Ud (A ++ B) l o o' (A ++ B')
theorem Ud.out {A A' : Hm} {l : Nat} {o o' : MO} (u : Ud A l o o' A') : ∃ X Y, A = X ++ (l, o) :: Y ∧ A' = X ++ (l, o') :: Y := by
  induction u with
  | hd => exact ⟨[], _, rfl, rfl⟩
  | @tl p A l o o' A' u ih =>
    obtain ⟨X, Y, rfl, rfl⟩ := ih
    exact ⟨p :: X, Y, rfl, rfl⟩
  | @lf A B l o o' A' u ih =>
    obtain ⟨X, Y, rfl, rfl⟩ := ih
    exact ⟨X, Y ++ B, by simp, by simp⟩
  | @rt A B l o o' B' u ih =>
    obtain ⟨X, Y, rfl, rfl⟩ := ih
    exact ⟨A ++ X, Y, by simp, by simp⟩
theorem Ud.mem {A A' : Hm} {l : Nat} {o o' : MO} (u : Ud A l o o' A') : (l, o) ∈ A := by
  obtain ⟨X, Y, rfl, rfl⟩ := u.out
  simp
theorem Hs.get {S : Sto} {A : Hm} {l : Nat} {o : MO} (h : Hs S A) (m : (l, o) ∈ A) : S.get l = some o := h.at_ _ m
theorem Hs.nil {S : Sto} : Hs S [] := ⟨.nil, nofun, nofun⟩
theorem Hs.perm {S : Sto} {A B : Hm} (h : Hs S A) (p : A.Perm B) : Hs S B := ⟨(p.map _).nodup_iff.mp h.nd, fun q hq => h.at_ q (p.mem_iff.mpr hq), fun q hq => h.lt q (p.mem_iff.mpr hq)⟩
theorem Hs.cut {S : Sto} {A B : Hm} (h : Hs S A) (p : List.Sublist B A) : Hs S B := ⟨h.nd.sublist (p.map _), fun q hq => h.at_ q (p.subset hq), fun q hq => h.lt q (p.subset hq)⟩
theorem Hs.fr1 {S S' : Sto} {X Y : Hm} {l : Nat} {o o' : MO} (h : Hs S (X ++ (l, o) :: Y)) (n : S.next ≤ S'.next) (g : S'.get l = some o') (f : ∀ k, k ≠ l → k < S.next → S'.get k = S.get k) : Hs S' (X ++ (l, o') :: Y) := by
  have nd := h.nd
  rw [List.map_append, List.map_cons] at nd
  have nl : l ∉ X.map (·.1) ∧ l ∉ Y.map (·.1) := by
    have q := (List.nodup_append.mp nd)
    exact ⟨fun z => q.2.2 l z l (List.mem_cons_self ..) rfl, (List.nodup_cons.mp q.2.1).1⟩
  refine ⟨by rw [List.map_append, List.map_cons]; exact nd, fun p hp => ?_, fun p hp => ?_⟩
  · rcases List.mem_append.mp hp with z | z
    · rw [f p.1 (fun e => nl.1 (by rw [← e]; exact List.mem_map_of_mem z)) (h.lt p (List.mem_append_left _ z))]
      exact h.at_ p (List.mem_append_left _ z)
    · rcases List.mem_cons.mp z with z | z
      · rw [z]
        exact g
      · have m : p ∈ X ++ (l, o) :: Y := List.mem_append_right _ (List.mem_cons_of_mem _ z)
        rw [f p.1 (fun e => nl.2 (by rw [← e]; exact List.mem_map_of_mem z)) (h.lt p m)]
        exact h.at_ p m
  · have e : ∀ q ∈ X ++ (l, o) :: Y, q.1 < S'.next := fun q hq => Nat.lt_of_lt_of_le (h.lt q hq) n
    rcases List.mem_append.mp hp with z | z
    · exact e p (List.mem_append_left _ z)
    · rcases List.mem_cons.mp z with z | z
      · rw [z]
        exact e (l, o) (List.mem_append_right _ (List.mem_cons_self ..))
      · exact e p (List.mem_append_right _ (List.mem_cons_of_mem _ z))
theorem Hs.upd {S : Sto} {A A' : Hm} {l : Nat} {o o' : MO} (h : Hs S A) (u : Ud A l o o' A') : Hs (S.set l o') A' := by
  obtain ⟨X, Y, rfl, rfl⟩ := u.out
  exact h.fr1 (Nat.le_refl _) (if_pos rfl) fun k hk _ => if_neg hk
theorem Hs.new {S : Sto} {A : Hm} (h : Hs S A) (o : MO) : Hs (S.new o) ((S.next, o) :: A) := by
  refine ⟨List.nodup_cons.mpr ⟨fun z => ?_, h.nd⟩, fun p hp => ?_, fun p hp => ?_⟩
  · obtain ⟨q, hq, e⟩ := List.mem_map.mp z
    have := h.lt q hq
    have e : q.1 = S.next := e
    omega
  · rcases List.mem_cons.mp hp with z | z
    · rw [z]
      exact if_pos rfl
    · have := h.lt p z
      show (if p.1 = S.next then _ else _) = _
      rw [if_neg (by omega)]
      exact h.at_ p z
  · show p.1 < S.next + 1
    rcases List.mem_cons.mp hp with z | z
    · rw [z]
      exact Nat.lt_succ_self _
    · exact Nat.lt_succ_of_lt (h.lt p z)
/-- a branch -/
def Br (c : Bool) (X Y : Prop) : Prop := (c = true → X) ∧ (c = false → Y)
theorem Br.t {X Y : Prop} (h : X) : Br true X Y := ⟨fun _ => h, nofun⟩
theorem Br.f {X Y : Prop} (h : Y) : Br false X Y := ⟨nofun, fun _ => h⟩
theorem Br.n {c : Bool} {X Y : Prop} (h : Br c Y X) : Br (!c) X Y := by
  cases c
  · exact ⟨fun _ => h.2 rfl, nofun⟩
  · exact ⟨nofun, fun _ => h.1 rfl⟩
theorem Br.d {p : Prop} [Decidable p] {X Y : Prop} (h : p → X) (k : ¬ p → Y) : Br (decide p) X Y := ⟨fun z => h (of_decide_eq_true z), fun z => k (of_decide_eq_false z)⟩
theorem Br.dt {p : Prop} [Decidable p] {X Y : Prop} (h : p) (k : X) : Br (decide p) X Y := .d (fun _ => k) (fun z => absurd h z)
theorem Br.df {p : Prop} [Decidable p] {X Y : Prop} (h : ¬ p) (k : Y) : Br (decide p) X Y := .d (fun z => absurd z h) (fun _ => k)
theorem Br.b {c : Bool} {X Y : Prop} (h : c = true → X) (k : c = false → Y) : Br c X Y := ⟨h, k⟩
theorem Br.bt {c : Bool} {X Y : Prop} (h : c = true) (k : X) : Br c X Y := ⟨fun _ => k, fun z => by rw [h] at z; cases z⟩
theorem Br.bf {c : Bool} {X Y : Prop} (h : c = false) (k : Y) : Br c X Y := ⟨fun z => (by rw [h] at z; cases z), fun _ => k⟩
theorem Br.it {T n : String} {X Y : Prop} (h : isT T n = true) (k : X) : Br (isT T n) X Y := .bt h k
theorem Br.jt {T n : String} {X Y : Prop} (h : isT T n = false) (k : Y) : Br (isT T n) X Y := .bf h k
section
variable {α β : Type} {P : α → Sto → Prop} {S S1 : Sto} {ρ : Rho} {Q : PS} {A A' : Hm} {l : Nat}
theorem xt_or {P : Bool → Sto → Prop} {a b : EvT} (h : W (a ρ S) fun x S1 => Br x (P true S1) (W (b ρ S1) P)) : W (tOrE a b ρ S) P := wt_or h
theorem xt_and {P : Bool → Sto → Prop} {a b : EvT} (h : W (a ρ S) fun x S1 => Br x (W (b ρ S1) P) (P false S1)) : W (tAndE a b ρ S) P := wt_and (h.mono fun _ _ q => ⟨q.2, q.1⟩)
theorem xe_and {P : D → Sto → Prop} {a b : Ev} (h : W (a ρ S) fun x S1 => ∃ c, x = .bl c ∧ Br c (W (b ρ S1) P) (P (.bl false) S1)) : W (eAndE a b ρ S) P := we_and (h.mono fun _ _ ⟨c, e, q⟩ => ⟨c, e, q.2, q.1⟩)
theorem xe_or {P : D → Sto → Prop} {a b : Ev} (h : W (a ρ S) fun x S1 => ∃ c, x = .bl c ∧ Br c (P (.bl true) S1) (W (b ρ S1) P)) : W (eOrE a b ρ S) P := we_or (h.mono fun _ _ ⟨c, e, q⟩ => ⟨c, e, q.1, q.2⟩)
theorem xe_if {P : D → Sto → Prop} {t : EvT} {a b : Ev} (h : W (t ρ S) fun c S1 => Br c (W (a ρ S1) P) (W (b ρ S1) P)) : W (eIf t a b ρ S) P := we_if h
theorem xe_chain {P : D → Sto → Prop} {f g : D → D → Sto → Option (D × Sto)} {a b c : Ev} (h : W (a ρ S) fun x S1 => W (b ρ S1) fun y S2 => W (f x y S2) fun z S3 => ∃ k, z = .bl k ∧ Br k (W (c ρ S3) fun u S4 => W (g y u S4) P) (P (.bl false) S3)) : W (eChain f g a b c ρ S) P :=
  we_chain (h.mono fun _ _ q => q.mono fun _ _ q => q.mono fun _ _ ⟨k, e, q⟩ => ⟨k, e, q.2, q.1⟩)
theorem xs_if {t : EvT} {a b : EvS} (h : W (t ρ S) fun c S1 => Br c (WS (a ρ S1) Q) (WS (b ρ S1) Q)) : WS (sIf t a b ρ S) Q := ws_if h
def fFld (c i : Nat) (x : D) (S : Sto) : Option (D × Sto) := match x with
  | .ref l => match S.get l with
    | some (.ins c' fs) => if c' = c then (fs[i]?).map fun d => (d, S) else none
    | _ => none
  | _ => none
theorem xe_fld {c i : Nat} {a : Ev} {P : D → Sto → Prop} (h : W (a ρ S) fun x S1 => W (fFld c i x S1) P) : W (eFld c i a ρ S) P := w_bind h
theorem xo_fld {c i : Nat} {fs : List D} {d : D} {P : D → Sto → Prop} (hs : Hs S A) (m : (l, MO.ins c fs) ∈ A) (e : fs[i]? = some d) (h : P d S) : W (fFld c i (.ref l) S) P := by
  refine ⟨d, S, ?_, h⟩
  simp only [fFld, hs.get m, e, if_true, Option.map_some]
def pFld (c i : Nat) (x d : D) (S : Sto) : Option (Unit × Sto) := match x with
  | .ref l => match S.get l with
    | some (.ins c' fs) => if c' = c then (putL fs i d).map fun ds => ((), S.set l (.ins c ds)) else none
    | _ => none
  | _ => none
theorem xo_pFld {c i : Nat} {fs ds : List D} {d : D} {P : Unit → Sto → Prop} (hs : Hs S A) (u : Ud A l (.ins c fs) (.ins c ds) A') (e : putL fs i d = some ds) (h : ∀ S', Hs S' A' → P () S') : W (pFld c i (.ref l) d S) P := by
  refine ⟨(), _, ?_, h _ (hs.upd u)⟩
  simp only [pFld, hs.get u.mem, e, if_true, Option.map_some]
theorem pFld_is {c i : Nat} {x d : D} {S S3 : Sto} {u : Unit} (e : pFld c i x d S = some (u, S3)) : ∃ l fs ds, x = .ref l ∧ S.get l = some (.ins c fs) ∧ putL fs i d = some ds ∧ S3 = S.set l (.ins c ds) := by
  unfold pFld at e
  split at e
  · split at e
    · split at e
      · rename_i g z
        subst z
        obtain ⟨ds, e1, e2⟩ := Option.map_eq_some_iff.mp e
        cases e2
        exact ⟨_, _, ds, rfl, g, e1, rfl⟩
      · cases e
    · cases e
  · cases e
theorem xs_putF {c i : Nat} {eo ev : Ev} (h : W (ev ρ S) fun y S1 => W (eo ρ S1) fun x S2 => W (pFld c i x y S2) fun _ S3 => Q .nx ρ S3) : WS (sPutF c i eo ev ρ S) Q := ws_putF (h.mono fun y S1 q => q.mono fun x S2 ⟨_, S3, e, p⟩ => by
  obtain ⟨l, fs, ds, rfl, g, e1, rfl⟩ := pFld_is e
  exact ⟨l, fs, ds, rfl, g, e1, p⟩)
theorem xg_fd {c i : Nat} {eo : Ev} {d : D} {P : Rho → Sto → Prop} (h : W (eo ρ S) fun x S2 => W (pFld c i x d S2) fun _ S3 => P ρ S3) : W (gFd c i eo d ρ S) P := wg_fd (h.mono fun x S2 ⟨_, S3, e, p⟩ => by
  obtain ⟨l, fs, ds, rfl, g, e1, rfl⟩ := pFld_is e
  exact ⟨l, fs, ds, rfl, g, e1, p⟩)
def isI (c : Nat) (x : D) (S : Sto) : Option (Nat × Sto) := match x with
  | .ref l => match S.get l with
    | some (.ins c' _) => if c' = c then some (l, S) else none
    | _ => none
  | _ => none
theorem xo_isI {c : Nat} {fs : List D} {P : Nat → Sto → Prop} (hs : Hs S A) (m : (l, MO.ins c fs) ∈ A) (h : P l S) : W (isI c (.ref l) S) P := by
  refine ⟨l, S, ?_, h⟩
  simp only [isI, hs.get m, if_true]
theorem isI_is {c : Nat} {x : D} {S S1 : Sto} {l : Nat} (e : isI c x S = some (l, S1)) : S1 = S ∧ x = .ref l ∧ ∃ fs, S.get l = some (.ins c fs) := by
  unfold isI at e
  split at e
  · split at e
    · split at e
      · rename_i g z
        cases e
        subst z
        exact ⟨rfl, rfl, _, g⟩
      · cases e
    · cases e
  · cases e
theorem xe_mt {c : Nat} {F : Fn} {eo : Ev} {el : EvL} {P : D → Sto → Prop} (h : W (eo ρ S) fun x S1 => W (isI c x S1) fun l S2 => W (el ρ S2) fun ds S3 => W (callE F (.ref l :: ds) S3) P) : W (eMt c F eo el ρ S) P := we_mt (h.mono fun x S1 ⟨l, S2, e, q⟩ => by
  obtain ⟨rfl, rfl, fs, g⟩ := isI_is e
  exact ⟨l, fs, rfl, g, q⟩)
theorem xe_mtF {c : Nat} {F : Fn} {eo : Ev} {el : EvL} {P : List D → Sto → Prop} (h : W (eo ρ S) fun x S1 => W (isI c x S1) fun l S2 => W (el ρ S2) fun ds S3 => W (callF F (.ref l :: ds) S3) P) : W (fMt c F eo el ρ S) P := we_mtF (h.mono fun x S1 ⟨l, S2, e, q⟩ => by
  obtain ⟨rfl, rfl, fs, g⟩ := isI_is e
  exact ⟨l, fs, rfl, g, q⟩)
theorem xe_mtO {c : Nat} {F : Fn} {eo : Ev} {el : EvL} {P : D → Sto → Prop} (h : W (eo ρ S) fun x S1 => W (isI c x S1) fun l S2 => W (el ρ S2) fun ds S3 => W (callO F (.ref l :: ds) S3) P) : W (eMtO c F eo el ρ S) P := w_bind (h.mono fun x S1 ⟨l, S2, e, q⟩ => by
  obtain ⟨rfl, rfl, fs, g⟩ := isI_is e
  dsimp only
  rw [g]
  dsimp only
  rw [if_pos rfl]
  exact w_bind q)
def fOwn (ds : List D) (S : Sto) : Option (D × Sto) := some (.ref S.next, S.new (.lst ds))
theorem xo_own {ds : List D} {P : D → Sto → Prop} (hs : Hs S A) (h : ∀ l S', Hs S' ((l, .lst ds) :: A) → P (.ref l) S') : W (fOwn ds S) P := ⟨_, _, rfl, h _ _ (hs.new _)⟩
theorem xe_own {P : D → Sto → Prop} {a : EvL} (h : W (a ρ S) fun x S1 => W (fOwn x S1) P) : W (eOwn a ρ S) P := w_bind (h.mono fun _ _ q => q)
def fNew (c : Nat) (S : Sto) : Option (D × Sto) := some (.ref S.next, S.new (.ins c []))
theorem xo_new {c : Nat} {P : D → Sto → Prop} (hs : Hs S A) (h : ∀ l S', Hs S' ((l, .ins c []) :: A) → P (.ref l) S') : W (fNew c S) P := ⟨_, _, rfl, h _ _ (hs.new _)⟩
theorem xe_mk {c : Nat} {F : Fn} {el : EvL} {P : D → Sto → Prop} (h : W (el ρ S) fun ds S1 => W (fNew c S1) fun x S2 => W (F (x :: ds) S2) fun o S3 => o = .v .non ∧ P x S3) : W (eMk c F el ρ S) P := we_mk (h.mono fun ds S1 ⟨x, S2, e, q⟩ => by
  cases e
  exact q)
theorem xe_callO {F : Fn} {ds : List D} {P : D → Sto → Prop} (h : W (F ds S) fun o S1 => match o with | .v d => P d S1 | .f es => W (fOwn es S1) P) : W (callO F ds S) P := w_bind (h.mono fun o S1 q => by
  cases o with
  | v d => exact w_ret q
  | f es => exact q)
def fDisp (ks : List DK) (ds : List D) (S : Sto) : Option (D × Sto) := some (.ref S.next, S.new (.dic false (dmerge [] (ks.zip ds))))
theorem xo_disp {ks : List DK} {ds : List D} {kvs : List (DK × D)} {P : D → Sto → Prop} (hs : Hs S A) (e : dmerge [] (ks.zip ds) = kvs) (h : ∀ l S', Hs S' ((l, .dic false kvs) :: A) → P (.ref l) S') : W (fDisp ks ds S) P := by
  subst e
  exact ⟨_, _, rfl, h _ _ (hs.new _)⟩
theorem xe_disp {ks : List DK} {el : EvL} {P : D → Sto → Prop} (h : W (el ρ S) fun x S1 => W (fDisp ks x S1) P) : W (eDisp ks el ρ S) P := w_bind h
theorem xo_dget {lk : Bool} {kvs : List (DK × D)} {b d : D} {k : DK} {P : D → Sto → Prop} (hs : Hs S A) (m : (l, MO.dic lk kvs) ∈ A) (hk : keyD b = some k) (e : dget kvs k = some d) (h : P d S) : W (fDGet (.ref l) b S) P := by
  refine ⟨d, S, ?_, h⟩
  simp only [fDGet, hs.get m, hk, Option.bind_some, e, Option.map_some]
theorem xo_din {lk : Bool} {kvs : List (DK × D)} {b : D} {k : DK} {P : D → Sto → Prop} (hs : Hs S A) (m : (l, MO.dic lk kvs) ∈ A) (hk : keyD b = some k) (h : P (.bl (dget kvs k).isSome) S) : W (fDIn b (.ref l) S) P := by
  refine ⟨_, S, ?_, h⟩
  simp only [fDIn, hs.get m, hk, Option.map_some]
theorem xo_dnotin {lk : Bool} {kvs : List (DK × D)} {b : D} {k : DK} {P : D → Sto → Prop} (hs : Hs S A) (m : (l, MO.dic lk kvs) ∈ A) (hk : keyD b = some k) (h : P (.bl (!(dget kvs k).isSome)) S) : W (fDNotIn b (.ref l) S) P := by
  refine ⟨_, S, ?_, h⟩
  simp only [fDNotIn, hs.get m, hk, Option.map_some]
def pDPut (x y d : D) (S : Sto) : Option (Unit × Sto) := match x with
  | .ref l => match S.get l with
    | some (.dic false kvs) => if kvs.length < sizeLine then (keyD y).map fun k => ((), S.set l (.dic false (dput kvs k d))) else none
    | _ => none
  | _ => none
theorem pDPut_is {x y d : D} {S S3 : Sto} {u : Unit} (e : pDPut x y d S = some (u, S3)) : ∃ l kvs k, x = .ref l ∧ S.get l = some (.dic false kvs) ∧ kvs.length < sizeLine ∧ keyD y = some k ∧ S3 = S.set l (.dic false (dput kvs k d)) := by
  unfold pDPut at e
  split at e
  · split at e
    · split at e
      · rename_i g z
        obtain ⟨k, e1, e2⟩ := Option.map_eq_some_iff.mp e
        cases e2
        exact ⟨_, _, k, rfl, g, z, e1, rfl⟩
      · cases e
    · cases e
  · cases e
theorem xg_dput {eo ei : Ev} {d : D} {P : Rho → Sto → Prop} (h : W (eo ρ S) fun x S1 => W (ei ρ S1) fun y S2 => W (pDPut x y d S2) fun _ S3 => P ρ S3) : W (gDPut eo ei d ρ S) P := w_bind (h.mono fun x S1 q => w_bind (q.mono fun y S2 ⟨_, S3, e, p⟩ => by
  obtain ⟨l, kvs, k, rfl, g, z, e1, rfl⟩ := pDPut_is e
  refine ⟨ρ, _, ?_, p⟩
  simp only [g, e1, if_pos z, Option.map_some]))
theorem xo_dput {kvs kvs' : List (DK × D)} {y d : D} {k : DK} {P : Unit → Sto → Prop} (hs : Hs S A) (u : Ud A l (.dic false kvs) (.dic false kvs') A') (hk : keyD y = some k) (lz : kvs.length < 16777216) (e : dput kvs k d = kvs') (h : ∀ S', Hs S' A' → P () S') : W (pDPut (.ref l) y d S) P := by
  subst e
  refine ⟨(), _, ?_, h _ (hs.upd u)⟩
  simp only [pDPut, hs.get u.mem, hk, sizeLine_eq, if_pos lz, Option.map_some]
theorem Hs.lst {a : D} {ds : List D} (hs : Hs S A) (m : (l, MO.lst ds) ∈ A) : lstOf S (.ref l) = some ds := by
  simp only [lstOf, hs.get m]
theorem xo_ixR {ds : List D} {i : Int} {d : D} {P : D → Sto → Prop} (hs : Hs S A) (m : (l, MO.lst ds) ∈ A) (h0 : 0 ≤ i) (e : ds[i.toNat]? = some d) (h : P d S) : W (fIx (.ref l) (.int i) S) P := wo_ixR (hs.get m) h0 e h
theorem xo_lenR {ds : List D} {P : D → Sto → Prop} (hs : Hs S A) (m : (l, MO.lst ds) ∈ A) (h : P (.int ds.length) S) : W (fLen [.ref l] S) P := wo_lenR (hs.get m) h
theorem xo_slR {ds : List D} {lo hi : Option Int} {P : List D → Sto → Prop} (hs : Hs S A) (m : (l, MO.lst ds) ∈ A) (h : P (cutL ds lo hi) S) : W (fSlL (.ref l) lo hi S) P := wo_slR (hs.get m) h
theorem xo_listR {ds : List D} {P : List D → Sto → Prop} (hs : Hs S A) (m : (l, MO.lst ds) ∈ A) (h : P ds S) : W (fListOf [.ref l] S) P := wo_listR (hs.get m) h
theorem xo_append {ds : List D} {d : D} {P : D → Sto → Prop} (hs : Hs S A) (u : Ud A l (.lst ds) (.lst (ds ++ [d])) A') (lz : ds.length < 16777216) (h : ∀ S', Hs S' A' → P .non S') : W (fAppend (.ref l) [d] S) P := wo_append (hs.get u.mem) lz (h _ (hs.upd u))
theorem xo_clear {ds : List D} {P : D → Sto → Prop} (hs : Hs S A) (u : Ud A l (.lst ds) (.lst []) A') (h : ∀ S', Hs S' A' → P .non S') : W (fClear (.ref l) [] S) P := wo_clear (hs.get u.mem) (h _ (hs.upd u))
def isL (x : D) (S : Sto) : Option (Nat × Sto) := match x with
  | .ref l => match S.get l with
    | some (.lst _) => some (l, S)
    | _ => none
  | _ => none
theorem xo_isL {ds : List D} {P : Nat → Sto → Prop} (hs : Hs S A) (m : (l, MO.lst ds) ∈ A) (h : P l S) : W (isL (.ref l) S) P := by
  refine ⟨l, S, ?_, h⟩
  simp only [isL, hs.get m]
theorem isL_is {x : D} {S S1 : Sto} {l : Nat} (e : isL x S = some (l, S1)) : S1 = S ∧ x = .ref l ∧ ∃ ds, S.get l = some (.lst ds) := by
  unfold isL at e
  split at e
  · split at e
    · rename_i g
      cases e
      exact ⟨rfl, rfl, _, g⟩
    · cases e
  · cases e
theorem xe_bm {f : D → List D → Sto → Option (D × Sto)} {eo : Ev} {el : EvL} {P : D → Sto → Prop} (h : W (eo ρ S) fun x S1 => W (isL x S1) fun l S2 => W (el ρ S2) fun y S3 => W (f (.ref l) y S3) P) : W (eBM f eo el ρ S) P := we_bm (h.mono fun x S1 ⟨l, S2, e, q⟩ => by
  obtain ⟨rfl, rfl, ds, g⟩ := isL_is e
  exact ⟨_, _, rfl, g, q⟩)
def pSb (x y d : D) (S : Sto) : Option (Unit × Sto) := match x, y with
  | .ref l, .int i => match S.get l with
    | some (.lst ds) => (ixN ds.length i).bind fun j => some ((), S.set l (.lst (ds.set j d)))
    | _ => none
  | _, _ => none
theorem pSb_is {x y d : D} {S S3 : Sto} {u : Unit} (e : pSb x y d S = some (u, S3)) : ∃ l i ds j, x = .ref l ∧ y = .int i ∧ S.get l = some (.lst ds) ∧ ixN ds.length i = some j ∧ S3 = S.set l (.lst (ds.set j d)) := by
  unfold pSb at e
  split at e
  · split at e
    · rename_i g
      obtain ⟨j, e1, e2⟩ := Option.bind_eq_some_iff.mp e
      cases e2
      exact ⟨_, _, _, j, rfl, rfl, g, e1, rfl⟩
    · cases e
  · cases e
theorem xg_sb {eo ei : Ev} {d : D} {P : Rho → Sto → Prop} (h : W (eo ρ S) fun x S1 => W (ei ρ S1) fun y S2 => W (pSb x y d S2) fun _ S3 => P ρ S3) : W (gSb eo ei d ρ S) P := w_bind (h.mono fun x S1 q => w_bind (q.mono fun y S2 ⟨_, S3, e, p⟩ => by
  obtain ⟨l, i, ds, j, rfl, rfl, g, e1, rfl⟩ := pSb_is e
  refine ⟨ρ, _, ?_, p⟩
  simp only [g, e1, Option.bind_some]))
/-- a cut between two statements -/
theorem xs_cut {a b : EvS} (M : Rho → Sto → Prop) (h : WS (a ρ S) fun f ρ S => f = .nx ∧ M ρ S) (k : ∀ ρ S, M ρ S → WS (b ρ S) Q) : WS (sSeq a b ρ S) Q := ws_seq (h.mono fun f ρ S ⟨e, m⟩ => by
  subst e
  exact k ρ S m)
end
end AH
set_option maxRecDepth 100000
set_option maxHeartbeats 4000000
namespace AH
open PySem L2 TL
open Classical in
theorem perm_cnt {A B : Hm} (h : ∀ a, A.count a = B.count a) : A.Perm B := List.perm_iff_count.mpr h
structure BoxG (l m : Nat) where
  q : Int
  xs : List Int
  h : xs.length ≤ 63
  lt : m < l
abbrev bxA (l m : Nat) (g : BoxG l m) (A : Hm) : Hm := (l, .lst [.ref m, .int g.q]) :: (m, .lst (g.xs.map .int)) :: A
section
variable {S : Sto} {l m : Nat} {g : BoxG l m} {A A' : Hm}
theorem Hs.box (hs : Hs S (bxA l m g A)) : Box S l m := by
  exact ⟨g.lt, ⟨_, hs.get (List.mem_cons_self ..)⟩, ⟨_, hs.get (List.mem_cons_of_mem _ (List.mem_cons_self ..)), g.h⟩, hs.lt (l, MO.lst [.ref m, .int g.q]) (List.mem_cons_self ..)⟩
theorem Hs.putB {p : Nat × MO} (h : Hs S (p :: bxA l m g A)) : Hs S (bxA l m g (p :: A)) := h.perm ((List.Perm.swap _ _ _).trans (List.Perm.cons _ (List.Perm.swap _ _ _)))
theorem xo_ownB {ds : List D} {P : D → Sto → Prop} (hs : Hs S (bxA l m g A)) (h : ∀ l' S', Hs S' (bxA l m g ((l', .lst ds) :: A)) → P (.ref l') S') : W (fOwn ds S) P := ⟨_, _, rfl, h _ _ (hs.new _).putB⟩
theorem xo_newB {c : Nat} {P : D → Sto → Prop} (hs : Hs S (bxA l m g A)) (h : ∀ l' S', Hs S' (bxA l m g ((l', .ins c []) :: A)) → P (.ref l') S') : W (fNew c S) P := ⟨_, _, rfl, h _ _ (hs.new _).putB⟩
theorem xo_newK {P : D → Sto → Prop} (hs : Hs S A) (h : ∀ l' S', Hs S' ((l', .dic false []) :: A) → P (.ref l') S') : W (fNewK S) P := ⟨_, _, rfl, h _ _ (hs.new _)⟩
theorem xo_newKB {P : D → Sto → Prop} (hs : Hs S (bxA l m g A)) (h : ∀ l' S', Hs S' (bxA l m g ((l', .dic false []) :: A)) → P (.ref l') S') : W (fNewK S) P := ⟨_, _, rfl, h _ _ (hs.new _).putB⟩
theorem xo_newT {P : D → Sto → Prop} (hs : Hs S A) (h : ∀ l' S', Hs S' ((l', .dit false []) :: A) → P (.ref l') S') : W (fNewT S) P := ⟨_, _, rfl, h _ _ (hs.new _)⟩
theorem xo_newTB {P : D → Sto → Prop} (hs : Hs S (bxA l m g A)) (h : ∀ l' S', Hs S' (bxA l m g ((l', .dit false []) :: A)) → P (.ref l') S') : W (fNewT S) P := ⟨_, _, rfl, h _ _ (hs.new _).putB⟩
theorem xe_newK {ρ : Rho} {P : D → Sto → Prop} (h : W (fNewK S) P) : W (eNewK ρ S) P := h
theorem xe_newT {ρ : Rho} {P : D → Sto → Prop} (h : W (fNewT S) P) : W (eNewT ρ S) P := h
theorem Pc.hs {l : Nat} {p p' : PV} {S S' : Sto} (c : Pc l p' S S') (hs : Hs S A) (u : Ud A l (.ins 0 (paneD p)) (.ins 0 (paneD p')) A') : Hs S' A' := by
  obtain ⟨X, Y, rfl, rfl⟩ := u.out
  exact hs.fr1 (by rw [c.nx]; exact Nat.le_refl _) c.at_ fun k hk _ => c.fr k hk
theorem rows_w {p : PV} (hs : Hs S A) (u : (l, MO.ins 0 (paneD p)) ∈ A) : W (F_Pane_rows [.ref l] S) fun o S' => o = .f (p.kept.map .str) ∧ S' = S := rows_ok (hs.get u)
inductive AkL (S : Sto) (n : Nat) : List D → List D → Prop
  | nil : AkL S n [] []
  | cons {a b : D} {as bs : List D} : Ak S n a b → AkL S n as bs → AkL S n (a :: as) (b :: bs)
theorem AkL.len {n : Nat} {as bs : List D} (h : AkL S n as bs) : as.length = bs.length := by
  induction h with
  | nil => rfl
  | cons _ _ ih => simp [ih]
theorem AkL.at {n : Nat} {as bs : List D} (h : AkL S n as bs) : ∀ (i : Nat) a b, as[i]? = some a → bs[i]? = some b → Ak S n a b := by
  induction h with
  | nil => intro i a b h; simp at h
  | cons h _ ih =>
    intro i x y h1 h2
    cases i with
    | zero => simp at h1 h2; rw [← h1, ← h2]; exact h
    | succ i => exact ih i x y (by simpa using h1) (by simpa using h2)
theorem AkL.map {α : Type} {n : Nat} {f : α → D} {xs : List α} (h : ∀ x ∈ xs, Ak S n (f x) (f x)) : AkL S n (xs.map f) (xs.map f) := by
  induction xs with
  | nil => exact .nil
  | cons x xs ih => exact .cons (h x (List.mem_cons_self ..)) (ih fun y hy => h y (List.mem_cons_of_mem _ hy))
theorem xl_lc {ρ : Rho} {it : EvL} {vs : List Nat} {g : EvP} {t : EvT} {e : Ev} {P : List D → Sto → Prop} (h : W (it ρ S) fun all S1 => W (lcC g t e (wipeR ρ vs) all S1) fun r S2 => r.length ≤ 16777216 ∧ P r S2) : W (fLc it vs g t e ρ S) P :=
  w_bind (h.mono fun all S1 ⟨r, S2, e1, l, p⟩ => ⟨r, S2, by
    dsimp only
    rw [e1]
    exact if_pos (by rw [sizeLine_eq]; exact l), p⟩)
theorem xl_nil {ρ : Rho} {g : EvP} {t : EvT} {e : Ev} {P : List D → Sto → Prop} (h : P [] S) : W (lcC g t e ρ [] S) P := ⟨_, _, rfl, h⟩
theorem xl_cons {ρ ρ1 : Rho} {g : EvP} {t : EvT} {e : Ev} {d : D} {ds : List D} {P : List D → Sto → Prop} (eg : g d ρ = some ρ1) (h : W (t ρ1 S) fun c S1 => Br c (W (e ρ1 S1) fun x S2 => W (lcC g t e ρ ds S2) fun r S3 => P (x :: r) S3) (W (lcC g t e ρ ds S1) P)) : W (lcC g t e ρ (d :: ds) S) P := by
  unfold lcC
  rw [eg]
  refine w_bind (h.mono fun c S1 q => ?_)
  cases c with
  | true => exact w_bind ((q.1 rfl).mono fun x S2 q => w_bind (q.mono fun r S3 q => w_ret q))
  | false => exact q.2 rfl
/-- each item by a function, nothing is changed -/
theorem xl_map {α : Type} {ρ : Rho} {g : EvP} {e : Ev} {f F : α → D} {P : List D → Sto → Prop} : ∀ {xs : List α}, (∀ x ∈ xs, ∃ ρ1, g (f x) ρ = some ρ1 ∧ W (e ρ1 S) fun y S' => y = F x ∧ S' = S) → P (xs.map F) S → W (lcC g tYesE e ρ (xs.map f) S) P
  | [], _, p => xl_nil p
  | x :: xs, h, p => by
    obtain ⟨ρ1, e1, h1⟩ := h x (List.mem_cons_self ..)
    refine xl_cons e1 (wt_yes (Br.t (h1.mono fun y S' ⟨ey, es⟩ => ?_)))
    rw [ey, es]
    exact xl_map (fun y hy => h y (List.mem_cons_of_mem _ hy)) p
theorem xf_nil {ρ : Rho} {g : EvG} {b : EvS} {Q : PS} (h : Q .nx ρ S) : WS (forL g b [] ρ S) Q := ⟨_, _, _, rfl, h⟩
end
end AH
set_option maxRecDepth 100000
set_option maxHeartbeats 4000000
namespace AH
open PySem L2 TL
noncomputable section
def b__law_signs : EvS := (sSeq (sAsg (eC (.str [])) (gNm 1))
  (sSeq (sFor (iR1 (aCons (eN (callE AH.F_take) (aCons (eVar 0) (aCons (e2 fIx (eV (fLst (aCons (eC (.int 2)) (aCons (eC (.int 5)) aNil)))) (eN (callE AH.F_take) (aCons (eVar 0) (aCons (eC (.int 2)) aNil)))) aNil))) aNil)) (gNm 2) (sSeq (sAsg (eN (callE AH.F_take) (aCons (eVar 0) (aCons (eC (.int 8)) aNil))) (gNm 3))
  (sSeq (sAsg (eC (.str [97, 98, 99, 100, 101, 102, 103, 104, 105, 106, 107, 108, 109, 110, 111, 112, 113, 114, 115, 116, 117, 118, 119, 120, 121, 122, 48, 49, 50, 51, 52, 53, 54, 55, 56, 57, 32])) (gNm 4))
  (sSeq (sAsg (eM1 fJoin (eC (.str [])) (eV (fLc (iR1 (aCons (eN (callE AH.F_take) (aCons (eVar 0) (aCons (e2 fIx (eV (fLst (aCons (eC (.int 4)) (aCons (eC (.int 12)) (aCons (eC (.int 40)) aNil))))) (eN (callE AH.F_take) (aCons (eVar 0) (aCons (eC (.int 3)) aNil)))) aNil))) aNil)) [6] (pNm 6) tYesE (e2 fIx (eVar 4) (eN (callE AH.F_take) (aCons (eVar 0) (aCons (eC (.int 37)) aNil))))))) (gNm 5))
  (sSeq (sAsg (e2 fIx (eV (fLst (aCons (eC (.str [])) (aCons (eC (.str [])) (aCons (eC (.str [48])) aNil))))) (eN (callE AH.F_take) (aCons (eVar 0) (aCons (eC (.int 3)) aNil)))) (gNm 7))
  (sSeq (sAsg (e2 fAdd (eVar 7) (eN fStr (aCons (e2 fIx (eV (fLst (aCons (eN (callE AH.F_take) (aCons (eVar 0) (aCons (eC (.int 10)) aNil))) (aCons (eN (callE AH.F_take) (aCons (eVar 0) (aCons (eC (.int 111)) aNil))) aNil)))) (eN (callE AH.F_take) (aCons (eVar 0) (aCons (eC (.int 2)) aNil)))) aNil))) (gNm 7))
  (sSeq (sAcc 8 (fLst (aCons (e2 fAdd (eC (.str [115, 97, 121, 32])) (eVar 5)) (aCons (e2 fAdd (eC (.str [109, 97, 110, 121, 32])) (eVar 7)) (aCons (eC (.str [115, 116, 111, 112])) (aCons (eC (.str [99, 108, 101, 97, 114])) (aCons (eVar 5) (aCons (e2 fAdd (eVar 5) (e2 fMul (eC (.str [60])) (eN (callE AH.F_take) (aCons (eVar 0) (aCons (eC (.int 5)) aNil))))) (aCons (eC (.str [60])) aNil)))))))))
  (sSeq (sApp 8 (e2 fAdd (eC (.str [115, 97, 121, 32])) (eVar 7)))
  (sFrz 8 (sAsg (e2 fAdd (e2 fAdd (eVar 1) (e2 fIx (eVar 8) (eVar 3))) (e2 fMul (eC (.str [59])) (eN fInt (aCons (e2 fGt (eN (callE AH.F_take) (aCons (eVar 0) (aCons (eC (.int 5)) aNil))) (eC (.int 0))) aNil)))) (gNm 1)))))))))))
  (sRet (eVar 1))))
def F__law_signs : Fn := runB 1 9 b__law_signs
def b__law_step : EvS := (sSeq (sAsg (eN (callE AH.F_take) (aCons (eVar 0) (aCons (eC (.int 14)) aNil))) (gNm 3))
  (sSeq (sAsg (e2 fIx (eV (fLst (aCons (eC (.int 0)) (aCons (eN (callE AH.F_take) (aCons (eVar 0) (aCons (eC (.int 6)) aNil))) (aCons (eN (callE AH.F_take) (aCons (eVar 0) (aCons (eC (.int 40)) aNil))) aNil))))) (eN (callE AH.F_take) (aCons (eVar 0) (aCons (eC (.int 3)) aNil)))) (gNm 4))
  (sSeq (sIf (tOrE (tOf (e2 fLt (eVar 3) (eC (.int 2)))) (tOf (e2 fEq (eVar 2) (eV (fLst aNil))))) (sRet (eTup (aCons (eC (.str [99, 111, 109, 101])) (aCons (eN (callE AH.F_take) (aCons (eVar 0) (aCons (eC (.int 4)) aNil))) (aCons (eN (callE AH.F_take) (aCons (eVar 0) (aCons (eVar 1) aNil))) (aCons (e2 fAdd (eC (.int 2)) (eN (callE AH.F_take) (aCons (eVar 0) (aCons (eC (.int 39)) aNil)))) (aCons (e2 fAdd (eC (.int 1)) (eN (callE AH.F_take) (aCons (eVar 0) (aCons (eC (.int 20)) aNil)))) aNil))))))) sNext)
  (sSeq (sAsg (e2 fIx (eVar 2) (eN (callE AH.F_take) (aCons (eVar 0) (aCons (eN fLen (aCons (eVar 2) aNil)) aNil)))) (gNm 5))
  (sSeq (sIf (tOf (e2 fLt (eVar 3) (eC (.int 5)))) (sRet (eTup (aCons (eC (.str [112, 114, 101, 115, 115])) (aCons (eVar 5) (aCons (e3 fSl (eN (callE AH.F__law_signs) (aCons (eVar 0) aNil)) oNone (oSome (eC (.int 12)))) aNil))))) sNext)
  (sSeq (sAsg (eV (fLst (aCons (eTup (aCons (eC (.str [115, 105, 122, 101])) (aCons (eVar 5) (aCons (e2 fAdd (eC (.int 2)) (eN (callE AH.F_take) (aCons (eVar 0) (aCons (eC (.int 39)) aNil)))) (aCons (e2 fAdd (eC (.int 1)) (eN (callE AH.F_take) (aCons (eVar 0) (aCons (eC (.int 20)) aNil)))) aNil))))) (aCons (eTup (aCons (eC (.str [98, 101, 97, 116])) aNil)) (aCons (eTup (aCons (eC (.str [98, 101, 97, 116])) aNil)) (aCons (eTup (aCons (eC (.str [115, 101, 110, 100])) aNil)) (aCons (eTup (aCons (eC (.str [115, 101, 110, 100])) aNil)) aNil))))))) (gNm 6))
  (sSeq (sAsg (eV (e2 fCat (eVar 6) (eV (fLst (aCons (eTup (aCons (eC (.str [99, 97, 114, 114, 121])) (aCons (eVar 4) aNil))) (aCons (eTup (aCons (eC (.str [108, 111, 115, 101])) (aCons (eVar 4) aNil))) (aCons (eTup (aCons (eC (.str [116, 119, 105, 99, 101])) (aCons (eVar 4) aNil))) (aCons (eTup (aCons (eC (.str [99, 117, 116])) (aCons (eVar 4) (aCons (eN (callE AH.F_take) (aCons (eVar 0) (aCons (eC (.int 60)) aNil))) aNil)))) aNil)))))))) (gNm 6))
  (sRet (e2 fIx (eVar 6) (e2 fSub (eVar 3) (eC (.int 5))))))))))))
def F__law_step : Fn := runB 3 7 b__law_step
end
end AH
set_option maxRecDepth 100000
set_option maxHeartbeats 4000000
namespace AH
open PySem L2 TL
end AH
set_option maxRecDepth 100000
set_option maxHeartbeats 4000000
namespace AH
open PySem L2 TL
structure OL where
  d : Nat
  p : Nat
  a : Nat
  t : Nat
structure OV where
  rows : List (List Nat)
  line : List Nat
  job : Option (Nat × Nat)
  past : List (List Nat × List Nat)
  all : List (List (List Nat) × List Nat)
  typed : List D
def OV.chg (v : OV) (w t : List Nat) : OV := { v with rows := (ap (v.rows, v.line) (w, t)).1, line := (ap (v.rows, v.line) (w, t)).2, past := v.past ++ [(w, t)], all := v.all ++ [ap (v.rows, v.line) (w, t)] }
section
variable {S : Sto} {X Y A : Hm} {L : OL} {v : OV} {w t : List Nat}
def lmanyV (line : List Nat) : Nat := (countV line).getD 0
end
end AH
set_option maxRecDepth 100000
set_option maxHeartbeats 4000000
namespace AH
open PySem L2 TL
def OV.row (v : OV) (line : List Nat) : OV := v.chg wRow ([62, 32] ++ line)
def OV.doL (v : OV) (line : List Nat) : OV :=
  let v1 := v.chg wRow ([62, 32] ++ line)
  let v2 := if line = [] then v1 else v1.chg wLine []
  if line = wClear then v2.chg wClear [] else if line = wStop ∧ v2.job ≠ none then { v2 with job := none } else if 0 < lmanyV line then { v2 with job := some (0, lmanyV line) } else if line = [] then v2 else v2.chg wRow (if line.take 4 = say4 then line.drop 4 else [63, 32] ++ line)
def OV.pt (v : OV) (c : Nat) : OV := if c = 59 then v.doL v.line else if c = 60 then (if v.line = [] then v else v.chg wLine (v.line.take (v.line.length - 1))) else if v.line.length < 30 then v.chg wLine (v.line ++ [c]) else v
/-- what is always so of it; N: how much came at most -/
structure Og (v : OV) (N : Nat) : Prop where
  r1 : v.rows.length ≤ 40
  r2 : ∀ z ∈ v.rows, z.length ≤ 60 ∧ okS z
  l1 : v.line.length ≤ 30
  l2 : ∀ c ∈ v.line, c < 128
  j1 : ∀ a b, v.job = some (a, b) → a < b ∧ b ≤ 99
  pl : v.past.length ≤ N
  al : v.all.length = v.past.length + 1
theorem Og.chg {v : OV} {N : Nat} (g : Og v N) {w t : List Nat} (h1 : t.length ≤ 60 ∧ ∀ c ∈ t, c < 128) (h2 : w = wLine → t.length ≤ 30) : Og (v.chg w t) (N + 1) := by
  refine ⟨ap_len g.r1, fun z hz => ?_, ?_, ?_, g.j1, ?_, ?_⟩
  · have hz : z ∈ (ap (v.rows, v.line) (w, t)).1 := hz
    unfold ap at hz
    split at hz
    · exact g.r2 z hz
    · split at hz
      · cases hz
      · rcases List.mem_append.mp (lastN_mem hz) with q | q
        · exact g.r2 z q
        · rw [List.mem_singleton] at q
          rw [q]
          exact ⟨h1.1, okS_lt h1.2⟩
  · show (ap (v.rows, v.line) (w, t)).2.length ≤ 30
    unfold ap
    split
    · rename_i e
      exact h2 e
    · split <;> exact g.l1
  · show ∀ c ∈ (ap (v.rows, v.line) (w, t)).2, c < 128
    unfold ap
    split
    · exact h1.2
    · split <;> exact g.l2
  · show (v.past ++ [(w, t)]).length ≤ N + 1
    have := g.pl
    simp
    omega
  · show (v.all ++ [_]).length = (v.past ++ [(w, t)]).length + 1
    have := g.al
    simp
    omega
theorem Og.mono {v : OV} {N M : Nat} (g : Og v N) (h : N ≤ M) : Og v M := ⟨g.r1, g.r2, g.l1, g.l2, g.j1, Nat.le_trans g.pl h, g.al⟩
theorem Og.row {v : OV} {N : Nat} (g : Og v N) {t : List Nat} (h1 : t.length ≤ 60 ∧ ∀ c ∈ t, c < 128) : Og (v.chg wRow t) (N + 1) := g.chg h1 fun e => absurd e (by decide)
section
variable {S : Sto} {X Y A : Hm} {L : OL} {v : OV}
structure Cp (p : PV) (v : OV) : Prop where
  kept : p.kept = v.rows
  text : p.text = v.line
  work : p.work = v.job
  many : p.many = v.past.length
  past : p.past = lastN 30 v.past
  notes : p.notes = lastN 100 v.typed
theorem Cp.chg {p : PV} {v : OV} (c : Cp p v) (w t : List Nat) : Cp (chg p w t) (v.chg w t) := by
  refine ⟨?_, ?_, c.work, ?_, ?_, c.notes⟩
  · show (ap (p.kept, p.text) (w, t)).1 = _
    rw [c.kept, c.text]
    rfl
  · show (ap (p.kept, p.text) (w, t)).2 = _
    rw [c.kept, c.text]
    rfl
  · show p.many + 1 = (v.past ++ [(w, t)]).length
    rw [c.many]
    simp
  · show lastN 30 (p.past ++ [(w, t)]) = lastN 30 (v.past ++ [(w, t)])
    rw [c.past, lastN_snoc (by omega)]
theorem Cp.job {p : PV} {v : OV} (c : Cp p v) (j : Option (Nat × Nat)) : Cp { p with work := j } { v with job := j } := ⟨c.kept, c.text, rfl, c.many, c.past, c.notes⟩
/-- the states told behind each change -/
structure Oh (v : OV) : Prop where
  now : (v.rows, v.line) = v.past.foldl ap ([], [])
  all : ∀ k, k ≤ v.past.length → v.all[k]? = some ((v.past.take k).foldl ap ([], []))
  len : v.all.length = v.past.length + 1
theorem Oh.chg {v : OV} (h : Oh v) (w t : List Nat) : Oh (v.chg w t) := by
  have e : (v.past ++ [(w, t)]).foldl ap ([], []) = ap (v.rows, v.line) (w, t) := by
    rw [List.foldl_append, ← h.now]
    rfl
  refine ⟨?_, fun k hk => ?_, ?_⟩
  · show _ = (v.past ++ [(w, t)]).foldl ap ([], [])
    rw [e]
    rfl
  · have hk : k ≤ (v.past ++ [(w, t)]).length := hk
    rw [List.length_append, List.length_singleton] at hk
    show (v.all ++ [ap (v.rows, v.line) (w, t)])[k]? = some (((v.past ++ [(w, t)]).take k).foldl ap ([], []))
    by_cases q : k ≤ v.past.length
    · rw [List.getElem?_append_left (by rw [h.len]; omega), h.all k q, List.take_append_of_le_length q]
    · have ek : k = v.past.length + 1 := by omega
      subst ek
      rw [List.getElem?_append_right (by rw [h.len]; omega), h.len, List.take_of_length_le (by simp), e]
      simp
  · show (v.all ++ [_]).length = (v.past ++ [_]).length + 1
    rw [List.length_append, List.length_append, h.len]
    rfl
theorem Oh.job {v : OV} (h : Oh v) (j : Option (Nat × Nat)) : Oh { v with job := j } := ⟨h.now, h.all, h.len⟩
end
end AH
set_option maxRecDepth 100000
set_option maxHeartbeats 4000000
namespace AH
open PySem L2 TL
def wAt : List Nat := [97, 116]
def wGone : List Nat := [103, 111, 110, 101]
def wSome : List Nat := [115, 111, 109, 101]
def wWhole : List Nat := [119, 104, 111, 108, 101]
/-- of a look -/
inductive LM where
  | at (n s p : Nat) (k : Option Nat) (f : Nat) (z : List Nat)
  | gone (n s p : Nat)
/-- of the hall -/
inductive HM where
  | whole (n s d v : Nat) (line : List Nat) (rows : List (List Nat))
  | some (n s d k : Nat) (cs : List (List Nat × List Nat))
def HM.n : HM → Nat
  | .whole n _ _ _ _ _ => n
  | .some n _ _ _ _ => n
def HM.s : HM → Nat
  | .whole _ s _ _ _ _ => s
  | .some _ s _ _ _ => s
def HM.d : HM → Nat
  | .whole _ _ d _ _ _ => d
  | .some _ _ d _ _ => d
def HM.k : HM → Nat
  | .whole _ _ _ k _ _ => k
  | .some _ _ _ k _ => k
def nkF : Option Nat → List Nat
  | none => [63]
  | some k => numL k
def lmF : LM → List (List Nat)
  | .at n s p k f z => [wAt, numL n, numL s, numL p, nkF k, numL f, z]
  | .gone n s p => [wGone, numL n, numL s, numL p]
def csF (cs : List (List Nat × List Nat)) : List (List Nat) := cs.flatMap fun q => [q.1, q.2]
def hmF : HM → List (List Nat)
  | .whole n s d v line rows => [wWhole, numL n, numL s, numL d, numL v, line] ++ rows
  | .some n s d k cs => [wSome, numL n, numL s, numL d, numL k] ++ csF cs
def lmT (m : LM) : List Nat := packV (lmF m)
def hmT (m : HM) : List Nat := packV (hmF m)
abbrev mil : Nat := 1000000
def tx (n : Nat) (z : List Nat) : Prop := z.length ≤ n ∧ ∀ c ∈ z, c ∈ sg
def LMok : LM → Prop
  | .at n s p k f z => n < mil ∧ s < mil ∧ p < mil ∧ (∀ x, k = some x → x < mil) ∧ f < mil ∧ z.length ≤ 20 ∧ ∀ c ∈ z, c ∈ an
  | .gone n s p => n < mil ∧ s < mil ∧ p < mil
def HMok : HM → Prop
  | .whole n s d v line rows => n < mil ∧ s < mil ∧ d < mil ∧ v < mil ∧ tx 60 line ∧ rows.length ≤ 40 ∧ ∀ z ∈ rows, tx 60 z
  | .some n s d k cs => n < mil ∧ s < mil ∧ d < mil ∧ k < mil ∧ cs.length ≤ 8 ∧ ∀ q ∈ cs, tx 60 q.1 ∧ tx 60 q.2
theorem an_sg : ∀ c ∈ an, c ∈ sg := by decide
theorem dg_sg : ∀ c ∈ dg, c ∈ sg := by decide
theorem num_sg {n c : Nat} (h : c ∈ numL n) : c ∈ sg := dg_sg c (numL_dg h)
theorem num_tx {n : Nat} (h : n < mil) : tx 60 (numL n) := ⟨Nat.le_trans (numL_le (k := 6) (by decide) h) (by decide), fun c hc => num_sg hc⟩
theorem fs_of {fs : List (List Nat)} {n : Nat} (h0 : fs ≠ []) (h : ∀ z ∈ fs, tx 60 z) (hn : fs.length ≤ n) : Fs fs (61 * n) := by
  refine ⟨h0, fun z hz => (h z hz).2, ?_⟩
  have : ∀ gs : List (List Nat), (∀ z ∈ gs, tx 60 z) → (gs.map (·.length)).sum + gs.length ≤ 61 * gs.length := fun gs => by
    induction gs with
    | nil => intro _; simp
    | cons g gs ih =>
      intro hg
      have h1 := (hg g (List.mem_cons_self ..)).1
      have h2 := ih fun z hz => hg z (List.mem_cons_of_mem _ hz)
      simp only [List.map_cons, List.sum_cons, List.length_cons]
      omega
  have := this fs h
  omega
theorem lm_tx {m : LM} (h : LMok m) : ∀ z ∈ lmF m, tx 60 z := by
  cases m with
  | «at» n s p k f z =>
    obtain ⟨h1, h2, h3, h4, h5, h6, h7⟩ := h
    have hk : tx 60 (nkF k) := by
      cases k with
      | none => exact ⟨by decide, by decide⟩
      | some x => exact num_tx (h4 x rfl)
    intro y hy
    simp only [lmF, List.mem_cons, List.not_mem_nil, or_false] at hy
    rcases hy with rfl | rfl | rfl | rfl | rfl | rfl | rfl
    · exact ⟨by decide, by decide⟩
    · exact num_tx h1
    · exact num_tx h2
    · exact num_tx h3
    · exact hk
    · exact num_tx h5
    · exact ⟨by omega, fun c hc => an_sg c (h7 c hc)⟩
  | gone n s p =>
    obtain ⟨h1, h2, h3⟩ := h
    intro y hy
    simp only [lmF, List.mem_cons, List.not_mem_nil, or_false] at hy
    rcases hy with rfl | rfl | rfl | rfl
    · exact ⟨by decide, by decide⟩
    · exact num_tx h1
    · exact num_tx h2
    · exact num_tx h3
theorem lm_fs {m : LM} (h : LMok m) : Fs (lmF m) 3000 := (fs_of (n := 7) (by cases m <;> simp [lmF]) (lm_tx h) (by cases m <;> simp [lmF])).mono (by decide)
theorem cs_len {cs : List (List Nat × List Nat)} : (csF cs).length = 2 * cs.length := by
  unfold csF
  induction cs with
  | nil => rfl
  | cons q qs ih =>
    rw [List.flatMap_cons, List.length_append, ih]
    simp
    omega
theorem hm_tx {m : HM} (h : HMok m) : ∀ z ∈ hmF m, tx 60 z := by
  cases m with
  | whole n s d v line rows =>
    obtain ⟨h1, h2, h3, h4, h5, h6, h7⟩ := h
    intro y hy
    rcases List.mem_append.mp hy with hy | hy
    · simp only [List.mem_cons, List.not_mem_nil, or_false] at hy
      rcases hy with rfl | rfl | rfl | rfl | rfl | rfl
      · exact ⟨by decide, by decide⟩
      · exact num_tx h1
      · exact num_tx h2
      · exact num_tx h3
      · exact num_tx h4
      · exact h5
    · exact h7 y hy
  | some n s d k cs =>
    obtain ⟨h1, h2, h3, h4, h5, h6⟩ := h
    intro y hy
    rcases List.mem_append.mp hy with hy | hy
    · simp only [List.mem_cons, List.not_mem_nil, or_false] at hy
      rcases hy with rfl | rfl | rfl | rfl | rfl
      · exact ⟨by decide, by decide⟩
      · exact num_tx h1
      · exact num_tx h2
      · exact num_tx h3
      · exact num_tx h4
    · unfold csF at hy
      obtain ⟨q, hq, hy⟩ := List.mem_flatMap.mp hy
      simp only [List.mem_cons, List.not_mem_nil, or_false] at hy
      rcases hy with rfl | rfl
      · exact (h6 q hq).1
      · exact (h6 q hq).2
theorem hm_fs {m : HM} (h : HMok m) : Fs (hmF m) 3000 := (fs_of (n := 46) (by cases m <;> simp [hmF]) (hm_tx h) (by
  cases m with
  | whole n s d v line rows =>
    have := h.2.2.2.2.2.1
    simp [hmF]
    omega
  | some n s d k cs =>
    have := h.2.2.2.2.1
    simp [hmF, cs_len]
    omega)).mono (by decide)
theorem lm_len {m : LM} (h : LMok m) : (lmT m).length ≤ 3015 := packV_len (lm_fs h) (by decide)
theorem hm_len {m : HM} (h : HMok m) : (hmT m).length ≤ 3015 := packV_len (hm_fs h) (by decide)
/-- a text on the road to the hall, to a look: a letter, or one that was cut off -/
def LT (t : List Nat) : Prop := t.length ≤ 4000 ∧ okS t ∧ (unpackV t = none ∨ ∃ m, LMok m ∧ t = lmT m)
def HT' (t : List Nat) : Prop := t.length ≤ 4000 ∧ okS t ∧ (unpackV t = none ∨ ∃ m, HMok m ∧ t = hmT m)
theorem LT.of {m : LM} (h : LMok m) : LT (lmT m) := ⟨Nat.le_trans (lm_len h) (by decide), packV_okS (lm_fs h), .inr ⟨m, h, rfl⟩⟩
theorem HT'.of {m : HM} (h : HMok m) : HT' (hmT m) := ⟨Nat.le_trans (hm_len h) (by decide), packV_okS (hm_fs h), .inr ⟨m, h, rfl⟩⟩
theorem LT.cut {t : List Nat} (h : LT t) {e : Nat} (he : e < t.length) : unpackV (t.take e) = none ∨ unpackV t = none := by
  obtain ⟨_, _, h | ⟨m, h, rfl⟩⟩ := h
  · exact .inr h
  · exact .inl (unpack_cut (lm_fs h) he)
end AH
set_option maxRecDepth 100000
set_option maxHeartbeats 4000000
namespace AH
open PySem L2 TL
structure LV where
  n : Nat
  s : Nat
  p : Nat
  w : Nat
  h : Nat
  kept : List (List Nat)
  text : List Nat
  ver : Option Nat
  first : Nat
  signs : List Nat
  gone : Bool
  past : Bool
def LV.new (n s p w h : Nat) : LV := ⟨n, s, p, w, h, [], [], none, 0, [], false, false⟩
def LV.tk (v : LV) (k : Nat) : List (List Nat × List Nat) → LV
  | [] => v
  | q :: r => LV.tk (if v.ver = some k then { v with kept := (ap (v.kept, v.text) q).1, text := (ap (v.kept, v.text) q).2, ver := some (k + 1) } else v) (k + 1) r
def LV.whole (v : LV) (k : Nat) (line : List Nat) (rows : List (List Nat)) : LV := if ∀ x, v.ver = some x → x < k then { v with ver := some k, text := line, kept := rows } else v
def LV.fin (v : LV) : HM → LV
  | .whole _ _ _ k line rows => v.whole k line rows
  | .some _ _ _ k cs => v.tk k cs
end AH
set_option maxRecDepth 100000
set_option maxHeartbeats 4000000
namespace AH
open PySem L2 TL
end AH
set_option maxRecDepth 100000
set_option maxHeartbeats 4000000
namespace AH
open PySem L2 TL
end AH
set_option maxRecDepth 100000
set_option maxHeartbeats 4000000
namespace AH
open PySem L2 TL
structure SV where
  s : Nat
  p : Nat
  d : Nat
  k : Option Nat
  here : Bool
structure Sh where
  n : Nat
  l : Nat
  v : SV
structure HP where
  ps : List PV
  ss : List (Nat × SV)
structure HV where
  lh : Nat
  ls : Nat
  ps : List (Nat × PV)
  ss : List Sh
def sget (n : Nat) : List (Nat × SV) → Option SV
  | [] => none
  | q :: r => if q.1 = n then some q.2 else sget n r
def sput (n : Nat) (v : SV) : List (Nat × SV) → List (Nat × SV)
  | [] => [(n, v)]
  | q :: r => if q.1 = n then (n, v) :: r else q :: sput n v r
def srt (ns : List Nat) : List Nat := ns.mergeSort fun a b => decide (a ≤ b)
/-- who is there, by names -/
def HP.names (h : HP) : List Nat := srt (h.ss.map (·.1))
def p0 : PV := ⟨[], [], none, 0, [], []⟩
structure HP.ok (h : HP) : Prop where
  p1 : 1 ≤ h.ps.length ∧ h.ps.length ≤ 3
  pg : ∀ p ∈ h.ps, Pg p
  nd : (h.ss.map (·.1)).Nodup
  n3 : ∀ q ∈ h.ss, q.1 ≤ 3
  sp : ∀ q ∈ h.ss, q.2.p < h.ps.length
theorem nodup_lt : ∀ (k : Nat) {ns : List Nat}, ns.Nodup → (∀ n ∈ ns, n < k) → ns.length ≤ k
  | 0, [], _, _ => Nat.le_refl _
  | 0, n :: ns, _, b => absurd (b n List.mem_cons_self) (Nat.not_lt_zero _)
  | k + 1, ns, h, b => by
    by_cases m : k ∈ ns
    · have := nodup_lt k (h.erase k) fun n hn => by
        have q := h.mem_erase_iff.mp hn
        have := b n q.2
        have := q.1
        omega
      rw [List.length_erase_of_mem m] at this
      omega
    · have := nodup_lt k h fun n hn => by
        have := b n hn
        have : n ≠ k := fun e => m (by rw [← e]; exact hn)
        omega
      omega
theorem nodup_le4 {ns : List Nat} (h : ns.Nodup) (b : ∀ n ∈ ns, n ≤ 3) : ns.length ≤ 4 := nodup_lt 4 h fun n hn => by
  have := b n hn
  omega
theorem HP.ok.len {h : HP} (g : h.ok) : h.ss.length ≤ 4 := by
  have := nodup_le4 g.nd fun n hn => by
    obtain ⟨q, hq, rfl⟩ := List.mem_map.mp hn
    exact g.n3 q hq
  simpa using this
theorem sget_mem {n : Nat} {v : SV} : ∀ {ss : List (Nat × SV)}, sget n ss = some v → (n, v) ∈ ss
  | [], h => by cases h
  | q :: r, h => by
    unfold sget at h
    split at h
    · rename_i e
      cases h
      rw [← e]
      exact List.mem_cons_self
    · exact List.mem_cons_of_mem _ (sget_mem h)
section
variable {S : Sto} {A A' X Y : Hm} {l : Nat} {h : HV} {ρ : Rho}
theorem xe_dget2 {eo ek ed : Ev} {P : D → Sto → Prop} (h : W (eo ρ S) fun x S1 => W (isD x S1) fun l S2 => W (ek ρ S2) fun y S3 => W (ed ρ S3) fun z S4 => W (fDGet2 l y z S4) P) : W (eDGet2 eo ek ed ρ S) P := w_bind (h.mono fun x S1 q => w_bind (q.mono fun l S2 q => w_bind (q.mono fun y S3 q => w_bind q)))
theorem xo_isD {lk : Bool} {kvs : List (DK × D)} {P : Nat → Sto → Prop} (hs : Hs S A) (m : (l, MO.dic lk kvs) ∈ A) (k : P l S) : W (isD (.ref l) S) P := by
  refine ⟨l, S, ?_, k⟩
  simp only [isD, hs.get m]
theorem xo_dget2 {lk : Bool} {kvs : List (DK × D)} {y z : D} {k : DK} {P : D → Sto → Prop} (hs : Hs S A) (m : (l, MO.dic lk kvs) ∈ A) (hk : keyD y = some k) (q : P ((dget kvs k).getD z) S) : W (fDGet2 l y z S) P := by
  refine ⟨_, S, ?_, q⟩
  simp only [fDGet2, hs.get m, hk, Option.map_some]
end
end AH
set_option maxRecDepth 100000
set_option maxHeartbeats 4000000
namespace AH
open PySem L2 TL
theorem Pg.zero : Pg p0 := ⟨by decide, nofun, by decide, nofun, nofun, by decide, by decide⟩
end AH
set_option maxRecDepth 100000
set_option maxHeartbeats 4000000
namespace AH
open PySem L2 TL
/-- signs of a pane -/
structure Px (p : PV) : Prop where
  g : Pg p
  k : ∀ z ∈ p.kept, tx 60 z
  t : tx 60 p.text
  c : ∀ q ∈ p.past, tx 60 q.1 ∧ tx 60 q.2
def some? (p : PV) (k : Option Nat) : Option (List (List Nat × List Nat)) := k.bind fun x => if p.many ≤ x + p.past.length ∧ x ≤ p.many then some (lastN (p.many - x) p.past) else none
def toldP (p : PV) (n : Nat) (v : SV) : HM := match some? p v.k with
  | none => .whole n v.s v.d p.many p.text p.kept
  | some cs => .some n v.s v.d (v.k.getD 0) (cs.take 8)
theorem told_ok {p : PV} {n : Nat} {v : SV} (g : Px p) (pm : p.many < mil) (hn : n < mil) (hs : v.s < mil) (hd : v.d < mil) (hk : ∀ k, v.k = some k → k < mil) : HMok (toldP p n v) := by
  unfold toldP
  split
  · exact ⟨hn, hs, hd, pm, g.t, g.g.k1, g.k⟩
  · rename_i cs e
    unfold some? at e
    cases ek : v.k with
    | none => rw [ek] at e; cases e
    | some x =>
      rw [ek] at e
      dsimp only [Option.bind_some] at e
      split at e
      · cases e
        refine ⟨hn, hs, hd, hk x ek, by rw [List.length_take]; omega, fun q hq => g.c q (lastN_mem (List.mem_of_mem_take hq))⟩
      · cases e
section
variable {S : Sto} {A A' X Y : Hm} {l : Nat} {h : HV} {ρ : Rho}
theorem HP.ok.get {h : HP} (g : h.ok) {n : Nat} {v : SV} (e : sget n h.ss = some v) : n ≤ 3 ∧ ∃ p, h.ps[v.p]? = some p := by
  have m := sget_mem e
  refine ⟨g.n3 _ m, ?_⟩
  have := g.sp _ m
  exact ⟨_, List.getElem?_eq_getElem this⟩
end
end AH
set_option maxRecDepth 100000
set_option maxHeartbeats 4000000
namespace AH
open PySem L2 TL
abbrev noteD (n s c : Nat) : D := .tup [.int n, .int s, .str [c]]
def stp (n s : Nat) (x : PV × Nat × Nat) (c : Nat) : PV × Nat × Nat := if x.2.2 = x.2.1 then (pressV x.1 (noteD n s c) c, x.2.1 + 1, x.2.2 + 1) else (x.1, x.2.1, x.2.2 + 1)
def tkz (n s : Nat) (p : PV) (d f : Nat) (z : List Nat) : PV × Nat × Nat := z.foldl (stp n s) (p, d, f)
def mxk (a : Option Nat) : Option Nat → Option Nat
  | none => a
  | some x => match a with
    | none => some x
    | some y => if y < x then some x else a
def SV.new (s p : Nat) : SV := ⟨s, p, 0, none, true⟩
def LM.n : LM → Nat
  | .at n _ _ _ _ _ => n
  | .gone n _ _ => n
def LM.s : LM → Nat
  | .at _ s _ _ _ _ => s
  | .gone _ s _ => s
def LM.p : LM → Nat
  | .at _ _ p _ _ _ => p
  | .gone _ _ p => p
def HP.take (h : HP) (n : Nat) (v : SV) (k : Option Nat) (f : Nat) (z : List Nat) : HP :=
  ⟨h.ps.set v.p (tkz n v.s ((h.ps[v.p]?).getD p0) v.d f z).1, sput n { v with k := mxk v.k k, d := (tkz n v.s ((h.ps[v.p]?).getD p0) v.d f z).2.1 } h.ss⟩
end AH
set_option maxRecDepth 100000
set_option maxHeartbeats 4000000
namespace AH
open PySem L2 TL
end AH
set_option maxRecDepth 100000
set_option maxHeartbeats 4000000
namespace AH
open PySem L2 TL
end AH
set_option maxRecDepth 100000
set_option maxHeartbeats 4000000
namespace AH
open PySem L2 TL
theorem HP.ok.new {n : Nat} (h : 1 ≤ n ∧ n ≤ 3) : HP.ok ⟨List.replicate n p0, []⟩ where
  p1 := by show 1 ≤ (List.replicate n p0).length ∧ _; rw [List.length_replicate]; exact h
  pg := fun q hq => by rw [List.eq_of_mem_replicate hq]; exact Pg.zero
  nd := List.nodup_nil
  n3 := nofun
  sp := nofun
def Sd (d : D) : Prop := ∃ p, toPy d = some p ∧ p.canLay0 = true ∧ p.depth ≤ 8
theorem Sd.int {n : Int} : Sd (.int n) := ⟨.int n, rfl, rfl, Nat.zero_le _⟩
theorem Sd.str {z : List Nat} (h : okS z) : Sd (.str z) := ⟨_, rfl, okS_lay h, Nat.zero_le _⟩
theorem sd_all : ∀ {ds : List D} {k : Nat}, (∀ d ∈ ds, ∃ p, toPy d = some p ∧ p.canLay0 = true ∧ p.depth ≤ k) → ∃ ps, toPys ds = some ps ∧ PyData.canLayAll0 ps = true ∧ PyData.depthAll ps ≤ k
  | [], _, _ => ⟨[], rfl, rfl, Nat.zero_le _⟩
  | d :: ds, k, h => by
    obtain ⟨ps, h1, h2, h3⟩ := sd_all (ds := ds) fun x hx => h x (List.mem_cons_of_mem _ hx)
    obtain ⟨p, g1, g2, g3⟩ := h d List.mem_cons_self
    refine ⟨p :: ps, ?_, ?_, ?_⟩
    · rw [toPys, g1, h1]
    · show (p.canLay0 && PyData.canLayAll0 ps) = true
      rw [g2, h2]
      rfl
    · show max p.depth (PyData.depthAll ps) ≤ k
      omega
theorem wo_eqE' {S : Sto} {x : D} {xs : List D} (hx : lstOf S x = some xs) (h : ∀ d ∈ xs, Sd d) : eqD S x (.lst []) = some xs.isEmpty := by
  obtain ⟨ps, h1, h2, h3⟩ := sd_all h
  have e1 : toPyS S x = some (.list ps) := by
    unfold lstOf at hx
    split at hx
    · cases hx
      show (toPys xs).map PyData.list = _
      rw [h1]
      rfl
    · rename_i l
      split at hx
      · rename_i es g
        cases hx
        unfold toPyS
        dsimp only
        rw [g]
        dsimp only
        rw [h1]
        rfl
      · cases hx
    · cases hx
  have e2 : toPyS S (.lst []) = some (.list []) := rfl
  have sh : SeqAt.shaped (.list ps) = true := by
    show (PyData.canLayAll0 ps && decide (PyData.depthAll ps + 1 ≤ 64)) = true
    rw [h2, decide_eq_true (by omega)]
    rfl
  have sh2 : SeqAt.shaped (.list []) = true := rfl
  have ee : PyData.eqv (.list ps) (.list []) = xs.isEmpty := by
    cases xs with
    | nil => cases h1; rfl
    | cons d ds =>
      cases ps with
      | nil =>
        unfold toPys at h1
        split at h1 <;> cases h1
      | cons p ps => rfl
  have fin : ∀ q : Option PyData, toPyS S x = q → (match toPyS S x, toPyS S (.lst []) with
    | some p, some q => eqPy p q
    | _, _ => none) = some xs.isEmpty := fun _ _ => by
    rw [e1, e2]
    show eqPy _ _ = _
    unfold eqPy
    rw [if_pos ⟨sh, sh2⟩, ee]
  unfold lstOf at hx
  split at hx
  · exact fin _ rfl
  · exact fin _ rfl
  · cases hx
theorem wo_eqE {S : Sto} {x : D} {xs : List D} {P : D → Sto → Prop} (hx : lstOf S x = some xs) (h : ∀ d ∈ xs, Sd d) (k : P (.bl xs.isEmpty) S) : W (fEq x (.lst []) S) P := by
  refine ⟨_, _, ?_, k⟩
  unfold fEq
  rw [wo_eqE' hx h]
  rfl
end AH
set_option maxRecDepth 100000
set_option maxHeartbeats 4000000
namespace AH
open PySem L2 TL
section
variable {S : Sto} {A A' : Hm} {l : Nat} {ρ : Rho}
theorem xe_dm {f : D → List D → Sto → Option (D × Sto)} {eo : Ev} {el : EvL} {P : D → Sto → Prop} (h : W (eo ρ S) fun x S1 => W (isDf x S1) fun l S2 => W (el ρ S2) fun y S3 => W (f (.ref l) y S3) P) : W (eDM f eo el ρ S) P := w_bind (h.mono fun x S1 q => w_bind (q.mono fun l S2 q => w_bind q))
theorem xo_isDf {kvs : List (DK × D)} {P : Nat → Sto → Prop} (hs : Hs S A) (m : (l, MO.dic false kvs) ∈ A) (k : P l S) : W (isDf (.ref l) S) P := by
  refine ⟨l, S, ?_, k⟩
  simp only [isDf, hs.get m]
theorem xo_upd {m : Nat} {lk : Bool} {kvs more kvs' : List (DK × D)} {P : D → Sto → Prop} (hs : Hs S A) (u : Ud A l (.dic false kvs) (.dic false kvs') A') (hm : (m, MO.dic lk more) ∈ A) (ne : l ≠ m) (lz : kvs.length + more.length ≤ 16777216) (e : dmerge kvs more = kvs') (h : ∀ S', Hs S' A' → P .non S') : W (fUpd (.ref l) [.ref m] S) P := by
  subst e
  refine ⟨.non, _, ?_, h _ (hs.upd u)⟩
  simp only [fUpd, if_neg ne, hs.get u.mem, hs.get hm, sizeLine_eq, if_pos lz]
end
end AH
set_option maxRecDepth 100000
set_option maxHeartbeats 4000000
namespace AH
open PySem L2 TL
section
variable {S : Sto} {A A' X Y : Hm} {l : Nat} {ρ : Rho}
def SdN (k : Nat) (d : D) : Prop := ∃ p, toPy d = some p ∧ p.canLay0 = true ∧ p.depth ≤ k
theorem SdN.sd {k : Nat} {d : D} (h : SdN k d) (e : k ≤ 8) : Sd d := by
  obtain ⟨p, a, b, c⟩ := h
  exact ⟨p, a, b, Nat.le_trans c e⟩
theorem SdN.mono {k n : Nat} {d : D} (h : SdN k d) (e : k ≤ n) : SdN n d := by
  obtain ⟨p, a, b, c⟩ := h
  exact ⟨p, a, b, Nat.le_trans c e⟩
/-- what is typed: a tuple of two numbers and a sign -/
structure SdT (d : D) : Prop where
  n : SdN 1 d
  t : ∃ (a b : Int) (c : List Nat), d = .tup [.int a, .int b, .str c]
theorem SdT.sd {d : D} (h : SdT d) (e : 1 ≤ 8) : Sd d := h.n.sd e
end
end AH
set_option maxRecDepth 100000
set_option maxHeartbeats 2000000
namespace AH
open PySem L2 TL
/-- an exception: the class's number, what it holds -/
inductive FlX where
  | ok (f : Fl)
  | ex (c : Nat) (v : List (Str × D))
abbrev EvX := Rho → Sto → Option (FlX × Rho × Sto)
/-- what a raise must leave: the class, what it holds, the world, the slots -/
abbrev MX := Nat → List (Str × D) → Wd → St → Prop
def PostX (M : MX) (K : PySem.W.Frag) (G : Gx) (w0 w : Wd) (D : Ends) (f : FlX) (ρ' : Rho) (S' : Sto) : Prop := match f with
  | .ok g => Post K G w0 w D g ρ' S'
  | .ex c v => ∀ σ' w', w'.S = S' → Mv w w' → SR K G w0 w' σ' ρ' → M c v w' σ'
def SX (M : MX) (K : PySem.W.Frag) (G : Gx) (ts : TS) (run : EvX) : Prop := ∀ w0 w σ ρ f ρ' S', SR K G w0 w σ ρ → run ρ w.S = some (f, ρ', S') → ∀ D : Ends, PostX M K G w0 w D f ρ' S' → ts D σ w.H
section
variable {M : MX} {K : PySem.W.Frag} {G : Gx} {w0 w w' : Wd} {σ : St} {ρ : Rho} {t u : TS} {tt : TT} {et : EvT} {a b : EvX}
theorem PostX.from {D : Ends} {f : FlX} {ρ' : Rho} {S' : Sto} (p : PostX M K G w0 w D f ρ' S') (m : Mv w w') : PostX M K G w0 w' D f ρ' S' := by
  cases f with
  | ok g => exact Post.from (show Post K G w0 w D g ρ' S' from p) m
  | ex c v => exact fun σ' w2 e m2 s => p σ' w2 e (m.trans m2) s
def xL (a : EvS) : EvX := fun ρ S => (a ρ S).bind fun x => some (.ok x.1, x.2.1, x.2.2)
theorem sx_of {a : EvS} (h : SS K G t a) : SX M K G t (xL a) := fun w0 w σ ρ f ρ' S' s hh D p => by
  obtain ⟨⟨g, ρ1, S1⟩, h1, h2⟩ := bnd hh
  cases h2
  exact h w0 w σ ρ g _ _ s h1 D p
def xSeq (a b : EvX) : EvX := fun ρ S => (a ρ S).bind fun x => match x with
  | (.ok .nx, ρ1, S1) => b ρ1 S1
  | r => some r
theorem sx_seq (ha : SX M K G t a) (hb : SX M K G u b) : SX M K G (tSeq t u) (xSeq a b) := fun w0 w σ ρ f ρ' S' s h D p => by
  obtain ⟨⟨f1, ρ1, S1⟩, h1, h2⟩ := bnd h
  refine ha w0 w σ ρ f1 ρ1 S1 s h1 { D with nx := u D } ?_
  cases f1 with
  | ok f1 =>
    cases f1 with
    | nx =>
      intro σ' w' e m s'
      subst e
      exact hb w0 w' σ' ρ1 f ρ' S' s' h2 D (p.from m)
    | bk => cases h2; exact p
    | ct => cases h2; exact p
    | rt d => cases h2; exact p
    | rf ds => cases h2; exact p
  | ex c v => cases h2; exact p
def xIf (t : EvT) (a b : EvX) : EvX := fun ρ S => (t ρ S).bind fun x => if x.1 = true then a ρ x.2 else b ρ x.2
theorem sx_if (ht : STt K G tt et) (ha : SX M K G t a) (hb : SX M K G u b) : SX M K G (tIfS tt t u) (xIf et a b) := fun w0 w σ ρ f ρ' S' s h D p => by
  obtain ⟨⟨c, S1⟩, h1, h2⟩ := bnd h
  refine ht w σ ρ c S1 s.ok s.rs h1 _ fun w1 e1 f1 o1 => ?_
  subst e1
  cases c with
  | true => exact ha w0 w1 σ ρ f ρ' S' (s.step f1 o1) h2 D (p.from f1.mv)
  | false => exact hb w0 w1 σ ρ f ρ' S' (s.step f1 o1) h2 D (p.from f1.mv)
def forX (g : EvG) (b : EvX) : List D → EvX
  | [], ρ, S => some (.ok .nx, ρ, S)
  | d :: ds, ρ, S => match g d ρ S with
    | none => none
    | some (ρ1, S1) => match b ρ1 S1 with
      | some (.ok .nx, ρ2, S2) => forX g b ds ρ2 S2
      | some (.ok .ct, ρ2, S2) => forX g b ds ρ2 S2
      | some (.ok .bk, ρ2, S2) => some (.ok .nx, ρ2, S2)
      | r => r
def xFor (it : EvL) (g : EvG) (b : EvX) : EvX := fun ρ S => (it ρ S).bind fun x => forX g b x.1 ρ x.2
theorem forX_ok {g : TG} {eg : EvG} {tb : TS} {eb : EvX} (hg : SG K G g eg) (hb : SX M K G tb eb) {w0 w1 : Wd} {J : It} {ds : List D} (jk : JOK K G J w1 ds) {σ : St} {ρ : Rho} {f : FlX} {ρ' : Rho} {S' : Sto} (s : SR K G w0 w1 σ ρ)
    (h : forX eg eb ds ρ w1.S = some (f, ρ', S')) {D : Ends} (p : PostX M K G w0 w1 D f ρ' S') :
    ∃ W : Nat → Nat → St → Hp → Prop, (∃ m, W 0 m σ w1.H) ∧ ∀ i m σ H, W i m σ H →
      (J.stop i H ∧ D.nx σ H) ∨ (J.go i H ∧ ∃ N : St → Hp → Prop, (∀ σ' H', N σ' H' → ∃ m', m' < m ∧ W (i + 1) m' σ' H') ∧ ∀ x H', J.yld i H x H' → g x σ H' fun σ2 H2 => tb { D with nx := N, ct := N, bk := D.nx } σ2 H2) := by
  refine ⟨fun i m σ H => m = ds.length - i ∧ i ≤ ds.length ∧ ∃ w ρ, w.H = H ∧ Mv w1 w ∧ SR K G w0 w σ ρ ∧ forX eg eb (ds.drop i) ρ w.S = some (f, ρ', S'), ⟨ds.length, by simp, Nat.zero_le _, w1, ρ, rfl, Mv.refl _, s, by simpa using h⟩, ?_⟩
  rintro i m σ H ⟨rfl, hi, w, ρ, rfl, mv, s, hh⟩
  obtain ⟨j1, j2⟩ := jk i w mv s.ok
  by_cases hlt : i < ds.length
  · right
    have hd : ds[i]? = some ds[i] := List.getElem?_eq_getElem hlt
    obtain ⟨go, yl⟩ := j1 _ hd
    rw [List.drop_eq_getElem_cons hlt, forX] at hh
    refine ⟨go, fun σ' H' => ∃ w' ρ2, w'.H = H' ∧ Mv w1 w' ∧ SR K G w0 w' σ' ρ2 ∧ forX eg eb (ds.drop (i + 1)) ρ2 w'.S = some (f, ρ', S'), fun σ' H' ⟨w', ρ2, e, m2, s2, h2⟩ => ⟨_, by omega, rfl, hlt, w', ρ2, e, m2, s2, h2⟩, fun x H' y => ?_⟩
    obtain ⟨w2, e2, eS, f2, o2, r2⟩ := yl x H' y
    subst e2
    cases q1 : eg ds[i] ρ w.S with
    | none => rw [q1] at hh; cases hh
    | some z =>
      obtain ⟨ρ1, S1⟩ := z
      rw [q1] at hh
      dsimp only at hh
      refine hg w0 w2 σ ρ x _ ρ1 S1 (s.step f2 o2) r2 (by rw [eS]; exact q1) _ fun σ3 w3 e3 m3 s3 => ?_
      subst e3
      have m13 : Mv w1 w3 := (mv.trans f2.mv).trans m3
      cases q2 : eb ρ1 w3.S with
      | none => rw [q2] at hh; cases hh
      | some z =>
        obtain ⟨fl, ρ2, S2⟩ := z
        rw [q2] at hh
        refine hb w0 w3 σ3 ρ1 fl ρ2 S2 s3 q2 _ ?_
        cases fl with
        | ok fl =>
          cases fl with
          | nx => exact fun σ4 w4 e4 m4 s4 => ⟨w4, ρ2, rfl, m13.trans m4, s4, by rw [e4]; exact hh⟩
          | ct => exact fun σ4 w4 e4 m4 s4 => ⟨w4, ρ2, rfl, m13.trans m4, s4, by rw [e4]; exact hh⟩
          | bk =>
            cases hh
            exact fun σ4 w4 e4 m4 s4 => p σ4 w4 e4 (m13.trans m4) s4
          | rt d => cases hh; exact p
          | rf d => cases hh; exact p
        | ex c v =>
          cases hh
          exact fun σ4 w4 e4 m4 s4 => p σ4 w4 e4 (m13.trans m4) s4
  · left
    have e : i = ds.length := by omega
    refine ⟨j2 e, ?_⟩
    rw [e, List.drop_length, forX] at hh
    cases hh
    exact p σ w rfl mv s
theorem sx_for {wi : TI} {ei : EvL} {g : TG} {eg : EvG} {tb : TS} {eb : EvX} (hi : SI K G wi ei) (hg : SG K G g eg) (hb : SX M K G tb eb) : SX M K G (tFor wi g tb) (xFor ei eg eb) := fun w0 w σ ρ f ρ' S' s h D p => by
  obtain ⟨⟨ds, S1⟩, h1, h2⟩ := bnd h
  refine hi w σ ρ ds S1 s.ok s.rs h1 _ fun J w1 e1 f1 o1 jk => ?_
  subst e1
  exact forX_ok hg hb jk (s.step f1 o1) h2 (p.from f1.mv)
end
/-- the heap that is left by an exception that holds fs; d: its dict -/
def XR (K : PySem.W.Frag) (w : Wd) (fs : List (Str × D)) (d : Option Addr) (H' : Hp) : Prop :=
  (fs = [] ∧ d = none ∧ H' = w.H) ∨ ∃ (d0 : Addr) (ys : List (Str × V)), d = some d0 ∧ w.H d0 = none ∧ ys.map (·.1) = fs.map (·.1) ∧ RVs K w (ys.map (·.2)) (fs.map (·.2)) ∧ H' = upd w.H d0 (.xd ys)
theorem XR.mono {K : PySem.W.Frag} {w w2 : Wd} {fs : List (Str × D)} {d : Option Addr} {H' : Hp} (x : XR K w fs d H') (m : Mv w w2) (e : w2.H = w.H) : XR K w2 fs d H' := by
  rcases x with ⟨a, b, c⟩ | ⟨d0, ys, a, b, c, r, h⟩
  · exact .inl ⟨a, b, by rw [e]; exact c⟩
  · exact .inr ⟨d0, ys, a, by rw [e]; exact b, c, r.mono m, by rw [e]; exact h⟩
def KE (K : PySem.W.Frag) (G : Gx) (w : Wd) (c : Nat) (fs : List (Str × D)) (S' : Sto) (E : XK) : Prop := ∀ w' d H', w'.S = S' → Fr w w' → Ok K G w' → XR K w' fs d H' → E (.ref (G.cm c)) d H'
/-- what a body's raise must leave -/
def ME (K : PySem.W.Frag) (G : Gx) (E : XK) : MX := fun c fs w' _ => ∀ d H', XR K w' fs d H' → E (.ref (G.cm c)) d H'
inductive OutX where
  | ok (o : Out)
  | ex (c : Nat) (fs : List (Str × D))
abbrev FnX := List D → Sto → Option (OutX × Sto)
def KX (K : PySem.W.Frag) (G : Gx) (w : Wd) (o : OutX) (S' : Sto) (Q : VK) (E : XK) : Prop := match o with
  | .ok o => KO K G w o S' Q
  | .ex c fs => KE K G w c fs S' E
def spX (K : PySem.W.Frag) (G : Gx) (n : Nat) (F : FnX) : Sp := fun vs H Q E => ∃ (w : Wd) (ds : List D) (o : OutX) (S' : Sto), w.H = H ∧ vs.length = n ∧ Ok K G w ∧ RVs K w vs ds ∧ F ds w.S = some (o, S') ∧ KX K G w o S' Q E
def runX (n m : Nat) (b : EvX) : FnX := fun ds S => if ds.length = n then match b (rho0 m ds) S with
  | some (.ok .nx, _, S') => some (.ok (.v .non), S')
  | some (.ok (.rt d), _, S') => some (.ok (.v d), S')
  | some (.ok (.rf ds), _, S') => some (.ok (.f ds), S')
  | some (.ex c fs, _, S') => some (.ex c fs, S')
  | _ => none
  else none
theorem bodyX_ok {K : PySem.W.Frag} {G : Gx} {N : List Str} {n : Nat} {t : TS} {b : EvX} {vs : List V} {H : Hp} {Q : VK} {E : XK} (hs : SX (ME K G E) K G t b) (hn : n ≤ N.length) (h : spX K G n (runX n N.length b) vs H Q E) : t { nx := fun _ H' => Q .non H', rt := Q } (L2.start N vs) H := by
  obtain ⟨w, ds, o, S', rfl, hl, ok, r, hh, k⟩ := h
  unfold runX at hh
  split at hh
  · rename_i hd
    have sr : SR K G w w (L2.start N vs) (rho0 N.length ds) :=
      ⟨ok, rho0_rs r (by omega), fun _ _ e => e, fun _ _ e n => ⟨e, n⟩, fun _ _ _ e => e, fun a => ⟨.inl, fun z => z.elim id fun ⟨i, es, z, _⟩ => absurd z rho0_acc⟩, fun a ⟨i, es, z, _⟩ => absurd z rho0_acc, fun i j es fs a z => absurd z rho0_acc, ok.bh⟩
    cases e : b (rho0 N.length ds) w.S with
    | none => rw [e] at hh; cases hh
    | some z =>
      obtain ⟨fl, ρ', S1⟩ := z
      rw [e] at hh
      refine hs w w _ _ fl ρ' S1 sr e _ ?_
      cases fl with
      | ok fl =>
        cases fl with
        | nx =>
          cases hh
          intro σ' w' e' m s
          obtain ⟨q1, q2, q3⟩ := s.out
          exact k .non (w'.withB w.B) e' q1 q2 .non
        | rt d =>
          cases hh
          exact fun v w' e' f o r => k v w' e' f o r
        | rf es =>
          cases hh
          exact fun p us w' e' f n o hp r => k p us w' e' f n o hp r
        | bk => cases hh
        | ct => cases hh
      | ex c fs =>
        cases hh
        intro σ' w' e' m s d H' xr
        obtain ⟨q1, q2, q3⟩ := s.out
        exact k (w'.withB w.B) d H' e' q1 q2 (xr.mono q3 rfl)
  · cases hh
section
variable {K : PySem.W.Frag} {G : Gx} {E : XK} {c : Nat} {C : Addr} {f : Str} {te : TE} {ea : Ev}
/-- an own __init__ that stores its one argument -/
def spI (C : Addr) (f : Str) : Sp := fun vs H Q _ => ∃ (a : Addr) (y : V), vs = [.ref a, y] ∧ H a = some (exo a C none) ∧ ∀ dx, H dx = none → dx ≠ a → Q .non (upd (upd H dx (exd dx [(f, y)])) a (exo a C (some dx)))
def xRaiseI (c : Nat) (f : Str) (ea : Ev) : EvX := fun ρ S => (ea ρ S).bind fun x => some (.ex c [(f, x.1)], ρ, x.2)
theorem sx_raiseI (hc : G.cm c = C) (he : SE K G te ea) : SX (ME K G E) K G (fun _ σ H => tMkO C (spI C f) [] (tCons te tNil) σ H fun cls d H' => E cls d H') (xRaiseI c f ea) := fun w0 w σ ρ fl ρ' S' s h D p => by
  obtain ⟨⟨x, S1⟩, h1, h2⟩ := bnd h
  cases h2
  refine he w σ ρ x _ s.ok s.rs h1 _ fun v w1 e1 f1 o1 r1 => ?_
  refine ⟨by simp, fun a ha => ⟨a, v, rfl, upd_same, fun dx h1 h2 => ⟨rfl, dx, [(f, v)], upd_same, ?_, ?_, ?_⟩⟩⟩
  · rw [upd_ne h2]
    exact upd_same
  · rw [upd_ne h2] at h1
    exact h1
  · have h3 : w1.H dx = none := by rw [upd_ne h2] at h1; exact h1
    have q := p σ w1 e1 f1.mv (s.step f1 o1) (some dx) (upd w1.H dx (.xd [(f, v)])) (.inr ⟨dx, [(f, v)], rfl, h3, rfl, .one r1, rfl⟩)
    rw [hc] at q
    have e : upd (del (upd (upd (upd w1.H a (exo a C none)) dx (exd dx [(f, v)])) a (exo a C (some dx))) a) dx (.xd [(f, v)]) = upd w1.H dx (.xd [(f, v)]) := by
      funext b
      by_cases hb : b = dx
      · rw [hb, upd_same, upd_same]
      · rw [upd_ne hb, upd_ne hb]
        by_cases ba : b = a
        · rw [ba, del_same, ha]
        · rw [del_ne ba, upd_ne ba, upd_ne hb, upd_ne ba]
    rw [e]
    exact q
end
end AH
set_option maxRecDepth 100000
set_option maxHeartbeats 2000000
namespace AH
open PySem PySem.Spec PyProof.Rows L2 TL
section
variable {X : Cx} {e : Expr} {es : List Expr} {ta : TA} {p1 p2 pos : Pos}
theorem pe_hinit {C0 : Addr} {n : Str} {pl : Sem Bool} (hg : Gl X n) (hm : X.mg n = some (.ref C0)) (hdb : (n == ("__debug__" : Str)) = false) (g0 : PySem.W.specialIn X.K (.ref C0) "__getattribute__" = some (some (.builtin "type.__getattribute__"))) (hr : PySem.W.readsIn X.K C0 (.type "type") = true)
    (vV : PySem.W.findCls X.K (.ref C0) (.type "type") "__init__" = some (.val (.builtin "ValueError.__init__"))) (ha : PA X (e :: es) ta)
    (hc : eval (.Call (.Attribute (.Name n p1) "__init__" p2) (e :: es) [] pos) X.env = (do
      let ov ← eval (.Name n p1) X.env
      standAt p2.atName
      let (f, first) ← holding [ov] (getMethod ov "__init__" pl)
      callWith pos f first (backTo pos (starEach (e :: es) X.env)) (backToKw pos (keywordEach [] X.env))) := by rfl)
    (he : starEach (e :: es) X.env = (false, eval e X.env) :: starEach es X.env := by rfl) (hpl : (backTo pos (starEach es X.env)).any (·.1) = false := by rfl) :
    PE X (.Call (.Attribute (.Name n p1) "__init__" p2) (e :: es) [] pos) (tVeI X.K ta) := by
  refine ⟨fun pins s σ H Q I h => ?_⟩
  refine PySem.W.methodCall_KW (ld_glob I hg hm ?_ hdb) hc
  refine PySem.W.method_cls I.kIn g0 ?_
  refine PySem.W.cls_value I.kIn hr vV (by decide +kernel) ?_
  show wpAny _ _ (callWith pos (Value.builtin "ValueError.__init__") [] (backTo pos (starEach (e :: es) X.env)) []) _ _ _
  refine PyProof.Rows.callWith_method1 (thn (ha.run pos pins _ σ H _ (I.tok _) h) fun us s1 ⟨vs, H1, I1, r1, a, C, ws, ev, hl, T, ea, q⟩ => ?_) he hpl
  subst ev
  cases r1 with
  | @cons _ u0 _ ur ra rw' =>
    obtain rfl : u0 = Value.ref a := ra
    have hlen : ur.length ≤ sizeLine := by
      rw [← Paired.length rw', sizeLine_eq]
      omega
    exact oinit_ok T I1 ea hlen fun s' J => ⟨.non, H1, J, rfl, q⟩
end
end AH
set_option maxRecDepth 100000
set_option maxHeartbeats 2000000
namespace AH
open PySem L2 TL
/-- the store at a law's entry: its tables -/
def Sto.tabs (tl : List (Nat × Str)) : Sto := ⟨tl.length, fun l => tl[l]?.map fun p => .tab p.1 p.2⟩
inductive VX where
  | ok (d : D) | ex (c : Nat) (fs : List (Str × D))
abbrev EvV := Rho → Sto → Option (VX × Sto)
def KV (K : PySem.W.Frag) (G : Gx) (w : Wd) (o : VX) (S' : Sto) (Q : VK) (E : XK) : Prop := match o with
  | .ok d => Kd K G w d S' Q
  | .ex c fs => KE K G w c fs S' E
def SEX (E : XK) (K : PySem.W.Frag) (G : Gx) (te : TE) (run : EvV) : Prop := ∀ w σ ρ o S', Ok K G w → RS K w σ ρ → run ρ w.S = some (o, S') → ∀ Q, KV K G w o S' Q E → te σ w.H Q
def vRes (r : Option (OutX × Sto)) : Option (VX × Sto) := r.bind fun z => match z.1 with
  | .ok (.v d) => some (.ok d, z.2)
  | .ok (.f es) => some (.ok (.lst es), z.2)
  | .ex c fs => some (.ex c fs, z.2)
def vCall (F : FnX) (el : EvL) : EvV := fun ρ S => (el ρ S).bind fun x => vRes (F x.1 x.2)
section
variable {K : PySem.W.Frag} {G : Gx} {E : XK} {w w1 : Wd} {te to : TE} {ta : TA} {el : EvL} {S' : Sto} {Q : VK} {C : Addr} {n c : Nat} {F : FnX} {m : Str}
theorem KE.from {c : Nat} {fs : List (Str × D)} (k : KE K G w c fs S' E) (f : Fr w w1) : KE K G w1 c fs S' E := fun w' d H' e f' o x => k w' d H' e (f.trans f') o x
theorem KV.from {o : VX} (k : KV K G w o S' Q E) (f : Fr w w1) : KV K G w1 o S' Q E := by
  cases o with
  | ok d => exact Kd.from (show Kd K G w d S' Q from k) f
  | ex c fs => exact KE.from (show KE K G w c fs S' E from k) f
theorem vres {r : Option (OutX × Sto)} {o : VX} (h : vRes r = some (o, S')) (ok : Ok K G w) (k : KV K G w o S' Q E) : ∃ z S2, r = some (z, S2) ∧ KX K G w z S2 Q E := by
  obtain ⟨⟨z, S2⟩, h1, h2⟩ := bnd h
  refine ⟨z, S2, h1, ?_⟩
  cases z with
  | ok q =>
    cases q with
    | v d => cases h2; exact k
    | f es => cases h2; exact Kf.of k ok
  | ex c fs => cases h2; exact k
theorem KX.from {o : OutX} (k : KX K G w o S' Q E) (f : Fr w w1) (ok : Ok K G w1) : KX K G w1 o S' Q E := by
  cases o with
  | ok q =>
    cases q with
    | v d => exact Kd.from (show Kd K G w d S' Q from k) f
    | f es => exact Kf.from (show Kf K G w es S' Q from k) f ok
  | ex c fs => exact KE.from (show KE K G w c fs S' E from k) f
theorem runX_len {n m : Nat} {b : EvX} : ∀ ds S r, runX n m b ds S = some r → ds.length = n := fun ds S r h => by
  unfold runX at h
  split at h
  · rename_i e
    exact e
  · cases h
theorem spX_len {n : Nat} {F : FnX} : ∀ (vs : List V) (H : Hp) (Q : VK) (E : XK), spX K G n F vs H Q E → vs.length = n := fun vs H Q E h => let ⟨_, _, _, _, _, hl, _⟩ := h; hl
/-- what is asked of a callee by name -/
def SpLike (K : PySem.W.Frag) (G : Gx) (sp : Sp) (n : Nat) (F : FnX) (E : XK) (E2 : XK) : Prop := ∀ w ds vs o S' Q, Ok K G w → RVs K w vs ds → vs.length = n → F ds w.S = some (o, S') → KX K G w o S' Q E → sp vs w.H Q E2
theorem like_x : SpLike K G (spX K G n F) n F E E := fun w ds vs o S' Q ok r hl h k => ⟨w, ds, o, S', rfl, hl, ok, r, h, k⟩
theorem sex_call0 {sp : Sp} {E2 : XK} (hs : SpLike K G sp n F E E2) (hn : ∀ ds S r, F ds S = some r → ds.length = n) (ha : SA K G ta el) : SEX E K G (tCall sp [] E2 ta) (vCall F el) := fun w σ ρ o S' ok rs h Q k => by
  obtain ⟨⟨ds, S1⟩, h1, h2⟩ := bnd h
  refine ha w σ ρ ds S1 ok rs h1 _ fun vs w1 e1 f1 o1 r1 => ?_
  subst e1
  obtain ⟨z, S2, h3, h4⟩ := vres h2 o1 (k.from f1)
  rw [List.append_nil]
  exact hs w1 ds vs z S2 Q o1 r1 (by rw [r1.length]; exact hn _ _ _ h3) h3 h4
theorem sex_call (hn : ∀ ds S r, F ds S = some r → ds.length = n) (ha : SA K G ta el) : SEX E K G (tCall (spX K G n F) [] E ta) (vCall F el) := sex_call0 like_x hn ha
theorem spI_len {C : Addr} {f : Str} : ∀ (vs : List V) (H : Hp) (Q : VK) (E : XK), spI C f vs H Q E → vs.length = 2 := fun vs H Q E h => by
  obtain ⟨a, y, e, _⟩ := h
  rw [e]
  rfl
theorem spI_ok {C : Addr} {f z : Str} {N : List Str} {vs : List V} {H : Hp} {Q : VK} {E : XK} (T : OexC K C) (hno : PySem.W.findIn K (.ref C) f = some none) (h : spI C f vs H Q E) :
    tSeq (tDrop (tVeI K (tCons (tVar 0) (tCons (tC (.str z)) tNil)))) (tOst K f (tVar 0) (tVar 1)) { nx := fun _ H' => Q .non H', rt := Q } (L2.start N vs) H := by
  obtain ⟨a, y, rfl, ha, q⟩ := h
  refine ⟨_, rfl, a, C, [.str z], rfl, (by simp), T, ha, ?_⟩
  refine ⟨_, rfl, _, rfl, a, C, rfl, T, hno, .inl ⟨ha, fun dx h1 h2 => q dx h1 h2⟩⟩
end
end AH
set_option maxRecDepth 100000
set_option maxHeartbeats 2000000
namespace AH
open PySem PySem.Spec PyProof.Rows L2 TL Classical
/-- what is wished of an exception of the lambda -/
def Etold (K : PySem.W.Frag) (CS : Addr) (i n : Nat) (ts : Addr → Value → Option Addr → TS) (Q : VK) : XK := fun cls d H' =>
  PySem.W.exmOne K cls (.ref CS) = some true ∧ ∀ a, H' a = none → ∀ σ : L2.St, σ.length = n → ts a cls d { nx := fun _ H2 => Q .non H2, rt := Q } (σ.set i (some (.ref a))) H'
def TTold2 (K : PySem.W.Frag) (CS : Addr) (i n : Nat) (ts : Addr → Value → Option Addr → TS) : (XK → Hp → VK → Prop) → Hp → VK → Prop := fun tl H Q => tl (Etold K CS i n ts Q) H Q
theorem told_gives2 {X : Cx} {Ng : List Str} {x a e nm q : Str} {sg : Scope} {g CS : Addr} {cdg : Value} {i : Nat} {b0 : Stmt} {suite : List Stmt} {ts : Addr → Value → Option Addr → TS} {p1 p2 p3 p4 p7 p8 : Pos}
    (hge : sg.names.lookup e = some .globalImplicit) (hme : X.mg e = some (.ref CS)) (hde : (e == ("__debug__" : Str)) = false) (hNd : Ng.Nodup) (hi : Ng[i]? = some nm) (hln : sg.names.lookup nm = some .local) (h0 : ∀ f : Addr, (L2.start Ng [V.ref f])[0]? = some (some (V.ref f)))
    (hsu : ∀ (s : Shared) (H : Hp) (aE : Addr) (oe : Obj) (cls : Value) (d : Option Addr) (pn : List (Addr × Obj)), Zc cls d oe → (∃ vs, oe.data = .fields vs) → PSs (((cxOf C8.CX0 X.prog X.w X.K X.mg X.base Ng x sg g cdg X.A X.stack s H C8.E0).nox).suite aE ((aE, oe) :: pn)) (b0 :: suite) (ts aE cls d)) :
    LamX.GivesTo X Ng x sg g cdg [.Try [.Return (some (.Call (.Name a p1) [] [] p2)) p3] [.ExceptHandler (some (.Name e p4)) (some nm) (b0 :: suite) p7] [] [] p8] a q (TTold2 X.K CS i Ng.length ts) := by
  intro f c' s H Q tl act hc h
  have hgl : Gl (cxOf C8.CX0 X.prog X.w X.K X.mg X.base Ng x sg g cdg X.A X.stack s H C8.E0).nox e := hge
  refine ⟨_, pss_one (ps_try_as (X := (cxOf C8.CX0 X.prog X.w X.K X.mg X.base Ng x sg g cdg X.A X.stack s H C8.E0).nox) (c := .ref CS)
      (tb := fun W D σ H => ∃ Ech : XK, (∀ cls d σ' H', Ech cls d H' → W cls d σ' H') ∧ σ[0]? = some (some (.ref f)) ∧ H c' = some (LamX.CodeO c' q) ∧ tl Ech H D.rt)
      (ts := fun aE cls d D σ H => σ.length = Ng.length → ts aE cls d D σ H)
      rfl rfl hNd hi hln ⟨hgl, hde, .inl hme⟩ LamX.takes0 (fun W pn xe tk _ => ?_) (fun aE oe cls d pn hz hf => ⟨fun pins s' σ H' D I h' => (hsu s H aE oe cls d pn hz hf).run pins s' σ H' D I (h' I.len)⟩)), ?_⟩
  · refine ⟨fun pins s' σ H' D I h' => ?_⟩
    obtain ⟨Ech, hW, h1, h2, h3⟩ := h'
    exact (pss_one (ps_ret (pos := p3) (act W pn xe Ech p1 p2 tk hW))).run pins s' σ H' D I ⟨h1, h2, h3⟩
  · refine ⟨Etold X.K CS i Ng.length ts Q, fun cls d σ' H' hE => ⟨true, hE.1, fun _ aE na hl => hE.2 aE na σ' ?_, fun z => by cases z⟩, h0 f, hc, h⟩
    rw [List.length_set] at hl
    exact hl
noncomputable def eTold (l t : Nat) (q : Str) (run : EvV) (res : Nat → List (Str × D) → Option D) : Ev := fun ρ S => if S.get l = some (.tab t q) then (run ρ S).bind fun x => match x.1 with
  | .ok d => some (d, x.2)
  | .ex c fs => (res c fs).map fun d => (d, x.2)
  else none
/-- what the making of a lambda leaves of the heap -/
def LamH (q : Str) (P : Addr) (ps : Array Value) (H H1 : Hp) : Prop := H1 = H ∨ ∃ (k : Addr) (more : Array Value), H k = none ∧ H1 = upd (upd H P (.tbl (ps ++ more))) k (LamX.CodeO k q) ∧ TriplesOk (ps ++ more).toList ∧
  ∀ (pos : Pos) (cv : Value), codeAmong pos (ps ++ more).toList = some cv → codeAmong pos ps.toList = some cv ∨ cv = .ref k
theorem lam_new {X : Cx} {pins : List (Addr × Obj)} {σ : L2.St} {H : Hp} {s : Shared} {k P : Addr} {ar : Arguments} {bd : Expr} {sc : Scope} {at_ : Pos} {W : Value → Shared → Prop} {Z : Value → Shared → Prop} {ps : Array Value}
    (J : Inv X pins σ H s) (B : LamX.TabB X.base X.mg k P) (hk : X.env.code = .ref k) (eP : H P = some (.tbl ps)) (tr : TriplesOk ps.toList)
    (cs : ∀ (p : Pos) (v : Value), codeAmong p ps.toList = some v → ∃ b, v = .ref b ∧ H b = some (LamX.CodeO b (X.env.qual ++ "<lambda>")))
    (nd : defaultsOf ar X.env = ([], [])) (fv : ∀ y ∈ sc.names, y.2 = .free → ∃ b, X.env.cells.lookup y.1 = some b)
    (go : ∀ (f b : Addr) (pm ct : Value) (H1 : Hp) (s1 : Shared), Inv X pins σ H1 s1 → LamH (X.env.qual ++ "<lambda>") P ps H H1 →
      s1.heap.get? f = some (PySem.W.kla_obj "<lambda>" (X.env.qual ++ "<lambda>") ar bd sc (cloFrom X.env.cells sc.names []) pm b ct) → H1 f = none → f ∉ frs X.stack → H1 b = some (LamX.CodeO b (X.env.qual ++ "<lambda>")) → Z (.ref f) s1) :
    wpAny (model X.prog X.w) X.A (eval (.Lambda ar bd sc at_) X.env) Z W s := by
  have hP : s.heap.get? P = some { cls := .none, data := .fields ps } := J.hok P _ eP
  have young : ∀ f, s.heap.objs.size ≤ f → f ∉ frs X.stack := by
    intro f hf z
    rcases List.mem_cons.mp (J.stkSub _ z) with e | e
    · have lt := J.lt
      rw [← e] at lt
      exact absurd (Nat.lt_of_lt_of_le lt hf) (Nat.lt_irrefl _)
    · exact J.nofs hf e
  apply PySem.W.kla_eval nd
  cases hc : codeAmong at_ ps.toList with
  | some v =>
    obtain ⟨b, rfl, hb⟩ := cs at_ v hc
    apply PySem.W.kla_makeFunctionHit (mg := X.mg) (c := k) (P := P) (ps := ps) (closure_ok fv) J.ok.glob (J.mod.glob.keeps J.bk) hk (B.code.keeps J.bk) hP tr hc (B.bm.keeps J.bk)
    intro ct h2 t2 kp sz
    refine go h2.objs.size b _ ct H _ (J.kept (t' := t2) fun a o e => Heap.get?_push_of_some _ (kp a o e)) (.inl rfl) (Heap.get?_push_size _ rfl) (J.hok.fresh sz) (young _ sz) hb
  | none =>
    apply PySem.W.kla_makeFunction (mg := X.mg) (c := k) (P := P) (ps := ps) (closure_ok fv) J.ok.glob (J.mod.glob.keeps J.bk) hk (B.code.keeps J.bk) hP tr hc B.gP (B.bm.keeps J.bk)
    intro b ct h2 t2 kp ge lt rec tb
    obtain ⟨b2, oc, vs, tk, e2, ho, hd, hv⟩ := rec
    cases e2
    have hsz : s.heap.objs.size ≤ h2.objs.size := Nat.le_trans ge (Nat.le_of_lt lt)
    have nb : H b = none := J.hok.fresh ge
    have J1 := LamX.inv_table (q := X.env.qual ++ "<lambda>") (t' := t2) (more := #[rawInt at_.line, rawInt at_.col, .ref b])
      (h' := h2.push (PySem.W.kla_obj "<lambda>" (X.env.qual ++ "<lambda>") ar bd sc (cloFrom X.env.cells sc.names []) ((X.mg "__name__").getD .none) b ct)) J eP
      (fun a o hb e => Heap.get?_push_of_some _ (kp a o hb e)) (Heap.get?_push_of_some _ tb) ge ⟨oc, vs, tk, Heap.get?_push_of_some _ ho, hd, hv⟩
    have eL : (ps ++ #[rawInt at_.line, rawInt at_.col, Value.ref b]).toList = ps.toList ++ [rawInt at_.line, rawInt at_.col, .ref b] := by simp
    refine go h2.objs.size b _ ct _ _ J1 (.inr ⟨b, _, nb, rfl, ?_, fun p v hv => ?_⟩) (Heap.get?_push_size _ rfl) ?_ (young _ hsz) upd_same
    · rw [eL]
      exact PySem.TriplesOk_snoc _ _ _ _ tr
    · rw [eL] at hv
      exact LamX.among_app _ tr hv
    · have n1 : h2.objs.size ≠ b := Nat.ne_of_gt lt
      have n2 : h2.objs.size ≠ P := Nat.ne_of_gt (Nat.lt_of_lt_of_le (Heap.lt_size hP) hsz)
      rw [upd_ne n1, upd_ne n2]
      exact J.hok.fresh hsz
/-- the table at P, its codes -/
def TabP (H : Hp) (P : Addr) (q : Str) (ps : Array Value) : Prop := H P = some (.tbl ps) ∧ TriplesOk ps.toList ∧ ∀ (p : Pos) (v : Value), codeAmong p ps.toList = some v → ∃ b, v = .ref b ∧ H b = some (LamX.CodeO b q)
def tLam2 (q : Str) (P : Addr) (TT : (XK → Hp → VK → Prop) → Hp → VK → Prop) (t : XK → TE) : TE := fun σ H Q => ∃ ps, TabP H P q ps ∧ ∀ H1, LamH q P ps H H1 → TT (fun E H' Q' => t E σ H' Q') H1 Q
/-- x(lambda: body) -/
theorem pe_told {X : Cx} {TT : (XK → Hp → VK → Prop) → Hp → VK → Prop} {x a : Str} {g k P : Addr} {n : Nat} {pg : Arguments} {bg : List Stmt} {sg : Scope} {dV kV doc pm cdv ct oc : Value} {an od : Option Addr} {osl : Array (Option Value)} {Ng : List Str}
    {ar : Arguments} {bd : Expr} {sc : Scope} {t : XK → TE} {p lp pos : Pos} (hg : Gl X x) (hm : X.mg x = some (.ref g)) (hk : PySem.W.keepIn X.K (.ref g) = true)
    (lk : X.K.lookup g = some ⟨oc, od, .func (PySem.W.fnOf x x pg bg sg dV kV doc pm an cdv ct), osl⟩) (cg : PySem.W.codeIn X.K cdv x = true) (bi : L2.Binds X.K (PySem.W.fnOf x x pg bg sg dV kV doc pm an cdv ct) [a] []) (Sg : FnScope Ng [a] sg) (iN : Ng[0]? = some a) (va : Vis sg a)
    (gives : LamX.GivesTo X Ng x sg g cdv bg a (X.env.qual ++ "<lambda>") TT) (B : LamX.TabB X.base X.mg k P) (ek : X.env.code = .ref k) (hr : Room (n + 2) X.A) (L : LamX.LamS X.env.scope sc) (nd : defaultsOf ar X.env = ([], []))
    (bind0 : ∀ (q : Str) (cl : List (Str × Addr)) (pm cv ctv : Value), bindArgs (PySem.W.kla_fn "<lambda>" q ar bd sc cl pm cv ctv) ⟨[], []⟩ = pure [])
    (body : ∀ (A : Around) (outer : List Env) (s : Shared) (H : Hp) (E : XK) (f c' : Addr), Room n (A.deeper (LamX.lamEnv X sc s.heap.objs.size f c')) → PE (LamX.lamCx X A outer s H E sc f c') bd (t E))
    (d1 : (x == ("__debug__" : Str)) = false := by decide) (d2 : (a == ("__debug__" : Str)) = false := by decide) (d3 : (a == ("__classdict__" : Str)) = false := by decide) :
    PE X (.Call (.Name x p) [.Lambda ar bd sc lp] [] pos) (tLam2 (X.env.qual ++ "<lambda>") P TT t) := by
  constructor
  intro pins s σ H Q J h
  obtain ⟨ps, ⟨eP, tr, cs⟩, h⟩ := h
  apply wpAny_Call_Name_kw
  apply ld_glob J hg hm _ d1
  apply PySem.W.callWith_K (h₀ := X.base) J.ok.mod.kin hk _ (by rfl) (by rfl)
  show wpAny _ _ (spliced ((false, eval (.Lambda ar bd sc lp) X.env) :: backTo pos (starEach [] X.env))) _ _ s
  apply Calls.spliced_cons
  apply lam_new J B ek eP tr cs nd (L.has J.ok)
  intro f b pm2 ct2 H1 s1 J1 lh of nf ffr hb
  apply Calls.spliced_nil
  refine ⟨J1.kIn, ?_⟩
  have called : codeAny (model X.prog X.w) X.A (.call (.ref g) ⟨[.ref f], []⟩) (CR C8.CX0 X.stack X.prog X.w H1 s1 Q C8.E0) s1 := by
    apply LamX.run_ofS (N := Ng) (ps := [a]) (us := [.ref f]) (vs := [.ref f]) lk cg Sg hr J1.env0 (bi s1 [.ref f] J1.kIn rfl) (.cons rfl .nil) rfl
    intro hr2
    obtain ⟨u, hu, qu⟩ := gives f b s1 H1 Q (fun E H' Q' => t E σ H' Q') (fun W pn xe E p1 p2 tk hW => LamX.pe_act (i := 0) J1 L of nf ffr (bind0 _ _ _ _ _) tk hW hr2 (fun A outer s H hr3 => body A outer s H E f b hr3) iN va d2 d3) hb (h H1 lh)
    exact ⟨u, hu.nox, qu⟩
  apply wpAny_call
  apply codeAny_mono called
  intro r s2 hq
  match r, hq with
  | .error e, hq => exact (show False from hq).elim
  | .ok (.ret u), hq => exact J1.after hq
section
variable {K : PySem.W.Frag} {G : Gx}
theorem lam_step {w : Wd} {l t : Nat} {q : Str} (hl : w.S.get l = some (.tab t q)) (o : Ok K G w) : ∃ ps, TabP w.H (G.tm t) q ps ∧ ∀ H1, LamH q (G.tm t) ps w.H H1 → Fr w { w with H := H1 } ∧ Ok K G { w with H := H1 } := by
  obtain ⟨a, ia, ⟨⟨ea, em⟩, ps, e1, e2, e3⟩⟩ := o.obj l _ hl
  subst ea
  refine ⟨ps, ⟨e1, e2, fun p v h => let ⟨b, h1, h2, _⟩ := e3 p v h; ⟨b, h1, h2⟩⟩, fun H1 lh => ?_⟩
  rcases lh with rfl | ⟨k, more, nk, rfl, tr, cs⟩
  · exact ⟨Fr.refl w, o⟩
  have nU : ¬ w.U k := fun z => by
    obtain ⟨x, hx⟩ := o.uh z
    rw [nk] at hx
    cases hx
  have nE : ¬ w.Ex k := o.fresh nk
  have pk : G.tm t ≠ k := ne_of_none e1 nk
  have at_ : ∀ b, b ≠ G.tm t → b ≠ k → upd (upd w.H (G.tm t) (.tbl (ps ++ more))) k (LamX.CodeO k q) b = w.H b := fun b h1 h2 => by rw [upd_ne h2, upd_ne h1]
  have ff : Fr w { w with H := upd (upd w.H (G.tm t) (.tbl (ps ++ more))) k (LamX.CodeO k q) } := by
    refine ⟨fun _ _ e => e, fun b u e n => ⟨?_, n⟩, fun b u z e => ?_, rfl⟩
    · show upd _ k _ b = _
      rw [at_ b (fun z => n ⟨l, by rw [z]; exact ia⟩) (ne_of_none e nk)]
      exact e
    · show upd _ k _ b = _
      rw [at_ b (fun z => by rw [z, e1] at e; cases e) (ne_of_none e nk)]
      exact e
  refine ⟨ff, fun l2 u e => ?_, o.inj, o.dom, o.nxt, o.dis, fun b hb => ?_, fun b ps2 e => ?_, fun b φ hb => ?_⟩
  · obtain ⟨b, h1, h2⟩ := o.obj l2 u e
    refine ⟨b, h1, ?_⟩
    by_cases hbp : b = G.tm t
    · rw [hbp] at h1 h2 ⊢
      have el := o.inj _ _ _ h1 ia
      rw [el, hl] at e
      cases e
      refine ⟨⟨rfl, em⟩, ps ++ more, ?_, tr, fun p v hv => ?_⟩
      · show upd _ k _ _ = _
        rw [upd_ne pk, upd_same]
      · rcases cs p v hv with hv | hv
        · obtain ⟨c, c1, c2, c3⟩ := e3 p v hv
          exact ⟨c, c1, ff.mv.hp c _ c2 c3⟩
        · refine ⟨k, hv, ?_, nE⟩
          show upd _ k _ k = _
          rw [upd_same]
    · obtain ⟨x, hx⟩ := h2.some
      exact h2.mono ff.mv (at_ b hbp (ne_of_none hx nk))
  · obtain ⟨x, hx⟩ := o.bh b hb
    exact ⟨x, (ff.hp b x hx (o.dis b hb)).1⟩
  · have e : upd (upd w.H (G.tm t) (.tbl (ps ++ more))) k (LamX.CodeO k q) b = some (.tbl ps2) := e
    by_cases h1 : b = k
    · rw [h1, upd_same] at e
      exact absurd (Option.some.inj e) (LamX.codeO_ne ps2)
    · by_cases h2 : b = G.tm t
      · exact ⟨l, by rw [h2]; exact ia⟩
      · rw [at_ b h2 h1] at e
        exact o.tb b ps2 e
  · obtain ⟨x, hx⟩ := o.bh b hb
    show upd _ k _ b ≠ _
    rw [at_ b (fun z => o.dis b hb ⟨l, by rw [z]; exact ia⟩) (ne_of_none hx nk)]
    exact o.bx b φ hb
/-- the except suite answers as res says -/
def Suite (K : PySem.W.Frag) (G : Gx) (CS : Addr) (i n : Nat) (ts : Addr → Value → Option Addr → TS) (res : Nat → List (Str × D) → Option D) : Prop := ∀ c fs d0, res c fs = some d0 → PySem.W.exmOne K (.ref (G.cm c)) (.ref CS) = some true ∧
  ∀ (w : Wd) (d : Option Addr) (H' : Hp) (a : Addr) (σ : L2.St) (Q : VK), Ok K G w → XR K w fs d H' → σ.length = n → Kd K G w d0 w.S Q → ts a (.ref (G.cm c)) d { nx := fun _ H2 => Q .non H2, rt := Q } (σ.set i (some (.ref a))) H'
theorem se_told {l t : Nat} {q : Str} {CS : Addr} {i n : Nat} {ts : Addr → Value → Option Addr → TS} {res : Nat → List (Str × D) → Option D} {te : XK → TE} {run : EvV} (hs : Suite K G CS i n ts res) (hx : ∀ E, SEX E K G (te E) run) :
    SE K G (tLam2 q (G.tm t) (TTold2 K CS i n ts) te) (eTold l t q run res) := fun w σ ρ d S' o rs h Q k => by
  unfold eTold at h
  split at h
  · rename_i hl
    obtain ⟨⟨z, S1⟩, h1, h2⟩ := bnd h
    obtain ⟨ps, hp, st⟩ := lam_step hl o
    refine ⟨ps, hp, fun H1 lh => ?_⟩
    obtain ⟨f1, o1⟩ := st H1 lh
    refine hx _ { w with H := H1 } σ ρ z S1 o1 (rs.fr o f1) h1 Q ?_
    cases z with
    | ok d1 =>
      cases h2
      exact Kd.from k f1
    | ex c fs =>
      dsimp only at h2
      cases e : res c fs with
      | none => rw [e] at h2; cases h2
      | some d0 =>
        rw [e] at h2
        cases h2
        obtain ⟨x1, x2⟩ := hs c fs _ e
        intro w2 dd H' e2 f2 o2 xr
        subst e2
        exact ⟨x1, fun a _ σ' hl => x2 w2 dd H' a σ' Q o2 xr hl (Kd.from k (f1.trans f2))⟩
  · cases h
end
end AH
set_option maxRecDepth 100000
set_option maxHeartbeats 2000000
namespace AH
open PySem PySem.Spec PyProof.Rows L2 TL
def rIsX (K : PySem.W.Frag) (cls : Value) (d : Option Addr) (a : Addr) : List V → Hp → VK → Prop := fun xs H Q => ∃ (C : Addr) (c : V) (cv : Value) (b : Bool), cls = .ref C ∧ ExcC K C ∧ (∀ dd, d = some dd → ∃ fs, H dd = some (.xd fs)) ∧ xs = [.ref a, c] ∧ (∀ u, RelV c u → u = cv) ∧
  PySem.W.kitOne K (.ref C) cv = some b ∧ Q (.bl b) H
theorem call_isX {X : Cx} {a : Addr} {cls : Value} {d : Option Addr} {oe : Obj} {pn : List (Addr × Obj)} (K : PySem.W.Frag) (hz : Zc cls d oe) (hf : ∃ vs, oe.data = .fields vs) (hK : X.K = K := by rfl) : CallR (X.suite a ((a, oe) :: pn)) (.builtin "isinstance") (rIsX K cls d a) := by
  subst hK
  intro pins s σ H xs us Q I r h
  obtain ⟨C, c, cv, b, rfl, T, hd, rfl, hcv, e, q⟩ := h
  obtain ⟨vs, hv⟩ := hf
  cases r with
  | cons rx rr =>
    cases rr with
    | cons rt rr =>
      cases rr
      cases rx
      have ec := hcv _ rt
      subst ec
      have hget := (I.pin (a, oe) (List.mem_append.mpr (.inl List.mem_cons_self))).1
      have J : ∃ od, PySem.W.InstAt s.heap a oe C od := by
        cases d with
        | none => exact ⟨none, hget, hz.1, by unfold PySem.W.notCls; rw [hv] <;> rfl, by rw [hz.2]; trivial⟩
        | some dd =>
          obtain ⟨fs, ef⟩ := hd dd rfl
          have hx : ObjOk X.prog X.w H s.heap dd (.xd fs) := I.hok dd _ ef
          obtain ⟨mA, hns, hr⟩ := hx
          obtain ⟨od, ho, hl⟩ := lookIn_ns hns
          exact ⟨some od, hget, hz.1, by unfold PySem.W.notCls; rw [hv] <;> rfl, by rw [hz.2]; exact ho⟩
      obtain ⟨od, J⟩ := J
      have hcl : (PySem.W.clsIn X.K C).isSome = true := by
        obtain ⟨cd, hc, _⟩ := PySem.W.any_some T.hd
        rw [hc]
        rfl
      exact PySem.W.kia_one (PySem.W.kitx_exc hcl T.hg T.hk T.hs T.ha T.hn T.ht T.hm) I.kIn J e (fun z => nomatch z) fun tk => ⟨.bl b, H, I.kept (t' := tk) fun _ _ z => z, rfl, q⟩
theorem peXf (K : PySem.W.Frag) {X : Cx} {a C : Addr} {oe : Obj} {cls : Value} {d : Option Addr} {pn : List (Addr × Obj)} {e : Expr} {te : TE} {pos : Pos} {n : Str} (T : XfC K C) (hno : PySem.W.findIn K (.ref C) n = some none) (hz : Zc cls d oe) (hf : ∃ vs, oe.data = .fields vs)
    (he : PE (X.suite a ((a, oe) :: pn)) e te) (hK : X.K = K := by rfl) (hb : attributeBase e n X.env (eval e X.env) = eval e X.env := by rfl) : PE (X.suite a ((a, oe) :: pn)) (.Attribute e n pos) (tXf a cls d C n te) := by
  subst hK
  exact pe_xf T hno hz hf he hb
def eIsX (a : Addr) (d : Option Addr) (b : Bool) (i : Nat) : Ev := fun ρ S => match ρ[i]? with
  | some (.val (.exn a' d' _ _)) => if a' = a ∧ d' = d then some (.bl b, S) else none
  | _ => none
def eXf (a : Addr) (d : Option Addr) (b : Bool) (i : Nat) (f : Str) : Ev := fun ρ S => match ρ[i]? with
  | some (.val (.exn a' d' ns vs)) => if b = true ∧ a' = a ∧ d' = d ∧ d.isSome = true then ((ns.zip vs).lookup f).map fun x => (x, S) else none
  | _ => none
def boolsOf : List D → Option (List Bool)
  | [] => some []
  | .bl b :: r => (boolsOf r).map (b :: ·)
  | _ => none
def fCntB (x : D) (ys : List D) (S : Sto) : Option (D × Sto) := match x, ys with
  | .lst ds, [.bl b] => (boolsOf ds).map fun bs => (.int (bs.countP fun z => z == b : Nat), S)
  | _, _ => none
noncomputable def fIdxD (x : D) (ys : List D) (S : Sto) : Option (D × Sto) := match x, ys with
  | .lst xs, [y] => match toPyS S (.lst xs), toPyS S y with
    | some (.list ps), some p => if SeqAt.shaped (.list ps) = true ∧ SeqAt.shaped p = true then (ps.findIdx? fun z => PyData.eqv z p).map fun j => (.int (j : Nat), S) else none
    | _, _ => none
  | _, _ => none
def eBMV (f : D → List D → Sto → Option (D × Sto)) (eo : Ev) (el : EvL) : Ev := fun ρ S => (eo ρ S).bind fun x => match x.1 with
  | .lst _ => (el ρ x.2).bind fun y => f x.1 y.1 y.2
  | _ => none
/-- xs.count(b) of flat ones -/
def rCntF (K : PySem.W.Frag) : V → List V → Hp → VK → Prop := fun x xs H Q => ∃ (p : Addr) (ys : List V) (y : V), x = .ref p ∧ xs = [y] ∧ SqL K H p ys ∧ flatV y = true ∧ ys.all flatV = true ∧ Q (.int (ys.countP fun z => eqV z y : Nat)) H
theorem cntF_eq {y : V} {u : Value} : ∀ {ys : List V} {us : List Value}, Vals ys us → ys.all flatV = true → us.countP (eqU y) = ys.countP fun z => eqV z y
  | _, _, .nil, _ => rfl
  | z :: ys, v :: us, .cons r t, f => by
    rw [List.all_cons, Bool.and_eq_true] at f
    rw [List.countP_cons, List.countP_cons, cntF_eq (u := u) t f.2, eqU_of r f.1]
theorem mt_cntF {X : Cx} (K : PySem.W.Frag) (hK : X.K = K := by rfl) : MtR X "list.count" (rCntF K) := by
  subst hK
  intro pins s σ H x xs v us Q I rx rxs h
  obtain ⟨p, ys, y, rfl, rfl, hs, fy, fys, q⟩ := h
  cases rx
  obtain ⟨u, rfl, ru⟩ := rxs.one
  obtain ⟨its, rv, ⟨⟨cls, dd, data, sl⟩, n, ho, hc, hdn, hd⟩, hlen⟩ := I.list hs
  simp only at hc hd
  subst hc hd
  refine call_meets PySem.F.slot_list_count ⟨_, ho, rfl⟩ PySem.F.entry_list_count (PySem.F.args_list_count_2 _ _) (SeqAt.list_countAt p its.toArray n dd sl u (eqU y)) ⟨ho, fun z hz => mem_eqAt ru fy rv fys z (by simpa using hz), ?_⟩
  have e : its.toArray.toList.countP (eqU y) = ys.countP fun z => eqV z y := cntF_eq (u := u) rv fys
  refine ⟨.int (ys.countP fun z => eqV z y : Nat), H, I.tok _, ⟨s.toks, ?_⟩, q⟩
  rw [← e]
theorem mtIdxD {X : Cx} (K : PySem.W.Frag) {k : Nat} (hr : Room k X.A) (hK : X.K = K := by rfl) : MtR X "list.index" (rIndexD K) := by
  subst hK
  exact mt_indexD (by have := hr.un; omega)
section
variable {K : PySem.W.Frag} {G : Gx}
theorem se_bmV {r : V → List V → Hp → VK → Prop} {f : D → List D → Sto → Option (D × Sto)} {to : TE} {ta : TA} {eo : Ev} {el : EvL} (hr : SM K G r f) (ho : SE K G to eo) (ha : SA K G ta el) : SE K G (tBM K "list" r to ta) (eBMV f eo el) := fun w σ ρ d S' o rs h Q k => by
  obtain ⟨⟨dx, S1⟩, h1, h2⟩ := bnd h
  refine ho w σ ρ dx S1 o rs h1 _ fun x w1 e1 f1 o1 r1 => ?_
  subst e1
  dsimp only at h2
  split at h2
  · rename_i es
    obtain ⟨⟨ds, S2⟩, h3, h4⟩ := bnd h2
    refine ⟨?_, ha w1 σ ρ ds S2 o1 (rs.fr o f1) h3 _ fun xs w2 e2 f2 o2 r2 => ?_⟩
    · cases r1 with
      | lst q _ _ => exact ty_list q
    · subst e2
      exact hr w2 x _ xs ds d S' o2 (r1.mono f2.mv) r2 h4 Q (Kd.from k (f1.trans f2))
  · cases h2
theorem bools_rv {w : Wd} : ∀ {ds : List D} {bs : List Bool} {vs : List V}, boolsOf ds = some bs → RVs K w vs ds → vs = bs.map V.bl
  | [], bs, vs, h, r => by
    cases h
    cases r
    rfl
  | .bl b :: ds, bs, vs, h, r => by
    unfold boolsOf at h
    cases e : boolsOf ds with
    | none => rw [e] at h; cases h
    | some bs' =>
      rw [e] at h
      cases h
      cases r with
      | cons r1 r2 =>
        cases r1
        rw [bools_rv e r2]
        rfl
theorem sm_cntB : SM K G (rCntF K) fCntB := fun w x dx xs ds d S' o rx rxs hh Q k => by
  unfold fCntB at hh
  split at hh
  · rename_i es b
    cases e : boolsOf es with
    | none => rw [e] at hh; cases hh
    | some bs =>
      rw [e] at hh
      cases hh
      obtain ⟨v, rfl, r1⟩ := rxs.one_of
      cases r1
      cases rx with
      | lst q1 q2 q3 =>
        rename_i a vs
        have ev := bools_rv e q3
        subst ev
        refine ⟨a, bs.map V.bl, .bl b, rfl, rfl, SqL.of q1, rfl, ?_, ?_⟩
        · rw [List.all_map]
          exact List.all_eq_true.mpr fun z _ => rfl
        · have ec : (bs.map V.bl).countP (fun z => eqV z (.bl b)) = bs.countP fun z => z == b := by
            rw [List.countP_map]
            exact congrArg (fun q => bs.countP q) (funext fun z => by cases z <;> cases b <;> rfl)
          rw [ec]
          exact Kd.now k o .int
  · cases hh
theorem sm_idxD : SM K G (rIndexD K) fIdxD := fun w x dx xs ds d S' o rx rxs hh Q k => by
  unfold fIdxD at hh
  split at hh
  · rename_i es y
    split at hh
    · rename_i ps p h1 h2
      split at hh
      · rename_i hsh
        cases e : ps.findIdx? (fun z => PyData.eqv z p) with
        | none => rw [e] at hh; cases hh
        | some j =>
          rw [e] at hh
          cases hh
          obtain ⟨v, rfl, r1⟩ := rxs.one_of
          obtain ⟨hj, hy, hno⟩ := List.findIdx?_eq_some_iff_getElem.mp e
          have dp := toPyS_dp o rx h1
          cases rx with
          | lst q1 q2 q3 =>
            refine ⟨_, v, p, ps, j, ps[j], rfl, rfl, dp, toPyS_dp o r1 h2, hsh.1, hsh.2, List.getElem?_eq_getElem hj, hy, fun m z hm hz => ?_, Kd.now k o .int⟩
            obtain ⟨hl, hz⟩ := List.getElem?_eq_some_iff.mp hz
            rw [← hz]
            exact Bool.eq_false_iff.mpr (hno m hm)
      · cases hh
    · cases hh
  · cases hh
theorem se_isX {c i : Nat} {a : Addr} {d : Option Addr} {cv : Value} {vv : V} {b : Bool} (T : ExcC K (G.cm c)) (hk : PySem.W.kitOne K (.ref (G.cm c)) cv = some b) (hv : ∀ u, RelV vv u → u = cv) : SE K G (tCB (rIsX K (.ref (G.cm c)) d a) (tCons (tVar i) (tCons (tC vv) tNil))) (eIsX a d b i) := fun w σ ρ x S' o rs h Q k => by
  unfold eIsX at h
  split at h
  · rename_i a' d' ns vs e
    split at h
    · rename_i hh
      obtain ⟨rfl, rfl⟩ := hh
      cases h
      obtain ⟨v, h1, h2⟩ := rs.val i _ e
      refine ⟨v, h1, ?_⟩
      refine ⟨G.cm c, vv, cv, b, rfl, T, fun dd e2 => ?_, ?_, hv, hk, Kd.now k o .bl⟩
      · subst e2
        cases h2 with
        | exd z1 z2 z3 => exact ⟨_, z1⟩
      · cases h2 <;> rfl
    · cases h
  · cases h
theorem lk_rv {w : Wd} {f : Str} {d0 : D} : ∀ {ys : List (Str × V)} {ds : List D}, RVs K w (ys.map (·.2)) ds → ((ys.map (·.1)).zip ds).lookup f = some d0 → ∃ v, ys.lookup f = some v ∧ RV K w v d0
  | [], _, _, h => by simp at h
  | (n, y) :: ys, ds, r, h => by
    cases r with
    | cons r1 r2 =>
      rename_i d ds'
      have h' : (match f == n with | true => some d | false => ((ys.map (·.1)).zip ds').lookup f) = some d0 := h
      show ∃ v, (match f == n with | true => some y | false => ys.lookup f) = some v ∧ _
      cases e : f == n with
      | true =>
        rw [e] at h'
        cases h'
        exact ⟨y, rfl, r1⟩
      | false =>
        rw [e] at h'
        exact lk_rv r2 h'
theorem se_xf {c i : Nat} {a C : Addr} {d : Option Addr} {b : Bool} {f : Str} (hc : b = true → G.cm c = C) : SE K G (tXf a (.ref (G.cm c)) d C f (tVar i)) (eXf a d b i f) := fun w σ ρ x S' o rs h Q k => by
  unfold eXf at h
  split at h
  · rename_i a' d' ns vs e
    split at h
    · rename_i hh
      obtain ⟨hb, rfl, rfl, hs⟩ := hh
      cases el : (ns.zip vs).lookup f with
      | none => rw [el] at h; cases h
      | some d0 =>
        rw [el] at h
        cases h
        obtain ⟨v, h1, h2⟩ := rs.val i _ e
        cases h2 with
        | ex0 => cases hs
        | exd z1 z2 z3 =>
          obtain ⟨u, l1, l2⟩ := lk_rv z3 el
          exact ⟨_, h1, rfl, by rw [hc hb], _, _, u, rfl, z1, l1, Kd.now k o l2⟩
    · cases h
  · cases h
def rhoE (n i : Nat) (x : D) : Rho := (List.replicate n Sl.no).set i (.val x)
theorem rhoE_at {n i j : Nat} {x : D} {s : Sl} (h : (rhoE n i x)[j]? = some s) : (j = i ∧ s = .val x) ∨ s = .no := by
  unfold rhoE at h
  rw [List.getElem?_set] at h
  split at h
  · rename_i e
    split at h
    · cases h
      exact .inl ⟨e.symm, rfl⟩
    · cases h
  · rw [List.getElem?_replicate] at h
    split at h
    · cases h
      exact .inr rfl
    · cases h
theorem suite_ok {CS : Addr} {i n : Nat} {ts : Addr → Value → Option Addr → TS} {res : Nat → List (Str × D) → Option D} {b : Nat → Addr → Option Addr → EvS} (hi : i < n) (hs : ∀ c a d fs d0, res c fs = some d0 → SS K G (ts a (.ref (G.cm c)) d) (b c a d))
    (he : ∀ c fs d0, res c fs = some d0 → PySem.W.exmOne K (.ref (G.cm c)) (.ref CS) = some true)
    (hb : ∀ c fs d0 a d S, res c fs = some d0 → (fs ≠ [] → d.isSome = true) → ∃ ρ', b c a d (rhoE n i (.exn a d (fs.map (·.1)) (fs.map (·.2)))) S = some (.rt d0, ρ', S)) : Suite K G CS i n ts res := fun c fs d0 hr => by
  refine ⟨he c fs d0 hr, fun w d H' a σ Q o xr hl k => ?_⟩
  have main : ∀ w2 : Wd, w2.H = H' → w2.S = w.S → Fr w w2 → Ok K G w2 → RV K w2 (.ref a) (.exn a d (fs.map (·.1)) (fs.map (·.2))) → (fs ≠ [] → d.isSome = true) → ts a (.ref (G.cm c)) d { nx := fun _ H2 => Q .non H2, rt := Q } (σ.set i (some (.ref a))) H' := fun w2 eH eS f2 o2 r2 hd => by
    subst eH
    obtain ⟨ρ', hrun⟩ := hb c fs d0 a d w2.S hr hd
    have nac : ∀ (j : Nat) (es : List D), (rhoE n i (.exn a d (fs.map (·.1)) (fs.map (·.2))))[j]? ≠ some (.acc es) := fun j es z => by
      rcases rhoE_at z with ⟨_, q⟩ | q <;> cases q
    have sr : SR K G w2 w2 (σ.set i (some (.ref a))) (rhoE n i (.exn a d (fs.map (·.1)) (fs.map (·.2)))) := by
      refine ⟨o2, ⟨?_, fun j x z => ?_, fun j es z => absurd z (nac j es)⟩, fun _ _ e => e, fun _ _ e n => ⟨e, n⟩, fun _ _ _ e => e, fun b => ⟨.inl, fun z => z.elim id fun ⟨j, es, z, _⟩ => absurd z (nac j es)⟩, fun b ⟨j, es, z, _⟩ => absurd z (nac j es), fun j j2 es fs b z => absurd z (nac j es), o2.bh⟩
      · unfold rhoE
        simp [hl]
      · rcases rhoE_at z with ⟨rfl, q⟩ | q
        · cases q
          exact ⟨.ref a, by rw [List.getElem?_set_self (by omega)], r2⟩
        · cases q
    refine hs c a d fs d0 hr w2 w2 _ _ _ ρ' _ sr hrun _ fun v w' e f o' r => ?_
    exact k v w' (e.trans eS) (f2.trans f) o' r
  rcases xr with ⟨rfl, rfl, rfl⟩ | ⟨dd, ys, rfl, hn, e1, r1, rfl⟩
  · exact main w rfl rfl (Fr.refl w) o .ex0 (fun z => absurd rfl z)
  · refine main (w.add dd (.xd ys)) rfl rfl (Fr.add hn) (o.add hn) ?_ fun _ => rfl
    rw [← e1]
    exact .exd upd_same (o.fresh hn) (r1.mono (Fr.add hn).mv)
end
end AH
set_option maxRecDepth 100000
set_option maxHeartbeats 2000000
namespace AH
open PySem PySem.Spec PyProof.Rows L2 TL
def fIdxB (x : D) (ys : List D) (S : Sto) : Option (D × Sto) := match x, ys with
  | .lst ds, [.bl b] => (boolsOf ds).bind fun bs => (bs.findIdx? fun z => z == b).map fun j => (.int (j : Nat), S)
  | _, _ => none
theorem mtIdx {X : Cx} (K : PySem.W.Frag) (hK : X.K = K := by rfl) : MtR X "list.index" (rIndex K) := by
  subst hK
  exact mt_index
def toldV (c : Nat) (fs : List (Str × D)) : Option D := match c, fs with
  | 100, [] => some (.tup [.str [66, 97, 100, 67, 111, 117, 110, 116], .int 0])
  | 101, [] => some (.tup [.str [66, 97, 100, 70, 105, 101, 108, 100, 115], .int 0])
  | 102, [] => some (.tup [.str [66, 97, 100, 76, 111, 111, 107], .int 0])
  | 103, [(n, x)] => if n = "place" then some (.tup [.str [66, 97, 100, 83, 105, 103, 110], x]) else none
  | 104, [] => some (.tup [.str [66, 97, 100, 83, 105, 122, 101], .int 0])
  | 105, [(n, x)] => if n = "row" then some (.tup [.str [66, 97, 100, 84, 101, 120, 116], x]) else none
  | 106, [] => some (.tup [.str [78, 111, 76, 111, 111, 107], .int 0])
  | _, _ => none
/-- what toldV answers of -/
theorem toldV_is {c : Nat} {fs : List (Str × D)} {d0 : D} (h : toldV c fs = some d0) : (c = 100 ∧ fs = [] ∧ d0 = .tup [.str [66, 97, 100, 67, 111, 117, 110, 116], .int 0]) ∨ (c = 101 ∧ fs = [] ∧ d0 = .tup [.str [66, 97, 100, 70, 105, 101, 108, 100, 115], .int 0]) ∨
    (c = 102 ∧ fs = [] ∧ d0 = .tup [.str [66, 97, 100, 76, 111, 111, 107], .int 0]) ∨ (c = 103 ∧ ∃ x, fs = [(("place" : Str), x)] ∧ d0 = .tup [.str [66, 97, 100, 83, 105, 103, 110], x]) ∨ (c = 104 ∧ fs = [] ∧ d0 = .tup [.str [66, 97, 100, 83, 105, 122, 101], .int 0]) ∨
    (c = 105 ∧ ∃ x, fs = [(("row" : Str), x)] ∧ d0 = .tup [.str [66, 97, 100, 84, 101, 120, 116], x]) ∨ (c = 106 ∧ fs = [] ∧ d0 = .tup [.str [78, 111, 76, 111, 111, 107], .int 0]) := by
  unfold toldV at h
  split at h
  · cases h; exact .inl ⟨rfl, rfl, rfl⟩
  · cases h; exact .inr (.inl ⟨rfl, rfl, rfl⟩)
  · cases h; exact .inr (.inr (.inl ⟨rfl, rfl, rfl⟩))
  · split at h
    · rename_i n x e
      cases h
      exact .inr (.inr (.inr (.inl ⟨rfl, x, by rw [e], rfl⟩)))
    · cases h
  · cases h; exact .inr (.inr (.inr (.inr (.inl ⟨rfl, rfl, rfl⟩))))
  · split at h
    · rename_i n x e
      cases h
      exact .inr (.inr (.inr (.inr (.inr (.inl ⟨rfl, x, by rw [e], rfl⟩)))))
    · cases h
  · cases h; exact .inr (.inr (.inr (.inr (.inr (.inr ⟨rfl, rfl, rfl⟩)))))
  · cases h
section
variable {K : PySem.W.Frag} {G : Gx}
theorem sm_idxB : SM K G (rIndex K) fIdxB := fun w x dx xs ds d S' o rx rxs hh Q k => by
  unfold fIdxB at hh
  split at hh
  · rename_i es b
    obtain ⟨bs, h1, h2⟩ := bnd hh
    cases e : bs.findIdx? (fun z => z == b) with
    | none => rw [e] at h2; cases h2
    | some j =>
      rw [e] at h2
      cases h2
      obtain ⟨v, rfl, r1⟩ := rxs.one_of
      cases r1
      cases rx with
      | lst q1 q2 q3 =>
        rename_i a vs
        have ev := bools_rv h1 q3
        subst ev
        obtain ⟨hj, hy, hno⟩ := List.findIdx?_eq_some_iff_getElem.mp e
        have eq : ∀ x y : Bool, eqV (.bl x) (.bl y) = (x == y) := fun x y => by cases x <;> cases y <;> rfl
        refine ⟨a, bs.map V.bl, .bl b, j, .bl bs[j], rfl, rfl, SqL.of q1, rfl, ?_, ?_, ?_, fun m z hm hz => ?_, Kd.now k o .int⟩
        · rw [List.all_map]
          exact List.all_eq_true.mpr fun z _ => rfl
        · rw [List.getElem?_map, List.getElem?_eq_getElem hj]
          rfl
        · rw [eq]
          exact hy
        · rw [List.getElem?_map] at hz
          cases e2 : bs[m]? with
          | none => rw [e2] at hz; cases hz
          | some z' =>
            rw [e2] at hz
            cases hz
            obtain ⟨hl, hz⟩ := List.getElem?_eq_some_iff.mp e2
            rw [eq, ← hz]
            exact Bool.eq_false_iff.mpr (hno m hm)
  · cases hh
/-- what is known of the class of the number c -/
structure ToldG (K : PySem.W.Frag) (G : Gx) (c : Nat) : Prop where
  e : ExcC K (G.cm c)
  m : PySem.W.exmOne K (.ref (G.cm c)) (.ref (He.ga K "HallError")) = some true
  v : PySem.W.kitOne K (.ref (G.cm c)) (.type "ValueError") = some true
  k : ∀ j x, kindsX[j]? = some x → PySem.W.kitOne K (.ref (G.cm c)) (.ref (He.ga K x)) = some (decide (c = 100 + j))
  f : ∀ j x, kindsX[j]? = some x → decide (c = 100 + j) = true → G.cm c = He.ga K x
theorem told_at (hG : ∀ j x, kindsX[j]? = some x → G.cm (100 + j) = He.ga K x) (E : ToldK K) {c : Nat} {fs : List (Str × D)} {d0 : D} (h : toldV c fs = some d0) : ToldG K G c := by
  have key : ∃ i, i < 7 ∧ c = 100 + i := by
    rcases toldV_is h with ⟨h, _⟩ | ⟨h, _⟩ | ⟨h, _⟩ | ⟨h, _⟩ | ⟨h, _⟩ | ⟨h, _⟩ | ⟨h, _⟩ <;> exact ⟨c - 100, by omega, by omega⟩
  obtain ⟨i, hi, rfl⟩ := key
  have hi : i < kindsX.length := hi
  have hx : kindsX[i]? = some kindsX[i] := List.getElem?_eq_getElem hi
  have hm : kindsX[i] ∈ kindsX := List.getElem_mem _
  have e := hG i _ hx
  refine ⟨by rw [e]; exact (E.c _ hm).1, by rw [e]; exact E.m _ hm, by rw [e]; exact E.v _ hm, fun j x hj => ?_, fun j x hj q => ?_⟩
  · rw [e, E.k _ hm x (List.mem_of_getElem? hj)]
    have nd : kindsX.Nodup := by decide +kernel
    obtain ⟨hjl, hjx⟩ := List.getElem?_eq_some_iff.mp hj
    congr 1
    have : (kindsX[i] = x) ↔ (100 + i = 100 + j) := by
      constructor
      · intro q
        have := (List.getElem_inj nd).mp (q.trans hjx.symm)
        omega
      · intro q
        have e2 : i = j := by omega
        subst e2
        exact hjx
    exact decide_eq_decide.mpr this
  · have : i = j := by
      have := of_decide_eq_true q
      omega
    subst this
    exact hG i x hj
end
theorem peTold {X : Cx} {TT : (XK → Hp → VK → Prop) → Hp → VK → Prop} {x a : Str} {g k P : Addr} {n : Nat} {fd : FuncData} {pg : Arguments} {bg : List Stmt} {sg : Scope} {Ng : List Str} {ar : Arguments} {bd : Expr} {sc : Scope} {t : XK → TE} {p lp pos : Pos}
    (F : FunD X.K x x pg bg sg [] [] g fd) (hg : Gl X x) (hm : X.mg x = some (.ref g)) (bi : L2.Binds X.K fd [a] []) (Sg : FnScope Ng [a] sg) (iN : Ng[0]? = some a) (va : Vis sg a)
    (gives : ∀ cdv, LamX.GivesTo X Ng x sg g cdv bg a (X.env.qual ++ "<lambda>") TT) (B : LamX.TabB X.base X.mg k P) (ek : X.env.code = .ref k) (hr : Room (n + 2) X.A) (L : LamX.LamS X.env.scope sc) (nd : defaultsOf ar X.env = ([], []))
    (bind0 : ∀ (q : Str) (cl : List (Str × Addr)) (pm cv ctv : Value), bindArgs (PySem.W.kla_fn "<lambda>" q ar bd sc cl pm cv ctv) ⟨[], []⟩ = pure [])
    (body : ∀ (A : Around) (outer : List Env) (s : Shared) (H : Hp) (E : XK) (f c' : Addr), Room n (A.deeper (LamX.lamEnv X sc s.heap.objs.size f c')) → PE (LamX.lamCx X A outer s H E sc f c') bd (t E))
    (d1 : (x == ("__debug__" : Str)) = false := by decide) (d2 : (a == ("__debug__" : Str)) = false := by decide) (d3 : (a == ("__classdict__" : Str)) = false := by decide) :
    PE X (.Call (.Name x p) [.Lambda ar bd sc lp] [] pos) (tLam2 (X.env.qual ++ "<lambda>") P TT t) := by
  obtain ⟨oc, od, dV, kV, doc, pm, an, cdv, ct, osl, rfl, lk, hcd, _, _⟩ := F.ex
  exact pe_told hg hm F.kp lk hcd bi Sg iN va (gives cdv) B ek hr L nd bind0 body d1 d2 d3
/-- a def whose code object is known -/
theorem fun_okK {P : Program} {w : World} {K : PySem.W.Frag} {mg : Str → Option Value} {base : Heap} {CX : CXT} {x qual : Str} {pg : Arguments} {body : List Stmt} {scope : Scope} {dvs : List V} {kws : List (Str × V)} {f : Addr} {fd : FuncData} {N ps : List Str} {k : Nat} {sp : Sp} {p : He.Defn}
    (F : FunD K x qual pg body scope dvs kws f fd) (hp : He.fAd K p = f) (S : FnScope N ps scope) (len : ∀ vs H Q E, sp vs H Q E → vs.length = ps.length)
    (hbody : ∀ (A : Around) (outer : List Env) (s : Shared) (H : Hp) (vs : List V) (Q : VK) (E : XK), Room k (A.deeper (envOfC qual scope s.heap.objs.size f (.ref (He.codeOf K p)))) → sp vs H Q E →
      ∃ t, PSs (cxOf CX P w K mg base N qual scope f (.ref (He.codeOf K p)) A outer s H E) body t ∧ t { nx := fun _ H' => Q .non H', rt := Q } (L2.start N vs) H) : FnOk P w K mg base CX (k + 1) f fd ps sp := by
  obtain ⟨oc, od, dV, kV, doc, pm, an, cdv, ct, osl, rfl, lk, hcd, _, _⟩ := F.ex
  obtain ⟨c, rfl⟩ := He.codeIn_ref hcd
  have e : He.codeOf K p = c := He.codeOf_eq (by rw [hp]; exact lk) rfl
  rw [e] at hbody
  exact fn_of lk hcd S len fun A outer s H vs Q E hr h => hbody A outer s H vs Q E hr h
def suiteOf (st : Stmt) : List Stmt := match defBody st with
  | [.Try _ [.ExceptHandler _ _ b _] _ _ _] => b
  | _ => []
end AH
set_option maxRecDepth 100000
set_option maxHeartbeats 2000000
namespace AH
open PySem L2 TL
abbrev PX := FlX → Rho → Sto → Prop
def WX (o : Option (FlX × Rho × Sto)) (P : PX) : Prop := ∃ f ρ S, o = some (f, ρ, S) ∧ P f ρ S
section
variable {S : Sto} {ρ : Rho} {P : PX}
theorem WX.mono {o : Option (FlX × Rho × Sto)} {P' : PX} (h : WX o P) (k : ∀ f ρ S, P f ρ S → P' f ρ S) : WX o P' := by
  obtain ⟨f, r, S, e, p⟩ := h
  exact ⟨f, r, S, e, k f r S p⟩
def nxtX (b : EvX) (P : PX) : PX := fun f ρ S => match f with
  | .ok .nx => WX (b ρ S) P
  | f => P f ρ S
theorem wx_seq {a b : EvX} (h : WX (a ρ S) (nxtX b P)) : WX (xSeq a b ρ S) P := by
  obtain ⟨f, ρ1, S1, e, p⟩ := h
  unfold xSeq
  rw [e]
  cases f with
  | ok f =>
    cases f with
    | nx => exact p
    | bk => exact ⟨_, _, _, rfl, p⟩
    | ct => exact ⟨_, _, _, rfl, p⟩
    | rt d => exact ⟨_, _, _, rfl, p⟩
    | rf d => exact ⟨_, _, _, rfl, p⟩
  | ex c v => exact ⟨_, _, _, rfl, p⟩
theorem wx_L {a : EvS} (h : WS (a ρ S) fun f ρ1 S1 => P (.ok f) ρ1 S1) : WX (xL a ρ S) P := by
  obtain ⟨f, ρ1, S1, e, p⟩ := h
  refine ⟨.ok f, ρ1, S1, ?_, p⟩
  unfold xL
  rw [e]
  rfl
theorem wx_if {t : EvT} {a b : EvX} (h : W (t ρ S) fun c S1 => Br c (WX (a ρ S1) P) (WX (b ρ S1) P)) : WX (xIf t a b ρ S) P := by
  obtain ⟨c, S1, e, p⟩ := h
  unfold xIf
  rw [e]
  cases c with
  | true => exact p.1 rfl
  | false => exact p.2 rfl
theorem wx_raiseI {c : Nat} {f : Str} {ea : Ev} (h : W (ea ρ S) fun x S1 => P (.ex c [(f, x)]) ρ S1) : WX (xRaiseI c f ea ρ S) P := by
  obtain ⟨x, S1, e, p⟩ := h
  refine ⟨_, _, _, ?_, p⟩
  unfold xRaiseI
  rw [e]
  rfl
/-- a loop that may raise: I holds ahead of each -/
theorem wx_loop {g : EvG} {b : EvX} : ∀ {ds : List D} (I : Nat → Rho → Sto → Prop) {n : Nat} {ρ : Rho} {S : Sto}, I n ρ S →
    (∀ k d ρ S, ds[k]? = some d → I (n + k) ρ S → ∃ ρ1 S1, g d ρ S = some (ρ1, S1) ∧ WX (b ρ1 S1) fun f ρ2 S2 => match f with | .ok .nx => I (n + k + 1) ρ2 S2 | .ex c v => P (.ex c v) ρ2 S2 | _ => False) → (∀ ρ S, I (n + ds.length) ρ S → P (.ok .nx) ρ S) → WX (forX g b ds ρ S) P
  | [], I, n, ρ, S, h, _, he => ⟨_, _, _, rfl, he ρ S h⟩
  | d :: ds, I, n, ρ, S, h, hs, he => by
    obtain ⟨ρ1, S1, e1, f, ρ2, S2, e2, p⟩ := hs 0 d ρ S rfl h
    unfold forX
    rw [e1]
    dsimp only
    rw [e2]
    cases f with
    | ok f =>
      cases f with
      | nx =>
        refine wx_loop (ds := ds) I (n := n + 1) p (fun k d ρ S hk hI => ?_) fun ρ S hI => he ρ S ?_
        · have := hs (k + 1) d ρ S (by simpa using hk) (by rw [show n + (k + 1) = n + 1 + k from by omega]; exact hI)
          rw [show n + (k + 1) + 1 = n + 1 + k + 1 from by omega] at this
          exact this
        · rw [List.length_cons, show n + (ds.length + 1) = n + 1 + ds.length from by omega]
          exact hI
      | bk => exact p.elim
      | ct => exact p.elim
      | rt d => exact p.elim
      | rf d => exact p.elim
    | ex c v => exact ⟨_, _, _, rfl, p⟩
theorem wx_for {it : EvL} {g : EvG} {b : EvX} (h : W (it ρ S) fun ds S1 => WX (forX g b ds ρ S1) P) : WX (xFor it g b ρ S) P := by
  obtain ⟨ds, S1, e, p⟩ := h
  unfold xFor
  rw [e]
  exact p
def endX (P : OutX → Sto → Prop) : PX := fun f ρ S => match f with
  | .ok .nx => P (.ok (.v .non)) S
  | .ok (.rt d) => P (.ok (.v d)) S
  | .ok (.rf ds) => P (.ok (.f ds)) S
  | .ex c fs => P (.ex c fs) S
  | _ => False
theorem wx_run {n m : Nat} {b : EvX} {ds : List D} {P : OutX → Sto → Prop} (hl : ds.length = n) (h : WX (b (rho0 m ds) S) (endX P)) : W (runX n m b ds S) P := by
  obtain ⟨f, ρ1, S1, e, p⟩ := h
  unfold runX
  rw [if_pos hl, e]
  cases f with
  | ok f =>
    cases f with
    | nx => exact w_ret p
    | bk => exact p.elim
    | ct => exact p.elim
    | rt d => exact w_ret p
    | rf d => exact w_ret p
  | ex c v => exact w_ret p
def outV : OutX → VX
  | .ok (.v d) => .ok d
  | .ok (.f es) => .ok (.lst es)
  | .ex c fs => .ex c fs
theorem wv_res {r : Option (OutX × Sto)} {P : VX → Sto → Prop} (h : W r fun z S1 => P (outV z) S1) : W (vRes r) P := by
  obtain ⟨z, S1, e, p⟩ := h
  unfold vRes
  rw [e]
  cases z with
  | ok o =>
    cases o with
    | v d => exact w_ret p
    | f d => exact w_ret p
  | ex c fs => exact w_ret p
theorem wv_call {F : FnX} {el : EvL} {P : VX → Sto → Prop} (h : W (el ρ S) fun ds S1 => W (F ds S1) fun z S2 => P (outV z) S2) : W (vCall F el ρ S) P := w_bind (h.mono fun _ _ q => wv_res q)
theorem we_told {l t : Nat} {q : Str} {run : EvV} {res : Nat → List (Str × D) → Option D} {P : D → Sto → Prop} (hl : S.get l = some (.tab t q)) (h : W (run ρ S) fun o S1 => match o with | .ok d => P d S1 | .ex c fs => ∃ d, res c fs = some d ∧ P d S1) : W (eTold l t q run res ρ S) P := by
  unfold eTold
  rw [if_pos hl]
  refine w_bind (h.mono fun o S1 p => ?_)
  cases o with
  | ok d => exact w_ret p
  | ex c fs =>
    obtain ⟨d, e, p⟩ := p
    refine ⟨d, S1, ?_, p⟩
    show (res c fs).map _ = _
    rw [e]
    rfl
theorem xe_bmv {f : D → List D → Sto → Option (D × Sto)} {eo : Ev} {el : EvL} {P : D → Sto → Prop} (h : W (eo ρ S) fun x S1 => ∃ ds, x = .lst ds ∧ W (el ρ S1) fun y S2 => W (f (.lst ds) y S2) P) : W (eBMV f eo el ρ S) P := by
  refine w_bind (h.mono fun x S1 q => ?_)
  obtain ⟨ds, rfl, q⟩ := q
  exact w_bind q
end
end AH
set_option maxRecDepth 100000
set_option maxHeartbeats 4000000
namespace K17
open AH PySem L2 TL
noncomputable section
def fl (c : Nat) : List Str := match c with
  | _ => []
def b_step_of : EvS := (sSeq (sAsg (eV (eM1 fSplit (eVar 0) (eC (.str [32])))) (gNm 1))
  (sSeq (sAsg (eKGet2 kv_SHAPES (e2 fIx (eVar 1) (eC (.int 0))) (eKGet2 kv_ROAD (e2 fIx (eVar 1) (eC (.int 0))) (eC .non))) (gNm 2))
  (sSeq (sIf (tOrE (tOf (eIsN (eVar 2))) (tOf (e2 fLt (eN fLen (aCons (eVar 1) aNil)) (e2 fAdd (eVar 2) (eC (.int 1)))))) (sRet (eC .non)) sNext)
  (sSeq (sAsg (eV (fLc (e3 fSlL (eVar 1) (oSome (eC (.int 1))) (oSome (e2 fAdd (eVar 2) (eC (.int 1))))) [4] (pNm 4) tYesE (eN (callE AH.F_number) (aCons (eVar 4) aNil)))) (gNm 3))
  (sSeq (sIf (tOf (e2 (fIn false) (eC .non) (eVar 3))) (sRet (eC .non)) sNext)
  (sSeq (sIf (tOf (e2 fNe (e2 fIx (eVar 1) (eC (.int 0))) (eC (.str [112, 114, 101, 115, 115])))) (sRet (eIf (tOf (e2 fEq (eN fLen (aCons (eVar 1) aNil)) (e2 fAdd (eVar 2) (eC (.int 1))))) (eN fTupOf (aCons (eV (e2 fCat (eV (fLst (aCons (e2 fIx (eVar 1) (eC (.int 0))) aNil))) (eVar 3))) aNil)) (eC .non))) sNext)
  (sSeq (sAsg (eM1 fJoin (eC (.str [32])) (eV (e3 fSlL (eVar 1) (oSome (eC (.int 2))) oNone))) (gNm 5))
  (sSeq (sAsg (eAndE (e2 fGt (eN fLen (aCons (eVar 1) aNil)) (eC (.int 2))) (e2 fEq (eV (fLc (iS (eVar 5)) [7] (pNm 7) (tOf (e2 fNotInS (eVar 7) (e2 fAdd (e2 fAdd (e2 fAdd (e2 fAdd (eC (.str [97, 98, 99, 100, 101, 102, 103, 104, 105, 106, 107, 108, 109, 110, 111, 112, 113, 114, 115, 116, 117, 118, 119, 120, 121, 122])) (eC (.str [48, 49, 50, 51, 52, 53, 54, 55, 56, 57]))) (eC (.str [32]))) (eC (.str [60]))) (eC (.str [59]))))) (eVar 7))) (eV (fLst aNil)))) (gNm 6))
  (sRet (eIf (tOf (eVar 6)) (eTup (aCons (eC (.str [112, 114, 101, 115, 115])) (aCons (e2 fIx (eVar 3) (eC (.int 0))) (aCons (eVar 5) aNil)))) (eC .non)))))))))))
def F_step_of : Fn := runB 1 8 b_step_of
def b_read : EvX := (xSeq (xL (sAcc 1 (fLst aNil)))
  (xSeq (xFor (iE (aCons (eIf (tOf (e2 fNe (eVar 0) (eC (.str [])))) (eV (eM1 fSplit (eVar 0) (eC (.str [10])))) (eV (fLst aNil))) aNil)) (gTp 2 (gsCons (gNm 2) (gsCons (gNm 3) gsNil))) (xSeq (xL (sAsg (eN (callE F_step_of) (aCons (eVar 3) aNil)) (gNm 4)))
  (xSeq (xIf (tOf (eIsN (eVar 4))) (xRaiseI 105 "row" (eVar 2)) (xL sNext))
  (xL (sApp 1 (eVar 4))))))
  (xL (sRetA 1))))
def F_read : FnX := runX 1 5 b_read
def b__law_told (c : Nat) (a : Addr) (d : Option Addr) : EvS := (sSeq (sAsg (eV (fLst (aCons (eIsX a d (decide (c = 100)) 1) (aCons (eIsX a d (decide (c = 101)) 1) (aCons (eIsX a d (decide (c = 102)) 1) (aCons (eIsX a d (decide (c = 103)) 1) aNil)))))) (gNm 2))
  (sSeq (sAsg (eV (e2 fCat (eVar 2) (eV (fLst (aCons (eIsX a d (decide (c = 104)) 1) (aCons (eIsX a d (decide (c = 105)) 1) (aCons (eIsX a d (decide (c = 106)) 1) aNil))))))) (gNm 2))
  (sSeq (sIf (tOrE (tOf (e2 fNe (eBMV fCntB (eVar 2) (aCons (eC (.bl true)) aNil)) (eC (.int 1)))) (tNotE (tOf (eIsX a d true 1)))) (sRet (eTup (aCons (eC (.str [111, 116, 104, 101, 114])) (aCons (eC (.int 0)) aNil)))) sNext)
  (sSeq (sAsg (e2 fIx (eV (fLst (aCons (eC (.str [66, 97, 100, 67, 111, 117, 110, 116])) (aCons (eC (.str [66, 97, 100, 70, 105, 101, 108, 100, 115])) (aCons (eC (.str [66, 97, 100, 76, 111, 111, 107])) (aCons (eC (.str [66, 97, 100, 83, 105, 103, 110])) (aCons (eC (.str [66, 97, 100, 83, 105, 122, 101])) (aCons (eC (.str [66, 97, 100, 84, 101, 120, 116])) (aCons (eC (.str [78, 111, 76, 111, 111, 107])) aNil))))))))) (eBMV fIdxB (eVar 2) (aCons (eC (.bl true)) aNil))) (gNm 3))
  (sSeq (sIf (tOf (e2 fEq (eVar 3) (eC (.str [66, 97, 100, 83, 105, 103, 110])))) (sRet (eTup (aCons (eVar 3) (aCons (eXf a d (decide (c = 103)) 1 "place") aNil)))) sNext)
  (sRet (eTup (aCons (eVar 3) (aCons (eIf (tOf (e2 fEq (eVar 3) (eC (.str [66, 97, 100, 84, 101, 120, 116])))) (eXf a d (decide (c = 105)) 1 "row") (eC (.int 0))) aNil)))))))))
def b__law_anystep : EvS := (sSeq (sAsg (eV (fLc (iR1 (aCons (eC (.int 4)) aNil)) [2] (pNm 2) tYesE (e2 fIx (eV (fLst (aCons (eN (callE AH.F_take) (aCons (eVar 0) (aCons (eC (.int 10)) aNil))) (aCons (eN (callE AH.F_take) (aCons (eVar 0) (aCons (e2 fPow (eC (.int 10)) (eC (.int 6))) aNil))) aNil)))) (eN (callE AH.F_take) (aCons (eVar 0) (aCons (eC (.int 2)) aNil)))))) (gNm 1))
  (sSeq (sAsg (eC (.str [97, 98, 99, 100, 101, 102, 103, 104, 105, 106, 107, 108, 109, 110, 111, 112, 113, 114, 115, 116, 117, 118, 119, 120, 121, 122, 48, 49, 50, 51, 52, 53, 54, 55, 56, 57, 32, 60, 59])) (gNm 3))
  (sSeq (sAsg (eM1 fJoin (eC (.str [])) (eV (fLc (iR1 (aCons (eN (callE AH.F_take) (aCons (eVar 0) (aCons (e2 fIx (eV (fLst (aCons (eC (.int 2)) (aCons (eC (.int 9)) (aCons (eC (.int 30)) aNil))))) (eN (callE AH.F_take) (aCons (eVar 0) (aCons (eC (.int 3)) aNil)))) aNil))) aNil)) [2] (pNm 2) tYesE (e2 fIx (eVar 3) (eN (callE AH.F_take) (aCons (eVar 0) (aCons (eC (.int 39)) aNil))))))) (gNm 4))
  (sSeq (sAcc 5 (fLst (aCons (e2 fAdd (eTup (aCons (eC (.str [99, 111, 109, 101])) aNil)) (eN fTupOf (aCons (eVar 1) aNil))) (aCons (eTup (aCons (eC (.str [112, 114, 101, 115, 115])) (aCons (e2 fIx (eVar 1) (eC (.int 0))) (aCons (eVar 4) aNil)))) (aCons (eTup (aCons (eC (.str [112, 114, 101, 115, 115])) (aCons (e2 fIx (eVar 1) (eC (.int 1))) (aCons (eVar 4) aNil)))) aNil)))))
  (sSeq (sApp 5 (eTup (aCons (eC (.str [108, 101, 97, 118, 101])) (aCons (e2 fIx (eVar 1) (eC (.int 0))) aNil))))
  (sSeq (sFrz 5 (sAcc 5 (e2 fCat (eVar 5) (eV (fLst (aCons (e2 fAdd (eTup (aCons (eC (.str [115, 105, 122, 101])) aNil)) (eN fTupOf (aCons (eV (e3 fSlL (eVar 1) oNone (oSome (eC (.int 3))))) aNil))) (aCons (eTup (aCons (eC (.str [103, 111, 110, 101])) (aCons (e2 fIx (eVar 1) (eC (.int 0))) aNil))) (aCons (eTup (aCons (eC (.str [98, 101, 97, 116])) aNil)) (aCons (eTup (aCons (eC (.str [115, 101, 110, 100])) aNil)) (aCons (eTup (aCons (eC (.str [115, 101, 116, 116, 108, 101])) aNil)) aNil))))))))))
  (sSeq (sFrz 5 (sAcc 5 (e2 fCat (eVar 5) (eV (fLst (aCons (eTup (aCons (eC (.str [99, 97, 114, 114, 121])) (aCons (e2 fIx (eVar 1) (eC (.int 0))) aNil))) (aCons (eTup (aCons (eC (.str [108, 111, 115, 101])) (aCons (e2 fIx (eVar 1) (eC (.int 0))) aNil))) (aCons (eTup (aCons (eC (.str [116, 119, 105, 99, 101])) (aCons (e2 fIx (eVar 1) (eC (.int 1))) aNil))) (aCons (eTup (aCons (eC (.str [99, 117, 116])) (aCons (e2 fIx (eVar 1) (eC (.int 0))) (aCons (e2 fIx (eVar 1) (eC (.int 1))) aNil)))) aNil)))))))))
  (sFrz 5 (sRet (e2 fIx (eVar 5) (eN (callE AH.F_take) (aCons (eVar 0) (aCons (eC (.int 13)) aNil)))))))))))))
def F__law_anystep : Fn := runB 1 6 b__law_anystep
def b__law_rows : EvS := (sSeq (sAcc 1 (fLst aNil))
  (sSeq (sFor (iL (eVar 0)) (gNm 2) (sSeq (sAsg (e2 fIx (eVar 2) (eC (.int 0))) (gNm 3))
  (sSeq (sFor (iT (e3 fSl (eVar 2) (oSome (eC (.int 1))) oNone)) (gNm 4) (sAsg (e2 fAdd (e2 fAdd (eVar 3) (eC (.str [32]))) (eIf (tOf (eN fIsT (aCons (eVar 4) (aCons (eC (.raw (.ty "str"))) aNil)))) (eVar 4) (eN fStr (aCons (eVar 4) aNil)))) (gNm 3)))
  (sApp 1 (eVar 3)))))
  (sFrz 1 (sRet (eM1 fJoin (eC (.str [10])) (eVar 1))))))
def F__law_rows : Fn := runB 1 5 b__law_rows
def b__law_number : EvS := (sSeq (sIf (tOrE (tNotE (tOf (eChain fLe fLe (eC (.int 1)) (eN fLen (aCons (eVar 0) aNil)) (eC (.int 6))))) (tOf (e2 fNe (eV (fLc (iS (eVar 0)) [1] (pNm 1) (tOf (e2 fNotInS (eVar 1) (eC (.str [48, 49, 50, 51, 52, 53, 54, 55, 56, 57])))) (eVar 1))) (eV (fLst aNil))))) (sRet (eC .non)) sNext)
  (sRet (eIf (tOf (e2 fEq (eN fStr (aCons (eN fIntS (aCons (eVar 0) aNil)) aNil)) (eVar 0))) (eN fIntS (aCons (eVar 0) aNil)) (eC .non))))
def F__law_number : Fn := runB 1 2 b__law_number
def b__law_step : EvS := (sSeq (sAsg (eDisp [(.s [99, 111, 109, 101]), (.s [112, 114, 101, 115, 115]), (.s [115, 105, 122, 101]), (.s [108, 101, 97, 118, 101]), (.s [103, 111, 110, 101]), (.s [98, 101, 97, 116]), (.s [115, 101, 110, 100]), (.s [115, 101, 116, 116, 108, 101])] (aCons (eC (.int 4)) (aCons (eC (.int 1)) (aCons (eC (.int 3)) (aCons (eC (.int 1)) (aCons (eC (.int 1)) (aCons (eC (.int 0)) (aCons (eC (.int 0)) (aCons (eC (.int 0)) aNil))))))))) (gNm 1))
  (sSeq (sDo (eDM fUpd (eVar 1) (aCons (eDisp [(.s [99, 97, 114, 114, 121]), (.s [108, 111, 115, 101]), (.s [116, 119, 105, 99, 101]), (.s [99, 117, 116])] (aCons (eC (.int 1)) (aCons (eC (.int 1)) (aCons (eC (.int 1)) (aCons (eC (.int 2)) aNil))))) aNil)))
  (sSeq (sAsg (eV (eM1 fSplit (eVar 0) (eC (.str [32])))) (gNm 2))
  (sSeq (sAsg (eDGet2 (eVar 1) (e2 fIx (eVar 2) (eC (.int 0))) (eC (.int 99))) (gNm 3))
  (sSeq (sAsg (eN fTupOf (aCons (eV (fLc (e3 fSlL (eVar 2) (oSome (eC (.int 1))) (oSome (e2 fAdd (eVar 3) (eC (.int 1))))) [5] (pNm 5) tYesE (eN (callE F__law_number) (aCons (eVar 5) aNil)))) aNil)) (gNm 4))
  (sSeq (sIf (tOrE (tOf (e2 fNe (eN fLen (aCons (eVar 4) aNil)) (eVar 3))) (tOf (e2 (fIn false) (eC .non) (eVar 4)))) (sRet (eC .non)) sNext)
  (sSeq (sIf (tOf (e2 fNe (e2 fIx (eVar 2) (eC (.int 0))) (eC (.str [112, 114, 101, 115, 115])))) (sRet (eIf (tOf (e2 fEq (eN fLen (aCons (eVar 2) aNil)) (e2 fAdd (eVar 3) (eC (.int 1))))) (e2 fAdd (eTup (aCons (e2 fIx (eVar 2) (eC (.int 0))) aNil)) (eVar 4)) (eC .non))) sNext)
  (sSeq (sAsg (e3 fSl (eVar 0) (oSome (e2 fAdd (e2 fAdd (eN fLen (aCons (e2 fIx (eVar 2) (eC (.int 0))) aNil)) (eN fLen (aCons (e2 fIx (eVar 2) (eC (.int 1))) aNil))) (eC (.int 2)))) oNone) (gNm 6))
  (sSeq (sAsg (eC (.str [97, 98, 99, 100, 101, 102, 103, 104, 105, 106, 107, 108, 109, 110, 111, 112, 113, 114, 115, 116, 117, 118, 119, 120, 121, 122, 48, 49, 50, 51, 52, 53, 54, 55, 56, 57, 32, 60, 59])) (gNm 7))
  (sSeq (sIf (tOrE (tOf (e2 fLt (eN fLen (aCons (eVar 2) aNil)) (eC (.int 3)))) (tOf (e2 fNe (eV (fLc (iS (eVar 6)) [8] (pNm 8) (tOf (e2 fNotInS (eVar 8) (eVar 7))) (eVar 8))) (eV (fLst aNil))))) (sRet (eC .non)) sNext)
  (sRet (eTup (aCons (eC (.str [112, 114, 101, 115, 115])) (aCons (e2 fIx (eVar 4) (eC (.int 0))) (aCons (eVar 6) aNil)))))))))))))))
def F__law_step : Fn := runB 1 9 b__law_step
def b__law_spoilt : EvS := (sSeq (sPar 2 3 (eN (callE AH.F_take) (aCons (eVar 0) (aCons (eC (.int 9)) aNil))) (eN (callE AH.F_take) (aCons (eVar 0) (aCons (e2 fAdd (eN fLen (aCons (eVar 1) aNil)) (eC (.int 1))) aNil))))
  (sSeq (sAsg (eC (.str [48, 49, 50, 51, 52, 53, 54, 55, 56, 57, 32, 10, 97, 98, 99, 100, 101, 102, 103, 104, 105, 106, 107, 108, 109, 110, 111, 112, 113, 114, 115, 116, 117, 118, 119, 120, 121, 122, 60, 59, 33, 35, 36, 38, 39, 40, 41, 42, 43, 44, 45, 46, 47, 58, 61, 62, 63, 64, 65, 66, 67, 68, 69, 70, 71, 72, 73, 74, 75, 76, 77, 78, 79, 80, 81, 82, 83, 84, 85, 86, 87, 88, 89, 90, 91, 93, 94, 95, 123, 124, 125, 126])) (gNm 4))
  (sSeq (sAsg (e2 fIx (eVar 4) (eN (callE AH.F_take) (aCons (eVar 0) (aCons (e2 fIx (eV (fLst (aCons (eC (.int 14)) (aCons (eC (.int 92)) aNil)))) (eN (callE AH.F_take) (aCons (eVar 0) (aCons (eC (.int 2)) aNil)))) aNil)))) (gNm 5))
  (sSeq (sIf (tOf (e2 fEq (eVar 2) (eC (.int 1)))) (sAsg (eC (.str [])) (gNm 5)) sNext)
  (sSeq (sIf (tOf (e2 fLt (eVar 2) (eC (.int 3)))) (sRet (e2 fAdd (e2 fAdd (e3 fSl (eVar 1) oNone (oSome (eVar 3))) (eVar 5)) (e3 fSl (eVar 1) (oSome (e2 fAdd (eVar 3) (eN fInt (aCons (e2 fGt (eVar 2) (eC (.int 0))) aNil)))) oNone))) sNext)
  (sSeq (sIf (tOf (e2 fEq (eVar 2) (eC (.int 3)))) (sSeq (sAsg (eRev (e3 fSl (eVar 1) (oSome (eVar 3)) (oSome (e2 fAdd (eVar 3) (eC (.int 2)))))) (gNm 6))
  (sRet (e2 fAdd (e2 fAdd (e3 fSl (eVar 1) oNone (oSome (eVar 3))) (eVar 6)) (e3 fSl (eVar 1) (oSome (e2 fAdd (eVar 3) (eC (.int 2)))) oNone)))) sNext)
  (sSeq (sAsg (eV (eM1 fSplit (eVar 1) (eC (.str [10])))) (gNm 7))
  (sSeq (sAsg (eN (callE AH.F_take) (aCons (eVar 0) (aCons (eN fLen (aCons (eVar 7) aNil)) aNil))) (gNm 8))
  (sSeq (sIf (tOf (e2 fLt (eVar 2) (eC (.int 6)))) (sRet (eM1 fJoin (eC (.str [10])) (eV (e2 fCat (eV (e2 fCat (eV (e3 fSlL (eVar 7) oNone (oSome (eVar 8)))) (eV (e2 fRep (eV (e3 fSlL (eVar 7) (oSome (eVar 8)) (oSome (e2 fAdd (eVar 8) (eC (.int 1)))))) (e2 fIx (eV (fLst (aCons (eC (.int 0)) (aCons (eC (.int 2)) aNil)))) (e2 fSub (eVar 2) (eC (.int 4)))))))) (eV (e3 fSlL (eVar 7) (oSome (e2 fAdd (eVar 8) (eC (.int 1)))) oNone)))))) sNext)
  (sSeq (sAsg (eV (eM1 fSplit (e2 fIx (eVar 7) (eVar 8)) (eC (.str [32])))) (gNm 9))
  (sSeq (sAsg (eN (callE AH.F_take) (aCons (eVar 0) (aCons (eN fLen (aCons (eVar 9) aNil)) aNil))) (gNm 10))
  (sSeq (sAsg (eV (fLst (aCons (eC (.str [])) (aCons (eC (.str [48])) (aCons (eC (.str [48, 48])) (aCons (eC (.str [48, 55])) (aCons (eC (.str [57, 57, 57, 57, 57, 57])) (aCons (eC (.str [49, 48, 48, 48, 48, 48, 48])) (aCons (eC (.str [45, 49])) (aCons (eC (.str [99, 111, 109, 101])) (aCons (eC (.str [112, 114, 101, 115, 115])) (aCons (eC (.str [115, 101, 116, 116, 108, 101])) (aCons (eC (.str [83, 101, 110, 100])) (aCons (eC (.str [99, 97, 114, 114, 121])) aNil)))))))))))))) (gNm 11))
  (sSeq (sAsg (eV (e2 fCat (eVar 11) (eV (fLst (aCons (eC (.str [99, 117, 116])) (aCons (eC (.str [115, 105, 122, 101])) (aCons (eC (.str [120])) aNil))))))) (gNm 11))
  (sSeq (sAsg (eV (e2 fCat (eV (e2 fCat (eV (e3 fSlL (eVar 9) oNone (oSome (eVar 10)))) (e2 fIx (eV (fLst (aCons (eV (fLst aNil)) (aCons (eV (e2 fRep (eV (fLst (aCons (e2 fIx (eVar 9) (eVar 10)) aNil))) (eC (.int 2)))) (aCons (eV (fLst (aCons (e2 fIx (eVar 11) (eN (callE AH.F_take) (aCons (eVar 0) (aCons (eC (.int 15)) aNil)))) aNil))) aNil))))) (e2 fSub (eVar 2) (eC (.int 6)))))) (eV (e3 fSlL (eVar 9) (oSome (e2 fAdd (eVar 10) (eC (.int 1)))) oNone)))) (gNm 9))
  (sRet (eM1 fJoin (eC (.str [10])) (eV (e2 fCat (eV (e2 fCat (eV (e3 fSlL (eVar 7) oNone (oSome (eVar 8)))) (eV (fLst (aCons (eM1 fJoin (eC (.str [32])) (eVar 9)) aNil))))) (eV (e3 fSlL (eVar 7) (oSome (e2 fAdd (eVar 8) (eC (.int 1)))) oNone))))))))))))))))))))
def F__law_spoilt : Fn := runB 2 12 b__law_spoilt
def b_law : EvS := (sSeq (sAsg (eN (callE AH.F_begun) (aCons (eVar 0) aNil)) (gNm 1))
  (sSeq (sAsg (eV (fLst (aCons (eC (.str [])) (aCons (eC (.str [32])) (aCons (eC (.str [10])) (aCons (eC (.str [99, 111, 109, 101, 32, 48, 32, 49, 32, 50, 48])) (aCons (eC (.str [112, 114, 101, 115, 115, 32, 48])) (aCons (eC (.str [112, 114, 101, 115, 115, 32, 48, 32])) (aCons (eC (.str [112, 114, 101, 115, 115, 32, 48, 32, 32])) (aCons (eC (.str [98, 101, 97, 116, 32])) (aCons (eC (.str [115, 101, 110, 100, 10])) (aCons (eC (.str [99, 117, 116, 32, 48])) aNil)))))))))))) (gNm 2))
  (sSeq (sAsg (eV (e2 fCat (eVar 2) (eV (fLst (aCons (eC (.str [108, 101, 97, 118, 101, 32, 48, 55])) (aCons (eC (.str [112, 114, 101, 115, 115, 32, 97, 32, 98])) aNil)))))) (gNm 2))
  (sSeq (sFor (iR1 (aCons (eC (.int 6)) aNil)) (gNm 3) (sSeq (sAsg (eN (callE F__law_rows) (aCons (eV (fLc (iR1 (aCons (eN (callE AH.F_take) (aCons (eVar 1) (aCons (eC (.int 8)) aNil))) aNil)) [5] (pNm 5) tYesE (eN (callE F__law_anystep) (aCons (eVar 1) aNil)))) aNil)) (gNm 4))
  (sSeq (sIf (tOf (e2 fEq (eN (callE AH.F_take) (aCons (eVar 1) (aCons (eC (.int 5)) aNil))) (eC (.int 0)))) (sAsg (e2 fIx (eVar 2) (eN (callE AH.F_take) (aCons (eVar 1) (aCons (eC (.int 12)) aNil)))) (gNm 4)) sNext)
  (sSeq (sFor (iR1 (aCons (eN (callE AH.F_take) (aCons (eVar 1) (aCons (eC (.int 4)) aNil))) aNil)) (gNm 6) (sAsg (eN (callE F__law_spoilt) (aCons (eVar 1) (aCons (eVar 4) aNil))) (gNm 4)))
  (sSeq (sAsg (eIf (tOf (e2 fNe (eVar 4) (eC (.str [])))) (eV (fLc (eM1 fSplit (eVar 4) (eC (.str [10]))) [8] (pNm 8) tYesE (eN (callE F__law_step) (aCons (eVar 8) aNil)))) (eV (fLst aNil))) (gNm 7))
  (sSeq (sAsg (eIf (tOf (e2 (fInD false) (eC .non) (eVar 7))) (eTup (aCons (eC (.str [66, 97, 100, 84, 101, 120, 116])) (aCons (eBMV fIdxD (eVar 7) (aCons (eC .non) aNil)) aNil))) (eVar 7)) (gNm 9))
  (sFor (iR1 (aCons (eC (.int 2)) aNil)) (gNm 10) (sIf (tNotE (tOf (eN (callE (AH.F_alike 8)) (aCons (eTold 0 0 (("law" : Str) ++ ".<locals>." ++ "<lambda>") (vCall F_read (aCons (eVar 4) aNil)) toldV) (aCons (eVar 9) aNil))))) (sRet (eC (.bl false))) sNext))))))))
  (sRet (eC (.bl true)))))))
def F_law : Fn := runB 1 11 b_law
def tl : List (Nat × Str) := [(0, (("law" : Str) ++ ".<locals>." ++ "<lambda>"))]
end
end K17
set_option maxRecDepth 100000
set_option maxHeartbeats 4000000
namespace K17
open PySem PySem.Spec PyProof.Rows L2 AH TL
abbrev FnP (K : PySem.W.Frag) (x q : Str) (st : Stmt) (f : Addr) (fd : FuncData) : Prop := FunD K x q (defArgs st) (defBody st) (defScope st) [] [] f fd
abbrev N_BadText___init__ : List Str := ["self", "row"]
theorem sc_BadText___init__ : FnScope N_BadText___init__ ["self", "row"] (defScope s_BadText___init__) := ⟨rfl, rfl, rfl, by decide +kernel, rfl, by decide +kernel, by decide +kernel⟩
abbrev N_number_of : List Str := ["word", "sign"]
theorem sc_number_of : FnScope N_number_of ["word"] (defScope s_number_of) := ⟨rfl, rfl, rfl, by decide +kernel, rfl, by decide +kernel, by decide +kernel⟩
abbrev N_step_of : List Str := ["row", "words", "many", "numbers", "word", "signs", "good", "sign"]
theorem sc_step_of : FnScope N_step_of ["row"] (defScope s_step_of) := ⟨rfl, rfl, rfl, by decide +kernel, rfl, by decide +kernel, by decide +kernel⟩
abbrev N_read : List Str := ["text", "found", "row", "words", "step"]
theorem sc_read : FnScope N_read ["text"] (defScope s_read) := ⟨rfl, rfl, rfl, by decide +kernel, rfl, by decide +kernel, by decide +kernel⟩
abbrev N__law_begun : List Str := ["_law_script", "_law_stirred", "_law_cell"]
theorem sc__law_begun : FnScope N__law_begun ["_law_script"] (defScope s__law_begun) := ⟨rfl, rfl, rfl, by decide +kernel, rfl, by decide +kernel, by decide +kernel⟩
abbrev N__law_take : List Str := ["_law_box", "_law_many", "_law_number_here"]
theorem sc__law_take : FnScope N__law_take ["_law_box", "_law_many"] (defScope s__law_take) := ⟨rfl, rfl, rfl, by decide +kernel, rfl, by decide +kernel, by decide +kernel⟩
abbrev N__law_alike : List Str := ["_law_found", "_law_due", "_law_k"]
theorem sc__law_alike : FnScope N__law_alike ["_law_found", "_law_due"] (defScope s__law_alike) := ⟨rfl, rfl, rfl, by decide +kernel, rfl, by decide +kernel, by decide +kernel⟩
abbrev N__law_told : List Str := ["_law_work", "e", "_law_kinds", "_law_word"]
theorem sc__law_told : FnScope N__law_told ["_law_work"] (defScope s__law_told) := ⟨rfl, rfl, rfl, by decide +kernel, rfl, by decide +kernel, by decide +kernel⟩
abbrev N__law_anystep : List Str := ["_law_box", "_law_numbers", "_law_k", "_law_every", "_law_signs", "_law_some"]
theorem sc__law_anystep : FnScope N__law_anystep ["_law_box"] (defScope s__law_anystep) := ⟨rfl, rfl, rfl, by decide +kernel, rfl, by decide +kernel, by decide +kernel⟩
abbrev N__law_rows : List Str := ["_law_steps", "_law_found", "_law_step_here", "_law_row", "_law_part"]
theorem sc__law_rows : FnScope N__law_rows ["_law_steps"] (defScope s__law_rows) := ⟨rfl, rfl, rfl, by decide +kernel, rfl, by decide +kernel, by decide +kernel⟩
abbrev N__law_number : List Str := ["_law_word", "_law_sign"]
theorem sc__law_number : FnScope N__law_number ["_law_word"] (defScope s__law_number) := ⟨rfl, rfl, rfl, by decide +kernel, rfl, by decide +kernel, by decide +kernel⟩
abbrev N__law_step : List Str := ["_law_row", "_law_shapes", "_law_words", "_law_many", "_law_numbers", "_law_word", "_law_signs", "_law_every", "_law_sign"]
theorem sc__law_step : FnScope N__law_step ["_law_row"] (defScope s__law_step) := ⟨rfl, rfl, rfl, by decide +kernel, rfl, by decide +kernel, by decide +kernel⟩
abbrev N__law_spoilt : List Str := ["_law_box", "_law_text", "_law_deed", "_law_place", "_law_every", "_law_sign", "_law_two", "_law_rows_here", "_law_k", "_law_words", "_law_j", "_law_odd"]
theorem sc__law_spoilt : FnScope N__law_spoilt ["_law_box", "_law_text"] (defScope s__law_spoilt) := ⟨rfl, rfl, rfl, by decide +kernel, rfl, by decide +kernel, by decide +kernel⟩
abbrev N_law : List Str := ["_law_script", "_law_box", "_law_odd", "_law_turn", "_law_text", "_law_k", "_law_change", "_law_found", "_law_row", "_law_due", "_law_again"]
theorem sc_law : FnScope N_law ["_law_script"] (defScope s_law) := ⟨rfl, rfl, rfl, by decide +kernel, rfl, by decide +kernel, by decide +kernel⟩
theorem told_run {c : Nat} {fs : List (Str × D)} {d0 : D} {a : Addr} {d : Option Addr} {S : Sto} (h : toldV c fs = some d0) (hd : fs ≠ [] → d.isSome = true) : ∃ ρ', b__law_told c a d (rhoE 4 1 (.exn a d (fs.map (·.1)) (fs.map (·.2)))) S = some (.rt d0, ρ', S) := by
  have hd2 : fs = [] ∨ ∃ dd, d = some dd := by
    cases fs with
    | nil => exact .inl rfl
    | cons x y => exact .inr (Option.isSome_iff_exists.mp (hd (fun z => nomatch z)))
  rcases toldV_is h with ⟨rfl, rfl, rfl⟩ | ⟨rfl, rfl, rfl⟩ | ⟨rfl, rfl, rfl⟩ | ⟨rfl, x, rfl, rfl⟩ | ⟨rfl, rfl, rfl⟩ | ⟨rfl, x, rfl, rfl⟩ | ⟨rfl, rfl, rfl⟩
  all_goals
    rcases hd2 with hd2 | ⟨dd, rfl⟩
    all_goals first
      | (cases hd2; done)
      | simp [b__law_told, rhoE, sSeq, sAsg, sIf, sRet, sNext, eV, fLst, aCons, aNil, eIsX, eXf, eVar, gNm, e2, fCat, lstOf, tOf, tOrE, tNotE, fNe, fEq, eqD, eBMV, fCntB, boolsOf, fIdxB, eC, fIx, eTup, eIf, sizeLine_eq, toPyS, List.findIdx?_cons, seqOf, atI, ixN]
structure Tx (w : World) (K : PySem.W.Frag) (mg : Str → Option Value) where
  k_BACK : ∃ t, mg "BACK" = some (.str ("<" : Str) t)
  k_BLANK : ∃ t, mg "BLANK" = some (.str (" " : Str) t)
  k_ENDS : ∃ t, mg "ENDS" = some (.str (";" : Str) t)
  k_FIGURES : ∃ t, mg "FIGURES" = some (.str ("0123456789" : Str) t)
  k_LETTERS : ∃ t, mg "LETTERS" = some (.str ("abcdefghijklmnopqrstuvwxyz" : Str) t)
  k_MOST_FIGURES : ∃ t, mg "MOST_FIGURES" = some (.int 6 t)
  n_ValueError : mg "ValueError" = none
  n_bool : mg "bool" = none
  n_enumerate : mg "enumerate" = none
  n_int : mg "int" = none
  n_isinstance : mg "isinstance" = none
  n_len : mg "len" = none
  n_list : mg "list" = none
  n_range : mg "range" = none
  n_str : mg "str" = none
  n_tuple : mg "tuple" = none
  a_ROAD : Addr
  gd_ROAD : mg "ROAD" = some (.ref a_ROAD)
  t_ROAD : KT K w a_ROAD kv_ROAD
  a_SHAPES : Addr
  gd_SHAPES : mg "SHAPES" = some (.ref a_SHAPES)
  t_SHAPES : KT K w a_SHAPES kv_SHAPES
  E : ToldK K
  hin : HinK K
  gx_HallError : mg "HallError" = some (.ref (He.ga K "HallError"))
  gx_BadCount : mg "BadCount" = some (.ref (He.ga K "BadCount"))
  gx_BadFields : mg "BadFields" = some (.ref (He.ga K "BadFields"))
  gx_BadLook : mg "BadLook" = some (.ref (He.ga K "BadLook"))
  gx_BadSign : mg "BadSign" = some (.ref (He.ga K "BadSign"))
  gx_BadSize : mg "BadSize" = some (.ref (He.ga K "BadSize"))
  gx_BadText : mg "BadText" = some (.ref (He.ga K "BadText"))
  gx_NoLook : mg "NoLook" = some (.ref (He.ga K "NoLook"))
  o_BadSign : OexK K "BadSign" "place"
  o_BadText : OexK K "BadText" "row"
  d_BadText___init__ : FuncData
  F_BadText___init__ : FnP K "__init__" "BadText.__init__" s_BadText___init__ (He.ma K (He.ga K "BadText") "__init__") d_BadText___init__
  d_BadSign___init__ : FuncData
  F_BadSign___init__ : FnP K "__init__" "BadSign.__init__" s_BadSign___init__ (He.ma K (He.ga K "BadSign") "__init__") d_BadSign___init__
  a_number_of : Addr
  d_number_of : FuncData
  F_number_of : FnP K "number_of" "number_of" s_number_of a_number_of d_number_of
  g_number_of : mg "number_of" = some (.ref a_number_of)
  a_step_of : Addr
  d_step_of : FuncData
  F_step_of : FnP K "step_of" "step_of" s_step_of a_step_of d_step_of
  g_step_of : mg "step_of" = some (.ref a_step_of)
  a_read : Addr
  d_read : FuncData
  F_read : FnP K "read" "read" s_read a_read d_read
  g_read : mg "read" = some (.ref a_read)
  a__law_begun : Addr
  d__law_begun : FuncData
  F__law_begun : FnP K "_law_begun" "_law_begun" s__law_begun a__law_begun d__law_begun
  g__law_begun : mg "_law_begun" = some (.ref a__law_begun)
  a__law_take : Addr
  d__law_take : FuncData
  F__law_take : FnP K "_law_take" "_law_take" s__law_take a__law_take d__law_take
  g__law_take : mg "_law_take" = some (.ref a__law_take)
  a__law_alike : Addr
  d__law_alike : FuncData
  F__law_alike : FnP K "_law_alike" "_law_alike" s__law_alike a__law_alike d__law_alike
  g__law_alike : mg "_law_alike" = some (.ref a__law_alike)
  a__law_told : Addr
  d__law_told : FuncData
  F__law_told : FnP K "_law_told" "_law_told" s__law_told a__law_told d__law_told
  g__law_told : mg "_law_told" = some (.ref a__law_told)
  a__law_anystep : Addr
  d__law_anystep : FuncData
  F__law_anystep : FnP K "_law_anystep" "_law_anystep" s__law_anystep a__law_anystep d__law_anystep
  g__law_anystep : mg "_law_anystep" = some (.ref a__law_anystep)
  a__law_rows : Addr
  d__law_rows : FuncData
  F__law_rows : FnP K "_law_rows" "_law_rows" s__law_rows a__law_rows d__law_rows
  g__law_rows : mg "_law_rows" = some (.ref a__law_rows)
  a__law_number : Addr
  d__law_number : FuncData
  F__law_number : FnP K "_law_number" "_law_number" s__law_number a__law_number d__law_number
  g__law_number : mg "_law_number" = some (.ref a__law_number)
  a__law_step : Addr
  d__law_step : FuncData
  F__law_step : FnP K "_law_step" "_law_step" s__law_step a__law_step d__law_step
  g__law_step : mg "_law_step" = some (.ref a__law_step)
  a__law_spoilt : Addr
  d__law_spoilt : FuncData
  F__law_spoilt : FnP K "_law_spoilt" "_law_spoilt" s__law_spoilt a__law_spoilt d__law_spoilt
  g__law_spoilt : mg "_law_spoilt" = some (.ref a__law_spoilt)
  a_law : Addr
  e_law : He.fAd K ("law", none) = a_law
  d_law : FuncData
  F_law : FnP K "law" "law" s_law a_law d_law
  g_law : mg "law" = some (.ref a_law)
def cm {w : World} {K : PySem.W.Frag} {mg : Str → Option Value} (T : Tx w K mg) (c : Nat) : Addr := match c with
  | 100 => He.ga K "BadCount"
  | 101 => He.ga K "BadFields"
  | 102 => He.ga K "BadLook"
  | 103 => He.ga K "BadSign"
  | 104 => He.ga K "BadSize"
  | 105 => He.ga K "BadText"
  | 106 => He.ga K "NoLook"
  | _ => 0
def tm (K : PySem.W.Frag) (t : Nat) : Addr := match t with
  | 0 => He.tabOf K (He.codeOf K ("law", none))
  | _ => 0
abbrev gx {w : World} {K : PySem.W.Frag} {mg : Str → Option Value} (T : Tx w K mg) : Gx := { cm := cm T, fl := fl, tm := tm K, tl := tl }
theorem cm_x {w : World} {K : PySem.W.Frag} {mg : Str → Option Value} (T : Tx w K mg) : ∀ j x, kindsX[j]? = some x → (gx T).cm (100 + j) = He.ga K x := fun j x h => by
  match j, h with
  | 0, h => cases h; rfl
  | 1, h => cases h; rfl
  | 2, h => cases h; rfl
  | 3, h => cases h; rfl
  | 4, h => cases h; rfl
  | 5, h => cases h; rfl
  | 6, h => cases h; rfl
  | n + 7, h => cases h
section
variable {P : Program} {w : World} {K : PySem.W.Frag} {mg : Str → Option Value} {base : Heap}
theorem bd_BadText___init__ (T : Tx w K mg) : Binds K T.d_BadText___init__ ["self", "row"] [] := FunD.bindsN T.F_BadText___init__ fun _ _ _ _ _ _ us hl => match us, hl with | [_, _], _ => rfl
theorem ok_BadText___init__ (T : Tx w K mg) : FnOk P w K mg base CX0 1 (He.ma K (He.ga K "BadText") "__init__") T.d_BadText___init__ ["self", "row"] (spI (He.ga K "BadText") "row") := by
  refine T.F_BadText___init__.ok (k := 0) sc_BadText___init__ spI_len (fun cdv A outer s H vs Q E hr h => ?_)
  refine' ⟨_, PSs.nox ?p, spI_ok (z := "a bad row") T.o_BadText.o T.o_BadText.n h⟩
  case p => exact pss_cons (ps_expr (pe_hinit (C0 := He.ga K "HallError") rfl T.gx_HallError rfl T.hin.g T.hin.r T.hin.f (pa_cons (pv 0) (pa_cons pe_str pa_nil)))) (pss_one (ps_ost (pv 0) (pv 1)))
theorem bd_number_of (T : Tx w K mg) : Binds K T.d_number_of ["word"] [] := FunD.bindsN T.F_number_of fun _ _ _ _ _ _ us hl => match us, hl with | [_], _ => rfl
theorem ok_number_of (T : Tx w K mg) : FnOk P w K mg base CX0 1 T.a_number_of T.d_number_of ["word"] (spOf K (gx T) 1 AH.F_number) := by
  obtain ⟨t_FIGURES, k_FIGURES⟩ := T.k_FIGURES
  obtain ⟨t_MOST_FIGURES, k_MOST_FIGURES⟩ := T.k_MOST_FIGURES
  refine T.F_number_of.ok (k := 0) sc_number_of sp_len (fun cdv A outer s H vs Q E hr h => ?_)
  refine' ⟨_, PSs.nox ?p, body_ok (N := N_number_of) (n := 1) (b := AH.bNumber) ?s (by decide) h⟩
  case p => exact (pss_cons (ps_if (PW.pt (pw_or (pt_not (pt_chain op_le op_le pe_int (pe_callB (callLen K) rfl T.n_len (by decide +kernel) (pa_cons (pv 0) pa_nil)) (pe_glob (v := .int _) rfl k_MOST_FIGURES ⟨_, rfl⟩))) (pw_or1 (pt_cmpR (opNe K hr.units) (pe_lc (own := [("sign", 1)]) (g := (gName 1)) rfl sc_number_of.nd (pi_str (pv 0)) (blkOk_by (own := [("sign", 1)]) (N := N_number_of) (sc := defScope s_number_of) (by decide +kernel)) (fun _ _ _ _ _ => (pg_name (i := 1) sc_number_of.nd rfl (Or.inl rfl))) (fun _ _ _ _ _ => (pts_one (pt_cmpR op_notIn_sign (pv 1) (pe_glob (v := .str _) rfl k_FIGURES ⟨_, rfl⟩) (by rfl)))) (fun _ _ _ _ _ => (pv 1))) (pe_lst pa_nil) (nomark _))))) (pss_one (ps_ret pe_non)) pss_nil)
    (pss_one (ps_ret (pe_ifExp (PW.pt (pw_or (pt_cmpR (opNe K hr.units) (pe_ix (ixSeq K) (pv 0) pe_int (fun _ _ => rfl)) pe_str (nomark _)) (pw_or1 (pt_cmpR (opEq K hr.units) (pv 0) pe_str (nomark _))))) (pe_callTy call_int_str rfl T.n_int (by decide +kernel) (pa_cons (pv 0) pa_nil)) pe_non))))
  case s => exact (ss_seq (ss_if (st_or (st_not (st_test (se_chain s2_cmp s2_cmp (se_c (d := .int 1) rv_int) (se_n sn_len (sa_cons se_var sa_nil)) (se_c (d := .int 6) rv_int)))) (st_test (se_op s2_ne (se_of (sf_lc (vs := [1]) (si_str se_var) (sp_name (by decide)) (st_test (se_op s2_notInS se_var (se_c (d := .str [48, 49, 50, 51, 52, 53, 54, 55, 56, 57]) (rv_str (by decide +kernel))))) se_var)) (se_of (sf_lst sa_nil))))) (ss_ret (se_c (v := .non) (d := .non) rv_non)) ss_next)
    (ss_ret (se_if (st_or (st_test (se_op s2_ne (se_op s2_ix se_var (se_c (d := .int 0) rv_int)) (se_c (d := .str [48]) (rv_str (by decide +kernel))))) (st_test (se_op s2_eq se_var (se_c (d := .str [48]) (rv_str (by decide +kernel)))))) (se_n sn_intS (sa_cons se_var sa_nil)) (se_c (v := .non) (d := .non) rv_non))))
theorem bd_step_of (T : Tx w K mg) : Binds K T.d_step_of ["row"] [] := FunD.bindsN T.F_step_of fun _ _ _ _ _ _ us hl => match us, hl with | [_], _ => rfl
theorem ok_step_of (T : Tx w K mg) : FnOk P w K mg base CX0 2 T.a_step_of T.d_step_of ["row"] (spOf K (gx T) 1 F_step_of) := by
  obtain ⟨t_BACK, k_BACK⟩ := T.k_BACK
  obtain ⟨t_BLANK, k_BLANK⟩ := T.k_BLANK
  obtain ⟨t_ENDS, k_ENDS⟩ := T.k_ENDS
  obtain ⟨t_FIGURES, k_FIGURES⟩ := T.k_FIGURES
  obtain ⟨t_LETTERS, k_LETTERS⟩ := T.k_LETTERS
  refine T.F_step_of.ok (k := 1) sc_step_of sp_len (fun cdv A outer s H vs Q E hr h => ?_)
  refine' ⟨_, PSs.nox ?p, body_ok (N := N_step_of) (n := 1) (b := b_step_of) ?s (by decide) h⟩
  case p => exact (pss_cons (ps_set (i := 1) sc_step_of.nd rfl (Or.inl rfl) (pe_split (pv 0) (pe_glob (v := .str _) rfl k_BLANK ⟨_, rfl⟩)))
    (pss_cons (ps_set (i := 2) sc_step_of.nd rfl (Or.inl rfl) (pe_kget2 T.t_SHAPES (pe_glob (v := .ref _) rfl T.gd_SHAPES rfl) (pe_ix (ixSeq K) (pv 1) pe_int (fun _ _ => rfl)) (pe_kget2 T.t_ROAD (pe_glob (v := .ref _) rfl T.gd_ROAD rfl) (pe_ix (ixSeq K) (pv 1) pe_int (fun _ _ => rfl)) pe_non ⟨rfl, rfl, rfl, rfl⟩) ⟨rfl, rfl, rfl, rfl⟩))
    (pss_cons (ps_if (PW.pt (pw_or (pt_cmp (pc_isN (pv 2)) rfl) (pw_or1 (pt_cmpR op_lt (pe_callB (callLen K) rfl T.n_len (by decide +kernel) (pa_cons (pv 1) pa_nil)) (pe_op (opAdd K) (pv 2) pe_int) (nomark _))))) (pss_one (ps_ret pe_non)) pss_nil)
    (pss_cons (ps_setLc (i := 3) (own := [("word", 4)]) (g := (gName 4)) rfl sc_step_of.nd rfl rfl (sw_true rfl rfl rfl (by decide +kernel)) (piList K (pe_slice (slList K) (pv 1) (po_some pe_int) (po_some (pe_op (opAdd K) (pv 2) pe_int)))) (blkOk_by (own := [("word", 4)]) (N := N_step_of) (sc := defScope s_step_of) (by decide +kernel)) (fun _ _ _ _ _ => (pg_name (i := 4) sc_step_of.nd rfl (Or.inl rfl))) (fun _ _ _ _ _ => pts_nil) (fun _ _ _ _ _ => (pe_call (ok_number_of T) (hr.mono (by decide)) rfl T.g_number_of T.F_number_of.kp (bd_number_of T) .nil pass0 (pa_cons (pv 4) pa_nil))))
    (pss_cons (ps_if (pt_cmpR (opIn K) pe_non (pv 3) (by rfl)) (pss_one (ps_ret pe_non)) pss_nil)
    (pss_cons (ps_if (pt_cmpR (opNe K hr.units) (pe_ix (ixSeq K) (pv 1) pe_int (fun _ _ => rfl)) pe_str (nomark _)) (pss_one (ps_ret (pe_ifExp (pt_cmpR (opEq K hr.units) (pe_callB (callLen K) rfl T.n_len (by decide +kernel) (pa_cons (pv 1) pa_nil)) (pe_op (opAdd K) (pv 2) pe_int) (nomark _)) (pe_callTy (callTup K) rfl T.n_tuple (by decide +kernel) (pa_cons (pe_op op_cat (pe_lst (pa_cons (pe_ix (ixSeq K) (pv 1) pe_int (fun _ _ => rfl)) pa_nil)) (pv 3)) pa_nil)) pe_non))) pss_nil)
    (pss_cons (ps_set (i := 5) sc_step_of.nd rfl (Or.inl rfl) (peJoin K (pe_glob (v := .str _) rfl k_BLANK ⟨_, rfl⟩) (pe_slice (slList K) (pv 1) (po_some pe_int) po_none)))
    (pss_cons (ps_set (i := 6) sc_step_of.nd rfl (Or.inl rfl) (pe_and (pe_cmpR op_gt (pe_callB (callLen K) rfl T.n_len (by decide +kernel) (pa_cons (pv 1) pa_nil)) pe_int (nomark _)) (pe_one (pe_cmpR (opEq K hr.units) (pe_lc (own := [("sign", 7)]) (g := (gName 7)) rfl sc_step_of.nd (pi_str (pv 5)) (blkOk_by (own := [("sign", 7)]) (N := N_step_of) (sc := defScope s_step_of) (by decide +kernel)) (fun _ _ _ _ _ => (pg_name (i := 7) sc_step_of.nd rfl (Or.inl rfl))) (fun _ _ _ _ _ => (pts_one (pt_cmpR op_notIn_sign (pv 7) (pe_op (opAdd K) (pe_op (opAdd K) (pe_op (opAdd K) (pe_op (opAdd K) (pe_glob (v := .str _) rfl k_LETTERS ⟨_, rfl⟩) (pe_glob (v := .str _) rfl k_FIGURES ⟨_, rfl⟩)) (pe_glob (v := .str _) rfl k_BLANK ⟨_, rfl⟩)) (pe_glob (v := .str _) rfl k_BACK ⟨_, rfl⟩)) (pe_glob (v := .str _) rfl k_ENDS ⟨_, rfl⟩)) (by rfl)))) (fun _ _ _ _ _ => (pv 7))) (pe_lst pa_nil) (nomark _)))))
    (pss_one (ps_ret (pe_ifExp (pt_val (pv 6)) (pe_tup (pa_cons pe_str (pa_cons (pe_ix (ixSeq K) (pv 3) pe_int (fun _ _ => rfl)) (pa_cons (pv 5) pa_nil)))) pe_non)))))))))))
  case s => exact (ss_seq (ss_asg (se_of (sf_tm1 smf_split se_var (se_c (d := .str [32]) (rv_str (by decide +kernel))))) sg_name)
    (ss_seq (ss_asg (se_kget2 (se_op s2_ix se_var (se_c (d := .int 0) rv_int)) (se_kget2 (se_op s2_ix se_var (se_c (d := .int 0) rv_int)) (se_c (v := .non) (d := .non) rv_non))) sg_name)
    (ss_seq (ss_if (st_or (st_B (se_isN se_var)) (st_test (se_op s2_cmp (se_n sn_len (sa_cons se_var sa_nil)) (se_op s2_add se_var (se_c (d := .int 1) rv_int))))) (ss_ret (se_c (v := .non) (d := .non) rv_non)) ss_next)
    (ss_seq (ss_asg (se_of (sf_lc (vs := [4]) (si_listF (sf_sl s3f_sl se_var (so_some (se_c (d := .int 1) rv_int)) (so_some (se_op s2_add se_var (se_c (d := .int 1) rv_int))))) (sp_name (by decide)) st_yes (se_call runB_len (sa_cons se_var sa_nil)))) sg_name)
    (ss_seq (ss_if (st_test (se_op s2_in (se_c (v := .non) (d := .non) rv_non) se_var)) (ss_ret (se_c (v := .non) (d := .non) rv_non)) ss_next)
    (ss_seq (ss_if (st_test (se_op s2_ne (se_op s2_ix se_var (se_c (d := .int 0) rv_int)) (se_c (d := .str [112, 114, 101, 115, 115]) (rv_str (by decide +kernel))))) (ss_ret (se_if (st_test (se_op s2_eq (se_n sn_len (sa_cons se_var sa_nil)) (se_op s2_add se_var (se_c (d := .int 1) rv_int)))) (se_n sn_tupOf (sa_cons (se_of (sf_op s2f_cat (se_of (sf_lst (sa_cons (se_op s2_ix se_var (se_c (d := .int 0) rv_int)) sa_nil))) se_var)) sa_nil)) (se_c (v := .non) (d := .non) rv_non))) ss_next)
    (ss_seq (ss_asg (se_tm1 sm_joinR (se_c (d := .str [32]) (rv_str (by decide +kernel))) (se_of (sf_sl s3f_sl se_var (so_some (se_c (d := .int 2) rv_int)) so_none))) sg_name)
    (ss_seq (ss_asg (se_and (se_op s2_cmp (se_n sn_len (sa_cons se_var sa_nil)) (se_c (d := .int 2) rv_int)) (se_op s2_eq (se_of (sf_lc (vs := [7]) (si_str se_var) (sp_name (by decide)) (st_test (se_op s2_notInS se_var (se_op s2_add (se_op s2_add (se_op s2_add (se_op s2_add (se_c (d := .str [97, 98, 99, 100, 101, 102, 103, 104, 105, 106, 107, 108, 109, 110, 111, 112, 113, 114, 115, 116, 117, 118, 119, 120, 121, 122]) (rv_str (by decide +kernel))) (se_c (d := .str [48, 49, 50, 51, 52, 53, 54, 55, 56, 57]) (rv_str (by decide +kernel)))) (se_c (d := .str [32]) (rv_str (by decide +kernel)))) (se_c (d := .str [60]) (rv_str (by decide +kernel)))) (se_c (d := .str [59]) (rv_str (by decide +kernel)))))) se_var)) (se_of (sf_lst sa_nil)))) sg_name)
    (ss_ret (se_if (st_B se_var) (se_tup (sa_cons (se_c (d := .str [112, 114, 101, 115, 115]) (rv_str (by decide +kernel))) (sa_cons (se_op s2_ix se_var (se_c (d := .int 0) rv_int)) (sa_cons se_var sa_nil)))) (se_c (v := .non) (d := .non) rv_non)))))))))))
theorem bd_read (T : Tx w K mg) : Binds K T.d_read ["text"] [] := FunD.bindsN T.F_read fun _ _ _ _ _ _ us hl => match us, hl with | [_], _ => rfl
theorem ok_read (T : Tx w K mg) : FnOk P w K mg base (L2.CX P w) 3 T.a_read T.d_read ["text"] (spX K (gx T) 1 F_read) := by
  refine T.F_read.ok (k := 2) sc_read spX_len (fun cdv A outer s H vs Q E hr h => ?_)
  refine' ⟨_, ?p, bodyX_ok (N := N_read) (n := 1) (b := b_read) ?s (by decide) h⟩
  case p => exact (pss_cons (ps_set (i := 1) sc_read.nd rfl (Or.inl rfl) (pe_lst pa_nil))
    (pss_cons (ps_for (passes_of rfl) rfl (piEnum K rfl T.n_enumerate (pa_cons (pe_ifExp (pt_cmpR (opNe K hr.units) (pv 0) pe_str (nomark _)) (pe_split (pv 0) pe_str) (pe_lst pa_nil)) pa_nil)) (pgTup K rfl (pgs_cons (pg_name (i := 2) sc_read.nd rfl (Or.inl rfl)) (pgs_cons (pg_name (i := 3) sc_read.nd rfl (Or.inl rfl)) pgs_nil))) (pss_cons (ps_set (i := 4) sc_read.nd rfl (Or.inl rfl) (pe_call (ok_step_of T) (hr.mono (by decide)) rfl T.g_step_of T.F_step_of.kp (bd_step_of T) .nil pass0 (pa_cons (pv 3) pa_nil)))
    (pss_cons (ps_if (pt_cmp (pc_isN (pv 4)) rfl) (pss_one (ps_raise rfl (takes_of rfl rfl rfl rfl) (pmk_oex T.o_BadText.o T.o_BadText.i T.o_BadText.t (ok_BadText___init__ T) (hr.mono (by decide)) (bd_BadText___init__ T) .nil pass0 rfl T.gx_BadText (pa_cons (pv 2) pa_nil)))) pss_nil)
    (pss_one (ps_expr (peBm K PySem.F.plainAttrs_list PySem.F.slot_list_append PySem.F.type_list_append mt_append (pv 1) (pa_cons (pv 4) pa_nil)))))))
    (pss_one (ps_ret (pv 1)))))
  case s => exact (sx_seq (sx_of (ss_acc (sf_lst sa_nil)))
    (sx_seq (sx_for (si_enum (sa_cons (se_if (st_test (se_op s2_ne se_var (se_c (d := .str []) (rv_str (by decide +kernel))))) (se_of (sf_tm1 smf_split se_var (se_c (d := .str [10]) (rv_str (by decide +kernel))))) (se_of (sf_lst sa_nil))) sa_nil)) (sg_tup (sgs_cons sg_name (sgs_cons sg_name sgs_nil))) (sx_seq (sx_of (ss_asg (se_call runB_len (sa_cons se_var sa_nil)) sg_name))
    (sx_seq (sx_if (st_B (se_isN se_var)) (sx_raiseI rfl se_var) (sx_of ss_next))
    (sx_of (ss_app se_var)))))
    (sx_of ss_retA)))
theorem bd__law_begun (T : Tx w K mg) : Binds K T.d__law_begun ["_law_script"] [] := FunD.bindsN T.F__law_begun fun _ _ _ _ _ _ us hl => match us, hl with | [_], _ => rfl
theorem ok__law_begun (T : Tx w K mg) : FnOk P w K mg base CX0 1 T.a__law_begun T.d__law_begun ["_law_script"] (spOf K (gx T) 1 AH.F_begun) := by
  refine T.F__law_begun.ok (k := 0) sc__law_begun sp_len (fun cdv A outer s H vs Q E hr h => ?_)
  refine' ⟨_, PSs.nox ?p, body_ok (N := N__law_begun) (n := 1) (b := AH.bBegun) ?s (by decide) h⟩
  case p => exact (pss_cons (ps_set (i := 1) sc__law_begun.nd rfl (Or.inl rfl) pe_int)
    (pss_cons (ps_for PassesOwn.never rfl (piList K (pv 0)) (pg_name (i := 2) sc__law_begun.nd rfl (Or.inl rfl)) (pss_one (ps_set (i := 1) sc__law_begun.nd rfl (Or.inl rfl) (pe_op op_mod (pe_op (opAdd K) (pe_op (opAdd K) (pe_op op_mulAny (pv 1) pe_int) (pe_op op_mulAny (pv 2) pe_int)) pe_int) pe_int))))
    (pss_one (ps_ret (pe_lst (pa_cons (pe_callTy (callList K) rfl T.n_list (by decide +kernel) (pa_cons (pv 0) pa_nil)) (pa_cons (pe_op op_mulAny (pv 1) (pe_callTy call_int1 rfl T.n_int (by decide +kernel) (pa_cons (pe_cmpR op_gt (pe_callB (callLen K) rfl T.n_len (by decide +kernel) (pa_cons (pv 0) pa_nil)) pe_int (nomark _)) pa_nil))) pa_nil)))))))
  case s => exact (ss_seq (ss_asg (se_c (d := .int 0) rv_int) sg_name)
    (ss_seq (ss_for (si_list se_var) sg_name (ss_asg (se_op s2_mod (se_op s2_add (se_op s2_add (se_op s2_mul se_var (se_c (d := .int 48271) rv_int)) (se_op s2_mul se_var (se_c (d := .int 69621) rv_int))) (se_c (d := .int 11) rv_int)) (se_c (d := .int 2147483647) rv_int)) sg_name))
    (ss_ret (se_own (sf_lst (sa_cons (se_own (sf_n snf_listOf (sa_cons se_var sa_nil))) (sa_cons (se_op s2_mul se_var (se_n sn_int (sa_cons (se_op s2_cmp (se_n sn_len (sa_cons se_var sa_nil)) (se_c (d := .int 2) rv_int)) sa_nil))) sa_nil)))))))
theorem bd__law_take (T : Tx w K mg) : Binds K T.d__law_take ["_law_box", "_law_many"] [] := FunD.bindsN T.F__law_take fun _ _ _ _ _ _ us hl => match us, hl with | [_, _], _ => rfl
theorem ok__law_take (T : Tx w K mg) : FnOk P w K mg base CX0 1 T.a__law_take T.d__law_take ["_law_box", "_law_many"] (spOf K (gx T) 2 AH.F_take) := by
  refine T.F__law_take.ok (k := 0) sc__law_take sp_len (fun cdv A outer s H vs Q E hr h => ?_)
  refine' ⟨_, PSs.nox ?p, body_ok (N := N__law_take) (n := 2) (b := AH.bTake) ?s (by decide) h⟩
  case p => exact (pss_cons (ps_if (pt_cmpR (opEq K hr.units) (pe_ix (ixSeq K) (pv 0) pe_int (fun _ _ => rfl)) (pe_lst pa_nil) (nomark _)) (pss_cons (ps_asg (pe_op op_mod (pe_op op_mulAny (pe_ix (ixSeq K) (pv 0) pe_int (fun _ _ => rfl)) pe_int) pe_int) (pg_sub (pv 0) pe_int set_list))
    (pss_one (ps_ret (pe_op op_mod (pe_op op_fdiv (pe_ix (ixSeq K) (pv 0) pe_int (fun _ _ => rfl)) pe_int) (pv 1))))) pss_nil)
    (pss_cons (ps_set (i := 2) sc__law_take.nd rfl (Or.inl rfl) (pe_ix (ixSeq K) (pe_ix (ixSeq K) (pv 0) pe_int (fun _ _ => rfl)) pe_int (fun _ _ => rfl)))
    (pss_cons (ps_asg (pe_op op_fdiv (pv 2) (pv 1)) (pg_sub (pe_ix (ixSeq K) (pv 0) pe_int (fun _ _ => rfl)) pe_int set_list))
    (pss_cons (ps_if (PW.pt (pw_or (pt_cmpR (opEq K hr.units) (pe_ix (ixSeq K) (pe_ix (ixSeq K) (pv 0) pe_int (fun _ _ => rfl)) pe_int (fun _ _ => rfl)) pe_int (nomark _)) (pw_or1 (pt_cmpR (opEq K hr.units) (pe_ix (ixSeq K) (pe_ix (ixSeq K) (pv 0) pe_int (fun _ _ => rfl)) pe_int (fun _ _ => rfl)) (pe_un un_neg pe_int) (nomark _))))) (pss_one (ps_expr (peBm K PySem.F.plainAttrs_list PySem.F.slot_list_pop PySem.F.type_list_pop mt_popAt (pe_ix (ixSeq K) (pv 0) pe_int (fun _ _ => rfl)) (pa_cons pe_int pa_nil)))) pss_nil)
    (pss_one (ps_ret (pe_op op_mod (pv 2) (pv 1))))))))
  case s => exact (ss_seq (ss_if (st_test (se_op s2_eq (se_op s2_ix se_var (se_c (d := .int 0) rv_int)) (se_of (sf_lst sa_nil)))) (ss_seq (ss_asg (se_op s2_mod (se_op s2_mul (se_op s2_ix se_var (se_c (d := .int 1) rv_int)) (se_c (d := .int 48271) rv_int)) (se_c (d := .int 2147483647) rv_int)) (sg_sub se_var (se_c (d := .int 1) rv_int)))
    (ss_ret (se_op s2_mod (se_op s2_div (se_op s2_ix se_var (se_c (d := .int 1) rv_int)) (se_c (d := .int 7) rv_int)) se_var))) ss_next)
    (ss_seq (ss_asg (se_op s2_ix (se_op s2_ix se_var (se_c (d := .int 0) rv_int)) (se_c (d := .int 0) rv_int)) sg_name)
    (ss_seq (ss_asg (se_op s2_div se_var se_var) (sg_sub (se_op s2_ix se_var (se_c (d := .int 0) rv_int)) (se_c (d := .int 0) rv_int)))
    (ss_seq (ss_if (st_or (st_test (se_op s2_eq (se_op s2_ix (se_op s2_ix se_var (se_c (d := .int 0) rv_int)) (se_c (d := .int 0) rv_int)) (se_c (d := .int 0) rv_int))) (st_test (se_op s2_eq (se_op s2_ix (se_op s2_ix se_var (se_c (d := .int 0) rv_int)) (se_c (d := .int 0) rv_int)) (se_un s1_neg (se_c (d := .int 1) rv_int))))) (ss_do (se_bm sm_popAt (se_op s2_ix se_var (se_c (d := .int 0) rv_int)) (sa_cons (se_c (d := .int 0) rv_int) sa_nil))) ss_next)
    (ss_ret (se_op s2_mod se_var se_var))))))
theorem bd__law_alike (T : Tx w K mg) : Binds K T.d__law_alike ["_law_found", "_law_due"] [] := FunD.bindsN T.F__law_alike fun _ _ _ _ _ _ us hl => match us, hl with | [_, _], _ => rfl
theorem _law_alike_len : ∀ (m : Nat) ds S r, AH.F_alike m ds S = some r → ds.length = 2
  | 0, _, _, _, h => by cases h
  | m + 1, ds, S, r, h => runB_len ds S r h
theorem ok__law_alike (T : Tx w K mg) : ∀ m : Nat, FnOk P w K mg base CX0 (3 + m) T.a__law_alike T.d__law_alike ["_law_found", "_law_due"] (spOf K (gx T) 2 (AH.F_alike m))
  | 0 => fn_none
  | m + 1 => by
    have G := ok__law_alike T m
    refine T.F__law_alike.ok (k := 3 + m) sc__law_alike sp_len (fun cdv A outer s H vs Q E hr h => ?_)
    refine' ⟨_, PSs.nox ?p, body_ok (N := N__law_alike) (n := 2) (b := AH.bAlike (AH.F_alike m)) ?s (by decide) h⟩
    case p => exact (pss_cons (ps_if (pt_cmp (pc_isN (pv 1)) rfl) (pss_one (ps_ret (pe_cmp (pc_isN (pv 0)) rfl))) pss_nil)
    (pss_cons (ps_if (pt_val (pe_callB (callIsi K) rfl T.n_isinstance (by decide +kernel) (pa_cons (pv 1) (pa_cons (pe_bltn (v := .ty "bool") rfl T.n_bool (by decide +kernel) rfl) pa_nil)))) (pss_one (ps_ret (pe_and (pe_callB (callIsi K) rfl T.n_isinstance (by decide +kernel) (pa_cons (pv 0) (pa_cons (pe_bltn (v := .ty "bool") rfl T.n_bool (by decide +kernel) rfl) pa_nil))) (pe_one (pe_cmpR (opEq K hr.units) (pv 0) (pv 1) (nomark _)))))) pss_nil)
    (pss_cons (ps_if (pt_val (pe_callB (callIsi K) rfl T.n_isinstance (by decide +kernel) (pa_cons (pv 1) (pa_cons (pe_bltn (v := .ty "int") rfl T.n_int (by decide +kernel) rfl) pa_nil)))) (pss_one (ps_ret (pe_and (pe_callB (callIsi K) rfl T.n_isinstance (by decide +kernel) (pa_cons (pv 0) (pa_cons (pe_bltn (v := .ty "int") rfl T.n_int (by decide +kernel) rfl) pa_nil))) (pe_and (pe_not (pe_callB (callIsi K) rfl T.n_isinstance (by decide +kernel) (pa_cons (pv 0) (pa_cons (pe_bltn (v := .ty "bool") rfl T.n_bool (by decide +kernel) rfl) pa_nil)))) (pe_one (pe_cmpR (opEq K hr.units) (pv 0) (pv 1) (nomark _))))))) pss_nil)
    (pss_cons (ps_if (pt_val (pe_callB (callIsi K) rfl T.n_isinstance (by decide +kernel) (pa_cons (pv 1) (pa_cons (pe_bltn (v := .ty "str") rfl T.n_str (by decide +kernel) rfl) pa_nil)))) (pss_one (ps_ret (pe_and (pe_callB (callIsi K) rfl T.n_isinstance (by decide +kernel) (pa_cons (pv 0) (pa_cons (pe_bltn (v := .ty "str") rfl T.n_str (by decide +kernel) rfl) pa_nil))) (pe_one (pe_cmpR (opEq K hr.units) (pv 0) (pv 1) (nomark _)))))) pss_nil)
    (pss_cons (ps_if (PW.pt (pw_or (pt_cmpR (opNe K hr.units) (pe_callB (callIsi K) rfl T.n_isinstance (by decide +kernel) (pa_cons (pv 1) (pa_cons (pe_bltn (v := .ty "tuple") rfl T.n_tuple (by decide +kernel) rfl) pa_nil))) (pe_callB (callIsi K) rfl T.n_isinstance (by decide +kernel) (pa_cons (pv 0) (pa_cons (pe_bltn (v := .ty "tuple") rfl T.n_tuple (by decide +kernel) rfl) pa_nil))) (nomark _)) (pw_or1 (pt_cmpR (opNe K hr.units) (pe_callB (callIsi K) rfl T.n_isinstance (by decide +kernel) (pa_cons (pv 1) (pa_cons (pe_bltn (v := .ty "list") rfl T.n_list (by decide +kernel) rfl) pa_nil))) (pe_callB (callIsi K) rfl T.n_isinstance (by decide +kernel) (pa_cons (pv 0) (pa_cons (pe_bltn (v := .ty "list") rfl T.n_list (by decide +kernel) rfl) pa_nil))) (nomark _))))) (pss_one (ps_ret pe_bl)) pss_nil)
    (pss_cons (ps_if (pt_cmpR (opNe K hr.units) (pe_callB (callLen K) rfl T.n_len (by decide +kernel) (pa_cons (pv 0) pa_nil)) (pe_callB (callLen K) rfl T.n_len (by decide +kernel) (pa_cons (pv 1) pa_nil)) (nomark _)) (pss_one (ps_ret pe_bl)) pss_nil)
    (pss_cons (ps_for PassesOwn.never rfl (pi_range1 rfl T.n_range (pa_cons (pe_callB (callLen K) rfl T.n_len (by decide +kernel) (pa_cons (pv 1) pa_nil)) pa_nil)) (pg_name (i := 2) sc__law_alike.nd rfl (Or.inl rfl)) (pss_one (ps_if (pt_not (pt_val (pe_call G (hr.mono (by omega)) rfl T.g__law_alike T.F__law_alike.kp (bd__law_alike T) .nil pass0 (pa_cons (pe_ix (ixSeq K) (pv 0) (pv 2) (fun _ _ => rfl)) (pa_cons (pe_ix (ixSeq K) (pv 1) (pv 2) (fun _ _ => rfl)) pa_nil))))) (pss_one (ps_ret pe_bl)) pss_nil)))
    (pss_one (ps_ret pe_bl)))))))))
    case s => exact (ss_seq (ss_if (st_B (se_isN se_var)) (ss_ret (se_isN se_var)) ss_next)
    (ss_seq (ss_if (st_B (se_n sn_isT (sa_cons se_var (sa_cons (se_c rv_raw) sa_nil)))) (ss_ret (se_and (se_n sn_isT (sa_cons se_var (sa_cons (se_c rv_raw) sa_nil))) (se_op s2_eq se_var se_var))) ss_next)
    (ss_seq (ss_if (st_B (se_n sn_isT (sa_cons se_var (sa_cons (se_c rv_raw) sa_nil)))) (ss_ret (se_and (se_n sn_isT (sa_cons se_var (sa_cons (se_c rv_raw) sa_nil))) (se_and (se_not (se_n sn_isT (sa_cons se_var (sa_cons (se_c rv_raw) sa_nil)))) (se_op s2_eq se_var se_var)))) ss_next)
    (ss_seq (ss_if (st_B (se_n sn_isT (sa_cons se_var (sa_cons (se_c rv_raw) sa_nil)))) (ss_ret (se_and (se_n sn_isT (sa_cons se_var (sa_cons (se_c rv_raw) sa_nil))) (se_op s2_eq se_var se_var))) ss_next)
    (ss_seq (ss_if (st_or (st_test (se_op s2_ne (se_n sn_isT (sa_cons se_var (sa_cons (se_c rv_raw) sa_nil))) (se_n sn_isT (sa_cons se_var (sa_cons (se_c rv_raw) sa_nil))))) (st_test (se_op s2_ne (se_n sn_isT (sa_cons se_var (sa_cons (se_c rv_raw) sa_nil))) (se_n sn_isT (sa_cons se_var (sa_cons (se_c rv_raw) sa_nil)))))) (ss_ret (se_c (v := .bl false) (d := .bl false) rv_bl)) ss_next)
    (ss_seq (ss_if (st_test (se_op s2_ne (se_n sn_len (sa_cons se_var sa_nil)) (se_n sn_len (sa_cons se_var sa_nil)))) (ss_ret (se_c (v := .bl false) (d := .bl false) rv_bl)) ss_next)
    (ss_seq (ss_for (si_r1 (sa_cons (se_n sn_len (sa_cons se_var sa_nil)) sa_nil)) sg_name (ss_if (st_not (st_B (se_call (_law_alike_len _) (sa_cons (se_op s2_ix se_var se_var) (sa_cons (se_op s2_ix se_var se_var) sa_nil))))) (ss_ret (se_c (v := .bl false) (d := .bl false) rv_bl)) ss_next))
    (ss_ret (se_c (v := .bl true) (d := .bl true) rv_bl)))))))))
theorem bd__law_told (T : Tx w K mg) : Binds K T.d__law_told ["_law_work"] [] := FunD.bindsN T.F__law_told fun _ _ _ _ _ _ us hl => match us, hl with | [_], _ => rfl
theorem told_ok (T : Tx w K mg) : ∃ ts : Addr → Value → Option Addr → TS, (∀ (P : Program) (base : Heap) (A : Around) (st : List Env) (cdv : Value) (s : Shared) (H : Hp) (a : Addr) (oe : Obj) (cls : Value) (d : Option Addr) (pn : List (Addr × Obj)), Room 0 (A.deeper (envOfC "_law_told" (defScope s__law_told) s.heap.objs.size T.a__law_told cdv)) → Zc cls d oe → (∃ vs, oe.data = .fields vs) →
    PSs (((cxOf C8.CX0 P w K mg base N__law_told "_law_told" (defScope s__law_told) T.a__law_told cdv A st s H C8.E0).nox).suite a ((a, oe) :: pn)) (suiteOf s__law_told) (ts a cls d)) ∧ Suite K (gx T) (He.ga K "HallError") 1 4 ts toldV := by
  refine' ⟨?ts, fun P base A st cdv s H a oe cls d pn hr hz hf => ?p, suite_ok (b := b__law_told) (by decide) (fun c a d fs d0 h => ?s) (fun c fs d0 h => (told_at (cm_x T) T.E h).m) (fun c fs d0 a d S h hd => ?r)⟩
  case p => exact (pss_cons (ps_set (i := 2) sc__law_told.nd rfl (Or.inl rfl) (pe_lst (pa_cons (pe_callB (call_isX K hz hf) rfl T.n_isinstance (by decide +kernel) (pa_cons (pv 1) (pa_cons (pe_glob (v := .ref (He.ga K "BadCount")) rfl T.gx_BadCount rfl) pa_nil))) (pa_cons (pe_callB (call_isX K hz hf) rfl T.n_isinstance (by decide +kernel) (pa_cons (pv 1) (pa_cons (pe_glob (v := .ref (He.ga K "BadFields")) rfl T.gx_BadFields rfl) pa_nil))) (pa_cons (pe_callB (call_isX K hz hf) rfl T.n_isinstance (by decide +kernel) (pa_cons (pv 1) (pa_cons (pe_glob (v := .ref (He.ga K "BadLook")) rfl T.gx_BadLook rfl) pa_nil))) (pa_cons (pe_callB (call_isX K hz hf) rfl T.n_isinstance (by decide +kernel) (pa_cons (pv 1) (pa_cons (pe_glob (v := .ref (He.ga K "BadSign")) rfl T.gx_BadSign rfl) pa_nil))) pa_nil))))))
    (pss_cons (ps_set (i := 2) sc__law_told.nd rfl (Or.inl rfl) (pe_op op_cat (pv 2) (pe_lst (pa_cons (pe_callB (call_isX K hz hf) rfl T.n_isinstance (by decide +kernel) (pa_cons (pv 1) (pa_cons (pe_glob (v := .ref (He.ga K "BadSize")) rfl T.gx_BadSize rfl) pa_nil))) (pa_cons (pe_callB (call_isX K hz hf) rfl T.n_isinstance (by decide +kernel) (pa_cons (pv 1) (pa_cons (pe_glob (v := .ref (He.ga K "BadText")) rfl T.gx_BadText rfl) pa_nil))) (pa_cons (pe_callB (call_isX K hz hf) rfl T.n_isinstance (by decide +kernel) (pa_cons (pv 1) (pa_cons (pe_glob (v := .ref (He.ga K "NoLook")) rfl T.gx_NoLook rfl) pa_nil))) pa_nil))))))
    (pss_cons (ps_if (PW.pt (pw_or (pt_cmpR (opNe K hr.units) (peBm K PySem.F.plainAttrs_list PySem.F.slot_list_count PySem.F.type_list_count (mt_cntF K) (pv 2) (pa_cons pe_bl pa_nil)) pe_int (nomark _)) (pw_or1 (pt_not (pt_val (pe_callB (call_isX K hz hf) rfl T.n_isinstance (by decide +kernel) (pa_cons (pv 1) (pa_cons (pe_bltn (v := .ty "ValueError") rfl T.n_ValueError (by decide +kernel) rfl) pa_nil)))))))) (pss_one (ps_ret (pe_tup (pa_cons pe_str (pa_cons pe_int pa_nil))))) pss_nil)
    (pss_cons (ps_set (i := 3) sc__law_told.nd rfl (Or.inl rfl) (pe_ix (ixSeq K) (pe_lst (pa_cons pe_str (pa_cons pe_str (pa_cons pe_str (pa_cons pe_str (pa_cons pe_str (pa_cons pe_str (pa_cons pe_str pa_nil)))))))) (peBm K PySem.F.plainAttrs_list PySem.F.slot_list_index PySem.F.type_list_index (mtIdx K) (pv 2) (pa_cons pe_bl pa_nil)) (fun _ _ => rfl)))
    (pss_cons (ps_if (pt_cmpR (opEq K hr.units) (pv 3) pe_str (nomark _)) (pss_one (ps_ret (pe_tup (pa_cons (pv 3) (pa_cons (peXf K (T.E.c "BadSign" (by decide +kernel)).2 T.o_BadSign.n hz hf (pv 1)) pa_nil))))) pss_nil)
    (pss_one (ps_ret (pe_tup (pa_cons (pv 3) (pa_cons (pe_ifExp (pt_cmpR (opEq K hr.units) (pv 3) pe_str (nomark _)) (peXf K (T.E.c "BadText" (by decide +kernel)).2 T.o_BadText.n hz hf (pv 1)) pe_int) pa_nil))))))))))
  case s =>
    have hT := told_at (cm_x T) T.E h
    exact (ss_seq (ss_asg (se_of (sf_lst (sa_cons (se_isX hT.e (hT.k 0 _ rfl) (fun u r => r)) (sa_cons (se_isX hT.e (hT.k 1 _ rfl) (fun u r => r)) (sa_cons (se_isX hT.e (hT.k 2 _ rfl) (fun u r => r)) (sa_cons (se_isX hT.e (hT.k 3 _ rfl) (fun u r => r)) sa_nil)))))) sg_name)
    (ss_seq (ss_asg (se_of (sf_op s2f_cat se_var (se_of (sf_lst (sa_cons (se_isX hT.e (hT.k 4 _ rfl) (fun u r => r)) (sa_cons (se_isX hT.e (hT.k 5 _ rfl) (fun u r => r)) (sa_cons (se_isX hT.e (hT.k 6 _ rfl) (fun u r => r)) sa_nil))))))) sg_name)
    (ss_seq (ss_if (st_or (st_test (se_op s2_ne (se_bmV sm_cntB se_var (sa_cons (se_c (v := .bl true) (d := .bl true) rv_bl) sa_nil)) (se_c (d := .int 1) rv_int))) (st_not (st_B (se_isX hT.e hT.v (fun u r => r))))) (ss_ret (se_tup (sa_cons (se_c (d := .str [111, 116, 104, 101, 114]) (rv_str (by decide +kernel))) (sa_cons (se_c (d := .int 0) rv_int) sa_nil)))) ss_next)
    (ss_seq (ss_asg (se_op s2_ix (se_of (sf_lst (sa_cons (se_c (d := .str [66, 97, 100, 67, 111, 117, 110, 116]) (rv_str (by decide +kernel))) (sa_cons (se_c (d := .str [66, 97, 100, 70, 105, 101, 108, 100, 115]) (rv_str (by decide +kernel))) (sa_cons (se_c (d := .str [66, 97, 100, 76, 111, 111, 107]) (rv_str (by decide +kernel))) (sa_cons (se_c (d := .str [66, 97, 100, 83, 105, 103, 110]) (rv_str (by decide +kernel))) (sa_cons (se_c (d := .str [66, 97, 100, 83, 105, 122, 101]) (rv_str (by decide +kernel))) (sa_cons (se_c (d := .str [66, 97, 100, 84, 101, 120, 116]) (rv_str (by decide +kernel))) (sa_cons (se_c (d := .str [78, 111, 76, 111, 111, 107]) (rv_str (by decide +kernel))) sa_nil))))))))) (se_bmV sm_idxB se_var (sa_cons (se_c (v := .bl true) (d := .bl true) rv_bl) sa_nil))) sg_name)
    (ss_seq (ss_if (st_test (se_op s2_eq se_var (se_c (d := .str [66, 97, 100, 83, 105, 103, 110]) (rv_str (by decide +kernel))))) (ss_ret (se_tup (sa_cons se_var (sa_cons (se_xf (hT.f 3 _ rfl)) sa_nil)))) ss_next)
    (ss_ret (se_tup (sa_cons se_var (sa_cons (se_if (st_test (se_op s2_eq se_var (se_c (d := .str [66, 97, 100, 84, 101, 120, 116]) (rv_str (by decide +kernel))))) (se_xf (hT.f 5 _ rfl)) (se_c (d := .int 0) rv_int)) sa_nil)))))))))
  case r => exact told_run h hd
theorem bd__law_anystep (T : Tx w K mg) : Binds K T.d__law_anystep ["_law_box"] [] := FunD.bindsN T.F__law_anystep fun _ _ _ _ _ _ us hl => match us, hl with | [_], _ => rfl
theorem ok__law_anystep (T : Tx w K mg) : FnOk P w K mg base CX0 2 T.a__law_anystep T.d__law_anystep ["_law_box"] (spOf K (gx T) 1 F__law_anystep) := by
  refine T.F__law_anystep.ok (k := 1) sc__law_anystep sp_len (fun cdv A outer s H vs Q E hr h => ?_)
  refine' ⟨_, PSs.nox ?p, body_ok (N := N__law_anystep) (n := 1) (b := b__law_anystep) ?s (by decide) h⟩
  case p => exact (pss_cons (ps_setLc (i := 1) (own := [("_law_k", 2)]) (g := (gName 2)) rfl sc__law_anystep.nd rfl rfl (sw_true rfl rfl rfl (by decide +kernel)) (pi_range1 rfl T.n_range (pa_cons pe_int pa_nil)) (blkOk_by (own := [("_law_k", 2)]) (N := N__law_anystep) (sc := defScope s__law_anystep) (by decide +kernel)) (fun _ _ _ _ _ => (pg_name (i := 2) sc__law_anystep.nd rfl (Or.inl rfl))) (fun _ _ _ _ _ => pts_nil) (fun _ _ _ _ _ => (pe_ix (ixSeq K) (pe_lst (pa_cons (pe_call (ok__law_take T) (hr.mono (by decide)) rfl T.g__law_take T.F__law_take.kp (bd__law_take T) .nil pass0 (pa_cons (pv 0) (pa_cons pe_int pa_nil))) (pa_cons (pe_call (ok__law_take T) (hr.mono (by decide)) rfl T.g__law_take T.F__law_take.kp (bd__law_take T) .nil pass0 (pa_cons (pv 0) (pa_cons (pe_op op_pow pe_int pe_int) pa_nil))) pa_nil))) (pe_call (ok__law_take T) (hr.mono (by decide)) rfl T.g__law_take T.F__law_take.kp (bd__law_take T) .nil pass0 (pa_cons (pv 0) (pa_cons pe_int pa_nil))) (fun _ _ => rfl))))
    (pss_cons (ps_set (i := 3) sc__law_anystep.nd rfl (Or.inr rfl) pe_str)
    (pss_cons (ps_set (i := 4) sc__law_anystep.nd rfl (Or.inl rfl) (peJoin K pe_str (pe_lc (own := [("_law_k", 2)]) (g := (gName 2)) rfl sc__law_anystep.nd (pi_range1 rfl T.n_range (pa_cons (pe_call (ok__law_take T) (hr.mono (by decide)) rfl T.g__law_take T.F__law_take.kp (bd__law_take T) .nil pass0 (pa_cons (pv 0) (pa_cons (pe_ix (ixSeq K) (pe_lst (pa_cons pe_int (pa_cons pe_int (pa_cons pe_int pa_nil)))) (pe_call (ok__law_take T) (hr.mono (by decide)) rfl T.g__law_take T.F__law_take.kp (bd__law_take T) .nil pass0 (pa_cons (pv 0) (pa_cons pe_int pa_nil))) (fun _ _ => rfl)) pa_nil))) pa_nil)) (blkOk_by (own := [("_law_k", 2)]) (N := N__law_anystep) (sc := defScope s__law_anystep) (by decide +kernel)) (fun _ _ _ _ _ => (pg_name (i := 2) sc__law_anystep.nd rfl (Or.inl rfl))) (fun _ _ _ _ _ => pts_nil) (fun _ _ _ _ _ => (pe_ix (ixSeq K) (pv 3) (pe_call (ok__law_take T) (hr.mono (by decide)) rfl T.g__law_take T.F__law_take.kp (bd__law_take T) .nil pass0 (pa_cons (pv 0) (pa_cons pe_int pa_nil))) (fun _ _ => rfl))))))
    (pss_cons (ps_set (i := 5) sc__law_anystep.nd rfl (Or.inl rfl) (pe_lst (pa_cons (pe_op (opAdd K) (pe_tup (pa_cons pe_str pa_nil)) (pe_callTy (callTup K) rfl T.n_tuple (by decide +kernel) (pa_cons (pv 1) pa_nil))) (pa_cons (pe_tup (pa_cons pe_str (pa_cons (pe_ix (ixSeq K) (pv 1) pe_int (fun _ _ => rfl)) (pa_cons (pv 4) pa_nil)))) (pa_cons (pe_tup (pa_cons pe_str (pa_cons (pe_ix (ixSeq K) (pv 1) pe_int (fun _ _ => rfl)) (pa_cons (pv 4) pa_nil)))) pa_nil)))))
    (pss_cons (ps_expr (peBm K PySem.F.plainAttrs_list PySem.F.slot_list_append PySem.F.type_list_append mt_append (pv 5) (pa_cons (pe_tup (pa_cons pe_str (pa_cons (pe_ix (ixSeq K) (pv 1) pe_int (fun _ _ => rfl)) pa_nil))) pa_nil)))
    (pss_cons (ps_set (i := 5) sc__law_anystep.nd rfl (Or.inl rfl) (pe_op op_cat (pv 5) (pe_lst (pa_cons (pe_op (opAdd K) (pe_tup (pa_cons pe_str pa_nil)) (pe_callTy (callTup K) rfl T.n_tuple (by decide +kernel) (pa_cons (pe_slice (slList K) (pv 1) po_none (po_some pe_int)) pa_nil))) (pa_cons (pe_tup (pa_cons pe_str (pa_cons (pe_ix (ixSeq K) (pv 1) pe_int (fun _ _ => rfl)) pa_nil))) (pa_cons (pe_tup (pa_cons pe_str pa_nil)) (pa_cons (pe_tup (pa_cons pe_str pa_nil)) (pa_cons (pe_tup (pa_cons pe_str pa_nil)) pa_nil))))))))
    (pss_cons (ps_set (i := 5) sc__law_anystep.nd rfl (Or.inl rfl) (pe_op op_cat (pv 5) (pe_lst (pa_cons (pe_tup (pa_cons pe_str (pa_cons (pe_ix (ixSeq K) (pv 1) pe_int (fun _ _ => rfl)) pa_nil))) (pa_cons (pe_tup (pa_cons pe_str (pa_cons (pe_ix (ixSeq K) (pv 1) pe_int (fun _ _ => rfl)) pa_nil))) (pa_cons (pe_tup (pa_cons pe_str (pa_cons (pe_ix (ixSeq K) (pv 1) pe_int (fun _ _ => rfl)) pa_nil))) (pa_cons (pe_tup (pa_cons pe_str (pa_cons (pe_ix (ixSeq K) (pv 1) pe_int (fun _ _ => rfl)) (pa_cons (pe_ix (ixSeq K) (pv 1) pe_int (fun _ _ => rfl)) pa_nil)))) pa_nil)))))))
    (pss_one (ps_ret (pe_ix (ixSeq K) (pv 5) (pe_call (ok__law_take T) (hr.mono (by decide)) rfl T.g__law_take T.F__law_take.kp (bd__law_take T) .nil pass0 (pa_cons (pv 0) (pa_cons pe_int pa_nil))) (fun _ _ => rfl)))))))))))
  case s => exact (ss_seq (ss_asg (se_of (sf_lc (vs := [2]) (si_r1 (sa_cons (se_c (d := .int 4) rv_int) sa_nil)) (sp_name (by decide)) st_yes (se_op s2_ix (se_of (sf_lst (sa_cons (se_call runB_len (sa_cons se_var (sa_cons (se_c (d := .int 10) rv_int) sa_nil))) (sa_cons (se_call runB_len (sa_cons se_var (sa_cons (se_op s2_pow (se_c (d := .int 10) rv_int) (se_c (d := .int 6) rv_int)) sa_nil))) sa_nil)))) (se_call runB_len (sa_cons se_var (sa_cons (se_c (d := .int 2) rv_int) sa_nil)))))) sg_name)
    (ss_seq (ss_asg (se_c (d := .str [97, 98, 99, 100, 101, 102, 103, 104, 105, 106, 107, 108, 109, 110, 111, 112, 113, 114, 115, 116, 117, 118, 119, 120, 121, 122, 48, 49, 50, 51, 52, 53, 54, 55, 56, 57, 32, 60, 59]) (rv_str (by decide +kernel))) sg_name)
    (ss_seq (ss_asg (se_tm1 sm_joinR (se_c (d := .str []) (rv_str (by decide +kernel))) (se_of (sf_lc (vs := [2]) (si_r1 (sa_cons (se_call runB_len (sa_cons se_var (sa_cons (se_op s2_ix (se_of (sf_lst (sa_cons (se_c (d := .int 2) rv_int) (sa_cons (se_c (d := .int 9) rv_int) (sa_cons (se_c (d := .int 30) rv_int) sa_nil))))) (se_call runB_len (sa_cons se_var (sa_cons (se_c (d := .int 3) rv_int) sa_nil)))) sa_nil))) sa_nil)) (sp_name (by decide)) st_yes (se_op s2_ix se_var (se_call runB_len (sa_cons se_var (sa_cons (se_c (d := .int 39) rv_int) sa_nil))))))) sg_name)
    (ss_seq (ss_acc (sf_lst (sa_cons (se_op s2_add (se_tup (sa_cons (se_c (d := .str [99, 111, 109, 101]) (rv_str (by decide +kernel))) sa_nil)) (se_n sn_tupOf (sa_cons se_var sa_nil))) (sa_cons (se_tup (sa_cons (se_c (d := .str [112, 114, 101, 115, 115]) (rv_str (by decide +kernel))) (sa_cons (se_op s2_ix se_var (se_c (d := .int 0) rv_int)) (sa_cons se_var sa_nil)))) (sa_cons (se_tup (sa_cons (se_c (d := .str [112, 114, 101, 115, 115]) (rv_str (by decide +kernel))) (sa_cons (se_op s2_ix se_var (se_c (d := .int 1) rv_int)) (sa_cons se_var sa_nil)))) sa_nil)))))
    (ss_seq (ss_app (se_tup (sa_cons (se_c (d := .str [108, 101, 97, 118, 101]) (rv_str (by decide +kernel))) (sa_cons (se_op s2_ix se_var (se_c (d := .int 0) rv_int)) sa_nil))))
    (ss_seq (ss_frz (ss_acc (sf_op s2f_cat se_var (se_of (sf_lst (sa_cons (se_op s2_add (se_tup (sa_cons (se_c (d := .str [115, 105, 122, 101]) (rv_str (by decide +kernel))) sa_nil)) (se_n sn_tupOf (sa_cons (se_of (sf_sl s3f_sl se_var so_none (so_some (se_c (d := .int 3) rv_int)))) sa_nil))) (sa_cons (se_tup (sa_cons (se_c (d := .str [103, 111, 110, 101]) (rv_str (by decide +kernel))) (sa_cons (se_op s2_ix se_var (se_c (d := .int 0) rv_int)) sa_nil))) (sa_cons (se_tup (sa_cons (se_c (d := .str [98, 101, 97, 116]) (rv_str (by decide +kernel))) sa_nil)) (sa_cons (se_tup (sa_cons (se_c (d := .str [115, 101, 110, 100]) (rv_str (by decide +kernel))) sa_nil)) (sa_cons (se_tup (sa_cons (se_c (d := .str [115, 101, 116, 116, 108, 101]) (rv_str (by decide +kernel))) sa_nil)) sa_nil))))))))))
    (ss_seq (ss_frz (ss_acc (sf_op s2f_cat se_var (se_of (sf_lst (sa_cons (se_tup (sa_cons (se_c (d := .str [99, 97, 114, 114, 121]) (rv_str (by decide +kernel))) (sa_cons (se_op s2_ix se_var (se_c (d := .int 0) rv_int)) sa_nil))) (sa_cons (se_tup (sa_cons (se_c (d := .str [108, 111, 115, 101]) (rv_str (by decide +kernel))) (sa_cons (se_op s2_ix se_var (se_c (d := .int 0) rv_int)) sa_nil))) (sa_cons (se_tup (sa_cons (se_c (d := .str [116, 119, 105, 99, 101]) (rv_str (by decide +kernel))) (sa_cons (se_op s2_ix se_var (se_c (d := .int 1) rv_int)) sa_nil))) (sa_cons (se_tup (sa_cons (se_c (d := .str [99, 117, 116]) (rv_str (by decide +kernel))) (sa_cons (se_op s2_ix se_var (se_c (d := .int 0) rv_int)) (sa_cons (se_op s2_ix se_var (se_c (d := .int 1) rv_int)) sa_nil)))) sa_nil)))))))))
    (ss_frz (ss_ret (se_op s2_ix se_var (se_call runB_len (sa_cons se_var (sa_cons (se_c (d := .int 13) rv_int) sa_nil)))))))))))))
theorem bd__law_rows (T : Tx w K mg) : Binds K T.d__law_rows ["_law_steps"] [] := FunD.bindsN T.F__law_rows fun _ _ _ _ _ _ us hl => match us, hl with | [_], _ => rfl
theorem ok__law_rows (T : Tx w K mg) : FnOk P w K mg base CX0 1 T.a__law_rows T.d__law_rows ["_law_steps"] (spOf K (gx T) 1 F__law_rows) := by
  refine T.F__law_rows.ok (k := 0) sc__law_rows sp_len (fun cdv A outer s H vs Q E hr h => ?_)
  refine' ⟨_, PSs.nox ?p, body_ok (N := N__law_rows) (n := 1) (b := b__law_rows) ?s (by decide) h⟩
  case p => exact (pss_cons (ps_set (i := 1) sc__law_rows.nd rfl (Or.inl rfl) (pe_lst pa_nil))
    (pss_cons (ps_for PassesOwn.never rfl (piList K (pv 0)) (pg_name (i := 2) sc__law_rows.nd rfl (Or.inl rfl)) (pss_cons (ps_set (i := 3) sc__law_rows.nd rfl (Or.inl rfl) (pe_ix (ixSeq K) (pv 2) pe_int (fun _ _ => rfl)))
    (pss_cons (ps_for PassesOwn.never rfl (piTup K (pe_slice (slAny K) (pv 2) (po_some pe_int) po_none)) (pg_name (i := 4) sc__law_rows.nd rfl (Or.inl rfl)) (pss_one (ps_set (i := 3) sc__law_rows.nd rfl (Or.inl rfl) (pe_op (opAdd K) (pe_op (opAdd K) (pv 3) pe_str) (pe_ifExp (pt_val (pe_callB (callIsi K) rfl T.n_isinstance (by decide +kernel) (pa_cons (pv 4) (pa_cons (pe_bltn (v := .ty "str") rfl T.n_str (by decide +kernel) rfl) pa_nil)))) (pv 4) (pe_callTy call_strAny rfl T.n_str (by decide +kernel) (pa_cons (pv 4) pa_nil)))))))
    (pss_one (ps_expr (peBm K PySem.F.plainAttrs_list PySem.F.slot_list_append PySem.F.type_list_append mt_append (pv 1) (pa_cons (pv 3) pa_nil)))))))
    (pss_one (ps_ret (peJoin K pe_str (pv 1))))))
  case s => exact (ss_seq (ss_acc (sf_lst sa_nil))
    (ss_seq (ss_for (si_list se_var) sg_name (ss_seq (ss_asg (se_op s2_ix se_var (se_c (d := .int 0) rv_int)) sg_name)
    (ss_seq (ss_for (si_tup (se_sl s3_sl se_var (so_some (se_c (d := .int 1) rv_int)) so_none)) sg_name (ss_asg (se_op s2_add (se_op s2_add se_var (se_c (d := .str [32]) (rv_str (by decide +kernel)))) (se_if (st_B (se_n sn_isT (sa_cons se_var (sa_cons (se_c rv_raw) sa_nil)))) se_var (se_n sn_str (sa_cons se_var sa_nil)))) sg_name))
    (ss_app se_var))))
    (ss_frz (ss_ret (se_tm1 sm_joinR (se_c (d := .str [10]) (rv_str (by decide +kernel))) se_var)))))
theorem bd__law_number (T : Tx w K mg) : Binds K T.d__law_number ["_law_word"] [] := FunD.bindsN T.F__law_number fun _ _ _ _ _ _ us hl => match us, hl with | [_], _ => rfl
theorem ok__law_number (T : Tx w K mg) : FnOk P w K mg base CX0 1 T.a__law_number T.d__law_number ["_law_word"] (spOf K (gx T) 1 F__law_number) := by
  refine T.F__law_number.ok (k := 0) sc__law_number sp_len (fun cdv A outer s H vs Q E hr h => ?_)
  refine' ⟨_, PSs.nox ?p, body_ok (N := N__law_number) (n := 1) (b := b__law_number) ?s (by decide) h⟩
  case p => exact (pss_cons (ps_if (PW.pt (pw_or (pt_not (pt_chain op_le op_le pe_int (pe_callB (callLen K) rfl T.n_len (by decide +kernel) (pa_cons (pv 0) pa_nil)) pe_int)) (pw_or1 (pt_cmpR (opNe K hr.units) (pe_lc (own := [("_law_sign", 1)]) (g := (gName 1)) rfl sc__law_number.nd (pi_str (pv 0)) (blkOk_by (own := [("_law_sign", 1)]) (N := N__law_number) (sc := defScope s__law_number) (by decide +kernel)) (fun _ _ _ _ _ => (pg_name (i := 1) sc__law_number.nd rfl (Or.inl rfl))) (fun _ _ _ _ _ => (pts_one (pt_cmpR op_notIn_sign (pv 1) pe_str (by rfl)))) (fun _ _ _ _ _ => (pv 1))) (pe_lst pa_nil) (nomark _))))) (pss_one (ps_ret pe_non)) pss_nil)
    (pss_one (ps_ret (pe_ifExp (pt_cmpR (opEq K hr.units) (pe_callTy call_strAny rfl T.n_str (by decide +kernel) (pa_cons (pe_callTy call_int_str rfl T.n_int (by decide +kernel) (pa_cons (pv 0) pa_nil)) pa_nil)) (pv 0) (nomark _)) (pe_callTy call_int_str rfl T.n_int (by decide +kernel) (pa_cons (pv 0) pa_nil)) pe_non))))
  case s => exact (ss_seq (ss_if (st_or (st_not (st_test (se_chain s2_cmp s2_cmp (se_c (d := .int 1) rv_int) (se_n sn_len (sa_cons se_var sa_nil)) (se_c (d := .int 6) rv_int)))) (st_test (se_op s2_ne (se_of (sf_lc (vs := [1]) (si_str se_var) (sp_name (by decide)) (st_test (se_op s2_notInS se_var (se_c (d := .str [48, 49, 50, 51, 52, 53, 54, 55, 56, 57]) (rv_str (by decide +kernel))))) se_var)) (se_of (sf_lst sa_nil))))) (ss_ret (se_c (v := .non) (d := .non) rv_non)) ss_next)
    (ss_ret (se_if (st_test (se_op s2_eq (se_n sn_str (sa_cons (se_n sn_intS (sa_cons se_var sa_nil)) sa_nil)) se_var)) (se_n sn_intS (sa_cons se_var sa_nil)) (se_c (v := .non) (d := .non) rv_non))))
theorem bd__law_step (T : Tx w K mg) : Binds K T.d__law_step ["_law_row"] [] := FunD.bindsN T.F__law_step fun _ _ _ _ _ _ us hl => match us, hl with | [_], _ => rfl
theorem ok__law_step (T : Tx w K mg) : FnOk P w K mg base CX0 2 T.a__law_step T.d__law_step ["_law_row"] (spOf K (gx T) 1 F__law_step) := by
  refine T.F__law_step.ok (k := 1) sc__law_step sp_len (fun cdv A outer s H vs Q E hr h => ?_)
  refine' ⟨_, PSs.nox ?p, body_ok (N := N__law_step) (n := 1) (b := b__law_step) ?s (by decide) h⟩
  case p => exact (pss_cons (ps_set (i := 1) sc__law_step.nd rfl (Or.inl rfl) (pe_disp (pps_cons pe_str pe_int (pps_cons pe_str pe_int (pps_cons pe_str pe_int (pps_cons pe_str pe_int (pps_cons pe_str pe_int (pps_cons pe_str pe_int (pps_cons pe_str pe_int (pps_cons pe_str pe_int pps_nil)))))))) rfl rfl (by simp) (by decide)))
    (pss_cons (ps_expr (peUpd K (pv 1) (pa_cons (pe_disp (pps_cons pe_str pe_int (pps_cons pe_str pe_int (pps_cons pe_str pe_int (pps_cons pe_str pe_int pps_nil)))) rfl rfl (by simp) (by decide)) pa_nil)))
    (pss_cons (ps_set (i := 2) sc__law_step.nd rfl (Or.inl rfl) (pe_split (pv 0) pe_str))
    (pss_cons (ps_set (i := 3) sc__law_step.nd rfl (Or.inl rfl) (pe_dget2 (hu_of hr) (pv 1) (pe_ix (ixSeq K) (pv 2) pe_int (fun _ _ => rfl)) pe_int ⟨rfl, rfl, rfl, rfl⟩))
    (pss_cons (ps_set (i := 4) sc__law_step.nd rfl (Or.inl rfl) (pe_callTy (callTup K) rfl T.n_tuple (by decide +kernel) (pa_cons (pe_lc (own := [("_law_word", 5)]) (g := (gName 5)) rfl sc__law_step.nd (piList K (pe_slice (slList K) (pv 2) (po_some pe_int) (po_some (pe_op (opAdd K) (pv 3) pe_int)))) (blkOk_by (own := [("_law_word", 5)]) (N := N__law_step) (sc := defScope s__law_step) (by decide +kernel)) (fun _ _ _ _ _ => (pg_name (i := 5) sc__law_step.nd rfl (Or.inl rfl))) (fun _ _ _ _ _ => pts_nil) (fun _ _ _ _ _ => (pe_call (ok__law_number T) (hr.mono (by decide)) rfl T.g__law_number T.F__law_number.kp (bd__law_number T) .nil pass0 (pa_cons (pv 5) pa_nil)))) pa_nil)))
    (pss_cons (ps_if (PW.pt (pw_or (pt_cmpR (opNe K hr.units) (pe_callB (callLen K) rfl T.n_len (by decide +kernel) (pa_cons (pv 4) pa_nil)) (pv 3) (nomark _)) (pw_or1 (pt_cmpR (opIn K) pe_non (pv 4) (by rfl))))) (pss_one (ps_ret pe_non)) pss_nil)
    (pss_cons (ps_if (pt_cmpR (opNe K hr.units) (pe_ix (ixSeq K) (pv 2) pe_int (fun _ _ => rfl)) pe_str (nomark _)) (pss_one (ps_ret (pe_ifExp (pt_cmpR (opEq K hr.units) (pe_callB (callLen K) rfl T.n_len (by decide +kernel) (pa_cons (pv 2) pa_nil)) (pe_op (opAdd K) (pv 3) pe_int) (nomark _)) (pe_op (opAdd K) (pe_tup (pa_cons (pe_ix (ixSeq K) (pv 2) pe_int (fun _ _ => rfl)) pa_nil)) (pv 4)) pe_non))) pss_nil)
    (pss_cons (ps_set (i := 6) sc__law_step.nd rfl (Or.inl rfl) (pe_slice (slAny K) (pv 0) (po_some (pe_op (opAdd K) (pe_op (opAdd K) (pe_callB (callLen K) rfl T.n_len (by decide +kernel) (pa_cons (pe_ix (ixSeq K) (pv 2) pe_int (fun _ _ => rfl)) pa_nil)) (pe_callB (callLen K) rfl T.n_len (by decide +kernel) (pa_cons (pe_ix (ixSeq K) (pv 2) pe_int (fun _ _ => rfl)) pa_nil))) pe_int)) po_none))
    (pss_cons (ps_set (i := 7) sc__law_step.nd rfl (Or.inr rfl) pe_str)
    (pss_cons (ps_if (PW.pt (pw_or (pt_cmpR op_lt (pe_callB (callLen K) rfl T.n_len (by decide +kernel) (pa_cons (pv 2) pa_nil)) pe_int (nomark _)) (pw_or1 (pt_cmpR (opNe K hr.units) (pe_lc (own := [("_law_sign", 8)]) (g := (gName 8)) rfl sc__law_step.nd (pi_str (pv 6)) (blkOk_by (own := [("_law_sign", 8)]) (N := N__law_step) (sc := defScope s__law_step) (by decide +kernel)) (fun _ _ _ _ _ => (pg_name (i := 8) sc__law_step.nd rfl (Or.inl rfl))) (fun _ _ _ _ _ => (pts_one (pt_cmpR op_notIn_sign (pv 8) (pv 7) (by rfl)))) (fun _ _ _ _ _ => (pv 8))) (pe_lst pa_nil) (nomark _))))) (pss_one (ps_ret pe_non)) pss_nil)
    (pss_one (ps_ret (pe_tup (pa_cons pe_str (pa_cons (pe_ix (ixSeq K) (pv 4) pe_int (fun _ _ => rfl)) (pa_cons (pv 6) pa_nil))))))))))))))))
  case s => exact (ss_seq (ss_asg (se_disp (by decide) (spr_cons (dk := (.s [99, 111, 109, 101])) (congrArg V.str (by decide +kernel)) (se_c (d := .int 4) rv_int) (spr_cons (dk := (.s [112, 114, 101, 115, 115])) (congrArg V.str (by decide +kernel)) (se_c (d := .int 1) rv_int) (spr_cons (dk := (.s [115, 105, 122, 101])) (congrArg V.str (by decide +kernel)) (se_c (d := .int 3) rv_int) (spr_cons (dk := (.s [108, 101, 97, 118, 101])) (congrArg V.str (by decide +kernel)) (se_c (d := .int 1) rv_int) (spr_cons (dk := (.s [103, 111, 110, 101])) (congrArg V.str (by decide +kernel)) (se_c (d := .int 1) rv_int) (spr_cons (dk := (.s [98, 101, 97, 116])) (congrArg V.str (by decide +kernel)) (se_c (d := .int 0) rv_int) (spr_cons (dk := (.s [115, 101, 110, 100])) (congrArg V.str (by decide +kernel)) (se_c (d := .int 0) rv_int) (spr_cons (dk := (.s [115, 101, 116, 116, 108, 101])) (congrArg V.str (by decide +kernel)) (se_c (d := .int 0) rv_int) spr_nil))))))))) sg_name)
    (ss_seq (ss_do (se_dm sm_upd se_var (sa_cons (se_disp (by decide) (spr_cons (dk := (.s [99, 97, 114, 114, 121])) (congrArg V.str (by decide +kernel)) (se_c (d := .int 1) rv_int) (spr_cons (dk := (.s [108, 111, 115, 101])) (congrArg V.str (by decide +kernel)) (se_c (d := .int 1) rv_int) (spr_cons (dk := (.s [116, 119, 105, 99, 101])) (congrArg V.str (by decide +kernel)) (se_c (d := .int 1) rv_int) (spr_cons (dk := (.s [99, 117, 116])) (congrArg V.str (by decide +kernel)) (se_c (d := .int 2) rv_int) spr_nil))))) sa_nil)))
    (ss_seq (ss_asg (se_of (sf_tm1 smf_split se_var (se_c (d := .str [32]) (rv_str (by decide +kernel))))) sg_name)
    (ss_seq (ss_asg (se_dget2 se_var (se_op s2_ix se_var (se_c (d := .int 0) rv_int)) (se_c (d := .int 99) rv_int)) sg_name)
    (ss_seq (ss_asg (se_n sn_tupOf (sa_cons (se_of (sf_lc (vs := [5]) (si_listF (sf_sl s3f_sl se_var (so_some (se_c (d := .int 1) rv_int)) (so_some (se_op s2_add se_var (se_c (d := .int 1) rv_int))))) (sp_name (by decide)) st_yes (se_call runB_len (sa_cons se_var sa_nil)))) sa_nil)) sg_name)
    (ss_seq (ss_if (st_or (st_test (se_op s2_ne (se_n sn_len (sa_cons se_var sa_nil)) se_var)) (st_test (se_op s2_in (se_c (v := .non) (d := .non) rv_non) se_var))) (ss_ret (se_c (v := .non) (d := .non) rv_non)) ss_next)
    (ss_seq (ss_if (st_test (se_op s2_ne (se_op s2_ix se_var (se_c (d := .int 0) rv_int)) (se_c (d := .str [112, 114, 101, 115, 115]) (rv_str (by decide +kernel))))) (ss_ret (se_if (st_test (se_op s2_eq (se_n sn_len (sa_cons se_var sa_nil)) (se_op s2_add se_var (se_c (d := .int 1) rv_int)))) (se_op s2_add (se_tup (sa_cons (se_op s2_ix se_var (se_c (d := .int 0) rv_int)) sa_nil)) se_var) (se_c (v := .non) (d := .non) rv_non))) ss_next)
    (ss_seq (ss_asg (se_sl s3_sl se_var (so_some (se_op s2_add (se_op s2_add (se_n sn_len (sa_cons (se_op s2_ix se_var (se_c (d := .int 0) rv_int)) sa_nil)) (se_n sn_len (sa_cons (se_op s2_ix se_var (se_c (d := .int 1) rv_int)) sa_nil))) (se_c (d := .int 2) rv_int))) so_none) sg_name)
    (ss_seq (ss_asg (se_c (d := .str [97, 98, 99, 100, 101, 102, 103, 104, 105, 106, 107, 108, 109, 110, 111, 112, 113, 114, 115, 116, 117, 118, 119, 120, 121, 122, 48, 49, 50, 51, 52, 53, 54, 55, 56, 57, 32, 60, 59]) (rv_str (by decide +kernel))) sg_name)
    (ss_seq (ss_if (st_or (st_test (se_op s2_cmp (se_n sn_len (sa_cons se_var sa_nil)) (se_c (d := .int 3) rv_int))) (st_test (se_op s2_ne (se_of (sf_lc (vs := [8]) (si_str se_var) (sp_name (by decide)) (st_test (se_op s2_notInS se_var se_var)) se_var)) (se_of (sf_lst sa_nil))))) (ss_ret (se_c (v := .non) (d := .non) rv_non)) ss_next)
    (ss_ret (se_tup (sa_cons (se_c (d := .str [112, 114, 101, 115, 115]) (rv_str (by decide +kernel))) (sa_cons (se_op s2_ix se_var (se_c (d := .int 0) rv_int)) (sa_cons se_var sa_nil)))))))))))))))
theorem bd__law_spoilt (T : Tx w K mg) : Binds K T.d__law_spoilt ["_law_box", "_law_text"] [] := FunD.bindsN T.F__law_spoilt fun _ _ _ _ _ _ us hl => match us, hl with | [_, _], _ => rfl
theorem ok__law_spoilt (T : Tx w K mg) : FnOk P w K mg base CX0 2 T.a__law_spoilt T.d__law_spoilt ["_law_box", "_law_text"] (spOf K (gx T) 2 F__law_spoilt) := by
  refine T.F__law_spoilt.ok (k := 1) sc__law_spoilt sp_len (fun cdv A outer s H vs Q E hr h => ?_)
  refine' ⟨_, PSs.nox ?p, body_ok (N := N__law_spoilt) (n := 2) (b := b__law_spoilt) ?s (by decide) h⟩
  case p => exact (pss_cons (ps_par (i := 2) (j := 3) rfl sc__law_spoilt.nd rfl rfl (by decide) rfl rfl (pa_cons (pe_call (ok__law_take T) (hr.mono (by decide)) rfl T.g__law_take T.F__law_take.kp (bd__law_take T) .nil pass0 (pa_cons (pv 0) (pa_cons pe_int pa_nil))) (pa_cons (pe_call (ok__law_take T) (hr.mono (by decide)) rfl T.g__law_take T.F__law_take.kp (bd__law_take T) .nil pass0 (pa_cons (pv 0) (pa_cons (pe_op (opAdd K) (pe_callB (callLen K) rfl T.n_len (by decide +kernel) (pa_cons (pv 1) pa_nil)) pe_int) pa_nil))) pa_nil)) rfl)
    (pss_cons (ps_set (i := 4) sc__law_spoilt.nd rfl (Or.inl rfl) pe_str)
    (pss_cons (ps_set (i := 5) sc__law_spoilt.nd rfl (Or.inl rfl) (pe_ix (ixSeq K) (pv 4) (pe_call (ok__law_take T) (hr.mono (by decide)) rfl T.g__law_take T.F__law_take.kp (bd__law_take T) .nil pass0 (pa_cons (pv 0) (pa_cons (pe_ix (ixSeq K) (pe_lst (pa_cons pe_int (pa_cons pe_int pa_nil))) (pe_call (ok__law_take T) (hr.mono (by decide)) rfl T.g__law_take T.F__law_take.kp (bd__law_take T) .nil pass0 (pa_cons (pv 0) (pa_cons pe_int pa_nil))) (fun _ _ => rfl)) pa_nil))) (fun _ _ => rfl)))
    (pss_cons (ps_if (pt_cmpR (opEq K hr.units) (pv 2) pe_int (nomark _)) (pss_one (ps_set (i := 5) sc__law_spoilt.nd rfl (Or.inl rfl) pe_str)) pss_nil)
    (pss_cons (ps_if (pt_cmpR op_lt (pv 2) pe_int (nomark _)) (pss_one (ps_ret (pe_op (opAdd K) (pe_op (opAdd K) (pe_slice (slAny K) (pv 1) po_none (po_some (pv 3))) (pv 5)) (pe_slice (slAny K) (pv 1) (po_some (pe_op (opAdd K) (pv 3) (pe_callTy call_int1 rfl T.n_int (by decide +kernel) (pa_cons (pe_cmpR op_gt (pv 2) pe_int (nomark _)) pa_nil)))) po_none)))) pss_nil)
    (pss_cons (ps_if (pt_cmpR (opEq K hr.units) (pv 2) pe_int (nomark _)) (pss_cons (ps_set (i := 6) sc__law_spoilt.nd rfl (Or.inl rfl) (pe_revS (pe_slice (slAny K) (pv 1) (po_some (pv 3)) (po_some (pe_op (opAdd K) (pv 3) pe_int)))))
    (pss_one (ps_ret (pe_op (opAdd K) (pe_op (opAdd K) (pe_slice (slAny K) (pv 1) po_none (po_some (pv 3))) (pv 6)) (pe_slice (slAny K) (pv 1) (po_some (pe_op (opAdd K) (pv 3) pe_int)) po_none))))) pss_nil)
    (pss_cons (ps_set (i := 7) sc__law_spoilt.nd rfl (Or.inl rfl) (pe_split (pv 1) pe_str))
    (pss_cons (ps_set (i := 8) sc__law_spoilt.nd rfl (Or.inl rfl) (pe_call (ok__law_take T) (hr.mono (by decide)) rfl T.g__law_take T.F__law_take.kp (bd__law_take T) .nil pass0 (pa_cons (pv 0) (pa_cons (pe_callB (callLen K) rfl T.n_len (by decide +kernel) (pa_cons (pv 7) pa_nil)) pa_nil))))
    (pss_cons (ps_if (pt_cmpR op_lt (pv 2) pe_int (nomark _)) (pss_one (ps_ret (peJoin K pe_str (pe_op op_cat (pe_op op_cat (pe_slice (slList K) (pv 7) po_none (po_some (pv 8))) (pe_op op_rep (pe_slice (slList K) (pv 7) (po_some (pv 8)) (po_some (pe_op (opAdd K) (pv 8) pe_int))) (pe_ix (ixSeq K) (pe_lst (pa_cons pe_int (pa_cons pe_int pa_nil))) (pe_op op_sub (pv 2) pe_int) (fun _ _ => rfl)))) (pe_slice (slList K) (pv 7) (po_some (pe_op (opAdd K) (pv 8) pe_int)) po_none))))) pss_nil)
    (pss_cons (ps_set (i := 9) sc__law_spoilt.nd rfl (Or.inl rfl) (pe_split (pe_ix (ixSeq K) (pv 7) (pv 8) (fun _ _ => rfl)) pe_str))
    (pss_cons (ps_set (i := 10) sc__law_spoilt.nd rfl (Or.inl rfl) (pe_call (ok__law_take T) (hr.mono (by decide)) rfl T.g__law_take T.F__law_take.kp (bd__law_take T) .nil pass0 (pa_cons (pv 0) (pa_cons (pe_callB (callLen K) rfl T.n_len (by decide +kernel) (pa_cons (pv 9) pa_nil)) pa_nil))))
    (pss_cons (ps_set (i := 11) sc__law_spoilt.nd rfl (Or.inl rfl) (pe_lst (pa_cons pe_str (pa_cons pe_str (pa_cons pe_str (pa_cons pe_str (pa_cons pe_str (pa_cons pe_str (pa_cons pe_str (pa_cons pe_str (pa_cons pe_str (pa_cons pe_str (pa_cons pe_str (pa_cons pe_str pa_nil))))))))))))))
    (pss_cons (ps_set (i := 11) sc__law_spoilt.nd rfl (Or.inl rfl) (pe_op op_cat (pv 11) (pe_lst (pa_cons pe_str (pa_cons pe_str (pa_cons pe_str pa_nil))))))
    (pss_cons (ps_set (i := 9) sc__law_spoilt.nd rfl (Or.inl rfl) (pe_op op_cat (pe_op op_cat (pe_slice (slList K) (pv 9) po_none (po_some (pv 10))) (pe_ix (ixSeq K) (pe_lst (pa_cons (pe_lst pa_nil) (pa_cons (pe_op op_rep (pe_lst (pa_cons (pe_ix (ixSeq K) (pv 9) (pv 10) (fun _ _ => rfl)) pa_nil)) pe_int) (pa_cons (pe_lst (pa_cons (pe_ix (ixSeq K) (pv 11) (pe_call (ok__law_take T) (hr.mono (by decide)) rfl T.g__law_take T.F__law_take.kp (bd__law_take T) .nil pass0 (pa_cons (pv 0) (pa_cons pe_int pa_nil))) (fun _ _ => rfl)) pa_nil)) pa_nil)))) (pe_op op_sub (pv 2) pe_int) (fun _ _ => rfl))) (pe_slice (slList K) (pv 9) (po_some (pe_op (opAdd K) (pv 10) pe_int)) po_none)))
    (pss_one (ps_ret (peJoin K pe_str (pe_op op_cat (pe_op op_cat (pe_slice (slList K) (pv 7) po_none (po_some (pv 8))) (pe_lst (pa_cons (peJoin K pe_str (pv 9)) pa_nil))) (pe_slice (slList K) (pv 7) (po_some (pe_op (opAdd K) (pv 8) pe_int)) po_none)))))))))))))))))))
  case s => exact (ss_seq (ss_par (by decide) (se_call runB_len (sa_cons se_var (sa_cons (se_c (d := .int 9) rv_int) sa_nil))) (se_call runB_len (sa_cons se_var (sa_cons (se_op s2_add (se_n sn_len (sa_cons se_var sa_nil)) (se_c (d := .int 1) rv_int)) sa_nil))))
    (ss_seq (ss_asg (se_c (d := .str [48, 49, 50, 51, 52, 53, 54, 55, 56, 57, 32, 10, 97, 98, 99, 100, 101, 102, 103, 104, 105, 106, 107, 108, 109, 110, 111, 112, 113, 114, 115, 116, 117, 118, 119, 120, 121, 122, 60, 59, 33, 35, 36, 38, 39, 40, 41, 42, 43, 44, 45, 46, 47, 58, 61, 62, 63, 64, 65, 66, 67, 68, 69, 70, 71, 72, 73, 74, 75, 76, 77, 78, 79, 80, 81, 82, 83, 84, 85, 86, 87, 88, 89, 90, 91, 93, 94, 95, 123, 124, 125, 126]) (rv_str (by decide +kernel))) sg_name)
    (ss_seq (ss_asg (se_op s2_ix se_var (se_call runB_len (sa_cons se_var (sa_cons (se_op s2_ix (se_of (sf_lst (sa_cons (se_c (d := .int 14) rv_int) (sa_cons (se_c (d := .int 92) rv_int) sa_nil)))) (se_call runB_len (sa_cons se_var (sa_cons (se_c (d := .int 2) rv_int) sa_nil)))) sa_nil)))) sg_name)
    (ss_seq (ss_if (st_test (se_op s2_eq se_var (se_c (d := .int 1) rv_int))) (ss_asg (se_c (d := .str []) (rv_str (by decide +kernel))) sg_name) ss_next)
    (ss_seq (ss_if (st_test (se_op s2_cmp se_var (se_c (d := .int 3) rv_int))) (ss_ret (se_op s2_add (se_op s2_add (se_sl s3_sl se_var so_none (so_some se_var)) se_var) (se_sl s3_sl se_var (so_some (se_op s2_add se_var (se_n sn_int (sa_cons (se_op s2_cmp se_var (se_c (d := .int 0) rv_int)) sa_nil)))) so_none))) ss_next)
    (ss_seq (ss_if (st_test (se_op s2_eq se_var (se_c (d := .int 3) rv_int))) (ss_seq (ss_asg (se_revS (se_sl s3_sl se_var (so_some se_var) (so_some (se_op s2_add se_var (se_c (d := .int 2) rv_int))))) sg_name)
    (ss_ret (se_op s2_add (se_op s2_add (se_sl s3_sl se_var so_none (so_some se_var)) se_var) (se_sl s3_sl se_var (so_some (se_op s2_add se_var (se_c (d := .int 2) rv_int))) so_none)))) ss_next)
    (ss_seq (ss_asg (se_of (sf_tm1 smf_split se_var (se_c (d := .str [10]) (rv_str (by decide +kernel))))) sg_name)
    (ss_seq (ss_asg (se_call runB_len (sa_cons se_var (sa_cons (se_n sn_len (sa_cons se_var sa_nil)) sa_nil))) sg_name)
    (ss_seq (ss_if (st_test (se_op s2_cmp se_var (se_c (d := .int 6) rv_int))) (ss_ret (se_tm1 sm_joinR (se_c (d := .str [10]) (rv_str (by decide +kernel))) (se_of (sf_op s2f_cat (se_of (sf_op s2f_cat (se_of (sf_sl s3f_sl se_var so_none (so_some se_var))) (se_of (sf_op s2f_rep (se_of (sf_sl s3f_sl se_var (so_some se_var) (so_some (se_op s2_add se_var (se_c (d := .int 1) rv_int))))) (se_op s2_ix (se_of (sf_lst (sa_cons (se_c (d := .int 0) rv_int) (sa_cons (se_c (d := .int 2) rv_int) sa_nil)))) (se_op s2_sub se_var (se_c (d := .int 4) rv_int))))))) (se_of (sf_sl s3f_sl se_var (so_some (se_op s2_add se_var (se_c (d := .int 1) rv_int))) so_none)))))) ss_next)
    (ss_seq (ss_asg (se_of (sf_tm1 smf_split (se_op s2_ix se_var se_var) (se_c (d := .str [32]) (rv_str (by decide +kernel))))) sg_name)
    (ss_seq (ss_asg (se_call runB_len (sa_cons se_var (sa_cons (se_n sn_len (sa_cons se_var sa_nil)) sa_nil))) sg_name)
    (ss_seq (ss_asg (se_of (sf_lst (sa_cons (se_c (d := .str []) (rv_str (by decide +kernel))) (sa_cons (se_c (d := .str [48]) (rv_str (by decide +kernel))) (sa_cons (se_c (d := .str [48, 48]) (rv_str (by decide +kernel))) (sa_cons (se_c (d := .str [48, 55]) (rv_str (by decide +kernel))) (sa_cons (se_c (d := .str [57, 57, 57, 57, 57, 57]) (rv_str (by decide +kernel))) (sa_cons (se_c (d := .str [49, 48, 48, 48, 48, 48, 48]) (rv_str (by decide +kernel))) (sa_cons (se_c (d := .str [45, 49]) (rv_str (by decide +kernel))) (sa_cons (se_c (d := .str [99, 111, 109, 101]) (rv_str (by decide +kernel))) (sa_cons (se_c (d := .str [112, 114, 101, 115, 115]) (rv_str (by decide +kernel))) (sa_cons (se_c (d := .str [115, 101, 116, 116, 108, 101]) (rv_str (by decide +kernel))) (sa_cons (se_c (d := .str [83, 101, 110, 100]) (rv_str (by decide +kernel))) (sa_cons (se_c (d := .str [99, 97, 114, 114, 121]) (rv_str (by decide +kernel))) sa_nil)))))))))))))) sg_name)
    (ss_seq (ss_asg (se_of (sf_op s2f_cat se_var (se_of (sf_lst (sa_cons (se_c (d := .str [99, 117, 116]) (rv_str (by decide +kernel))) (sa_cons (se_c (d := .str [115, 105, 122, 101]) (rv_str (by decide +kernel))) (sa_cons (se_c (d := .str [120]) (rv_str (by decide +kernel))) sa_nil))))))) sg_name)
    (ss_seq (ss_asg (se_of (sf_op s2f_cat (se_of (sf_op s2f_cat (se_of (sf_sl s3f_sl se_var so_none (so_some se_var))) (se_op s2_ix (se_of (sf_lst (sa_cons (se_of (sf_lst sa_nil)) (sa_cons (se_of (sf_op s2f_rep (se_of (sf_lst (sa_cons (se_op s2_ix se_var se_var) sa_nil))) (se_c (d := .int 2) rv_int))) (sa_cons (se_of (sf_lst (sa_cons (se_op s2_ix se_var (se_call runB_len (sa_cons se_var (sa_cons (se_c (d := .int 15) rv_int) sa_nil)))) sa_nil))) sa_nil))))) (se_op s2_sub se_var (se_c (d := .int 6) rv_int))))) (se_of (sf_sl s3f_sl se_var (so_some (se_op s2_add se_var (se_c (d := .int 1) rv_int))) so_none)))) sg_name)
    (ss_ret (se_tm1 sm_joinR (se_c (d := .str [10]) (rv_str (by decide +kernel))) (se_of (sf_op s2f_cat (se_of (sf_op s2f_cat (se_of (sf_sl s3f_sl se_var so_none (so_some se_var))) (se_of (sf_lst (sa_cons (se_tm1 sm_joinR (se_c (d := .str [32]) (rv_str (by decide +kernel))) se_var) sa_nil))))) (se_of (sf_sl s3f_sl se_var (so_some (se_op s2_add se_var (se_c (d := .int 1) rv_int))) so_none))))))))))))))))))))
theorem ok_law (T : Tx w K mg) (TB0 : LamX.TabB base mg (He.codeOf K ("law", none)) (He.tabOf K (He.codeOf K ("law", none)))) : FnOk P w K mg base CX0 16 T.a_law T.d_law ["_law_script"] (spOf K (gx T) 1 F_law) := by
  obtain ⟨ts, hp, hsu⟩ := told_ok T
  refine fun_okK T.F_law T.e_law (k := 15) sc_law sp_len (fun A outer s H vs Q E hr h => ?_)
  refine' ⟨_, PSs.nox ?p, body_ok (N := N_law) (n := 1) (b := b_law) ?s (by decide) h⟩
  case p => exact (pss_cons (ps_set (i := 1) sc_law.nd rfl (Or.inr rfl) (pe_call (ok__law_begun T) (hr.mono (by decide)) rfl T.g__law_begun T.F__law_begun.kp (bd__law_begun T) .nil pass0 (pa_cons (pv 0) pa_nil)))
    (pss_cons (ps_set (i := 2) sc_law.nd rfl (Or.inl rfl) (pe_lst (pa_cons pe_str (pa_cons pe_str (pa_cons pe_str (pa_cons pe_str (pa_cons pe_str (pa_cons pe_str (pa_cons pe_str (pa_cons pe_str (pa_cons pe_str (pa_cons pe_str pa_nil))))))))))))
    (pss_cons (ps_set (i := 2) sc_law.nd rfl (Or.inl rfl) (pe_op op_cat (pv 2) (pe_lst (pa_cons pe_str (pa_cons pe_str pa_nil)))))
    (pss_cons (ps_for PassesOwn.never rfl (pi_range1 rfl T.n_range (pa_cons pe_int pa_nil)) (pg_name (i := 3) sc_law.nd rfl (Or.inl rfl)) (pss_cons (ps_set (i := 4) sc_law.nd rfl (Or.inr rfl) (pe_call (ok__law_rows T) (hr.mono (by decide)) rfl T.g__law_rows T.F__law_rows.kp (bd__law_rows T) .nil pass0 (pa_cons (pe_lc (own := [("_law_k", 5)]) (g := (gName 5)) rfl sc_law.nd (pi_range1 rfl T.n_range (pa_cons (pe_call (ok__law_take T) (hr.mono (by decide)) rfl T.g__law_take T.F__law_take.kp (bd__law_take T) .nil pass0 (pa_cons (pv 1) (pa_cons pe_int pa_nil))) pa_nil)) (blkOk_by (own := [("_law_k", 5)]) (N := N_law) (sc := defScope s_law) (by decide +kernel)) (fun _ _ _ _ _ => (pg_name (i := 5) sc_law.nd rfl (Or.inl rfl))) (fun _ _ _ _ _ => pts_nil) (fun _ _ _ _ _ => (pe_call (ok__law_anystep T) (hr.mono (by decide)) rfl T.g__law_anystep T.F__law_anystep.kp (bd__law_anystep T) .nil pass0 (pa_cons (pv 1) pa_nil)))) pa_nil)))
    (pss_cons (ps_if (pt_cmpR (opEq K hr.units) (pe_call (ok__law_take T) (hr.mono (by decide)) rfl T.g__law_take T.F__law_take.kp (bd__law_take T) .nil pass0 (pa_cons (pv 1) (pa_cons pe_int pa_nil))) pe_int (nomark _)) (pss_one (ps_set (i := 4) sc_law.nd rfl (Or.inr rfl) (pe_ix (ixSeq K) (pv 2) (pe_call (ok__law_take T) (hr.mono (by decide)) rfl T.g__law_take T.F__law_take.kp (bd__law_take T) .nil pass0 (pa_cons (pv 1) (pa_cons pe_int pa_nil))) (fun _ _ => rfl)))) pss_nil)
    (pss_cons (ps_for PassesOwn.never rfl (pi_range1 rfl T.n_range (pa_cons (pe_call (ok__law_take T) (hr.mono (by decide)) rfl T.g__law_take T.F__law_take.kp (bd__law_take T) .nil pass0 (pa_cons (pv 1) (pa_cons pe_int pa_nil))) pa_nil)) (pg_name (i := 6) sc_law.nd rfl (Or.inl rfl)) (pss_one (ps_set (i := 4) sc_law.nd rfl (Or.inr rfl) (pe_call (ok__law_spoilt T) (hr.mono (by decide)) rfl T.g__law_spoilt T.F__law_spoilt.kp (bd__law_spoilt T) .nil pass0 (pa_cons (pv 1) (pa_cons (pv 4) pa_nil))))))
    (pss_cons (ps_set (i := 7) sc_law.nd rfl (Or.inl rfl) (pe_ifExp (pt_cmpR (opNe K hr.units) (pv 4) pe_str (nomark _)) (pe_lc (own := [("_law_row", 8)]) (g := (gName 8)) rfl sc_law.nd (piList K (pe_split (pv 4) pe_str)) (blkOk_by (own := [("_law_row", 8)]) (N := N_law) (sc := defScope s_law) (by decide +kernel)) (fun _ _ _ _ _ => (pg_name (i := 8) sc_law.nd rfl (Or.inl rfl))) (fun _ _ _ _ _ => pts_nil) (fun _ _ _ _ _ => (pe_call (ok__law_step T) (hr.mono (by decide)) rfl T.g__law_step T.F__law_step.kp (bd__law_step T) .nil pass0 (pa_cons (pv 8) pa_nil)))) (pe_lst pa_nil)))
    (pss_cons (ps_set (i := 9) sc_law.nd rfl (Or.inl rfl) (pe_ifExp (pt_cmpR (opInD K hr) pe_non (pv 7) (by rfl)) (pe_tup (pa_cons pe_str (pa_cons (peBm K PySem.F.plainAttrs_list PySem.F.slot_list_index PySem.F.type_list_index (mtIdxD K hr) (pv 7) (pa_cons pe_non pa_nil)) pa_nil))) (pv 7)))
    (pss_one (ps_for PassesOwn.never rfl (pi_range1 rfl T.n_range (pa_cons pe_int pa_nil)) (pg_name (i := 10) sc_law.nd rfl (Or.inl rfl)) (pss_one (ps_if (pt_not (pt_val (pe_call (ok__law_alike T 8) (hr.mono (by omega)) rfl T.g__law_alike T.F__law_alike.kp (bd__law_alike T) .nil pass0 (pa_cons (peTold (n := 12) T.F__law_told rfl T.g__law_told (bd__law_told T) sc__law_told rfl (Or.inl rfl) (fun cdv => told_gives2 (i := 1) rfl T.gx_HallError rfl sc__law_told.nd rfl rfl (fun _ => rfl) (fun s H a oe cls d pn hz hf => hp _ _ _ _ _ _ _ _ _ _ _ _ (Room.deeper (k := 0) (hr.mono (by decide)) _) hz hf)) TB0 rfl (hr.mono (by decide)) (LamX.lamS_by (sc := defScope s_law) (by decide +kernel)) rfl (fun _ _ _ _ _ => rfl) (fun A outer s H E f c' hr => (pe_call (ok_read T) (hr.mono (by decide)) rfl T.g_read T.F_read.kp (bd_read T) .nil (passes_call (takes_of rfl rfl rfl rfl) (fun _ _ _ _ h => h)) (pa_cons (pv 4) pa_nil)))) (pa_cons (pv 9) pa_nil))))) (pss_one (ps_ret pe_bl)) pss_nil))))))))))
    (pss_one (ps_ret pe_bl))))))
  case s => exact (ss_seq (ss_asg (se_call runB_len (sa_cons se_var sa_nil)) sg_name)
    (ss_seq (ss_asg (se_of (sf_lst (sa_cons (se_c (d := .str []) (rv_str (by decide +kernel))) (sa_cons (se_c (d := .str [32]) (rv_str (by decide +kernel))) (sa_cons (se_c (d := .str [10]) (rv_str (by decide +kernel))) (sa_cons (se_c (d := .str [99, 111, 109, 101, 32, 48, 32, 49, 32, 50, 48]) (rv_str (by decide +kernel))) (sa_cons (se_c (d := .str [112, 114, 101, 115, 115, 32, 48]) (rv_str (by decide +kernel))) (sa_cons (se_c (d := .str [112, 114, 101, 115, 115, 32, 48, 32]) (rv_str (by decide +kernel))) (sa_cons (se_c (d := .str [112, 114, 101, 115, 115, 32, 48, 32, 32]) (rv_str (by decide +kernel))) (sa_cons (se_c (d := .str [98, 101, 97, 116, 32]) (rv_str (by decide +kernel))) (sa_cons (se_c (d := .str [115, 101, 110, 100, 10]) (rv_str (by decide +kernel))) (sa_cons (se_c (d := .str [99, 117, 116, 32, 48]) (rv_str (by decide +kernel))) sa_nil)))))))))))) sg_name)
    (ss_seq (ss_asg (se_of (sf_op s2f_cat se_var (se_of (sf_lst (sa_cons (se_c (d := .str [108, 101, 97, 118, 101, 32, 48, 55]) (rv_str (by decide +kernel))) (sa_cons (se_c (d := .str [112, 114, 101, 115, 115, 32, 97, 32, 98]) (rv_str (by decide +kernel))) sa_nil)))))) sg_name)
    (ss_seq (ss_for (si_r1 (sa_cons (se_c (d := .int 6) rv_int) sa_nil)) sg_name (ss_seq (ss_asg (se_call runB_len (sa_cons (se_of (sf_lc (vs := [5]) (si_r1 (sa_cons (se_call runB_len (sa_cons se_var (sa_cons (se_c (d := .int 8) rv_int) sa_nil))) sa_nil)) (sp_name (by decide)) st_yes (se_call runB_len (sa_cons se_var sa_nil)))) sa_nil)) sg_name)
    (ss_seq (ss_if (st_test (se_op s2_eq (se_call runB_len (sa_cons se_var (sa_cons (se_c (d := .int 5) rv_int) sa_nil))) (se_c (d := .int 0) rv_int))) (ss_asg (se_op s2_ix se_var (se_call runB_len (sa_cons se_var (sa_cons (se_c (d := .int 12) rv_int) sa_nil)))) sg_name) ss_next)
    (ss_seq (ss_for (si_r1 (sa_cons (se_call runB_len (sa_cons se_var (sa_cons (se_c (d := .int 4) rv_int) sa_nil))) sa_nil)) sg_name (ss_asg (se_call runB_len (sa_cons se_var (sa_cons se_var sa_nil))) sg_name))
    (ss_seq (ss_asg (se_if (st_test (se_op s2_ne se_var (se_c (d := .str []) (rv_str (by decide +kernel))))) (se_of (sf_lc (vs := [8]) (si_listF (sf_tm1 smf_split se_var (se_c (d := .str [10]) (rv_str (by decide +kernel))))) (sp_name (by decide)) st_yes (se_call runB_len (sa_cons se_var sa_nil)))) (se_of (sf_lst sa_nil))) sg_name)
    (ss_seq (ss_asg (se_if (st_test (se_op (s2_inD (neg := false)) (se_c (v := .non) (d := .non) rv_non) se_var)) (se_tup (sa_cons (se_c (d := .str [66, 97, 100, 84, 101, 120, 116]) (rv_str (by decide +kernel))) (sa_cons (se_bmV sm_idxD se_var (sa_cons (se_c (v := .non) (d := .non) rv_non) sa_nil)) sa_nil))) se_var) sg_name)
    (ss_for (si_r1 (sa_cons (se_c (d := .int 2) rv_int) sa_nil)) sg_name (ss_if (st_not (st_B (se_call (_law_alike_len _) (sa_cons (se_told hsu (fun E => (sex_call runX_len (sa_cons se_var sa_nil)))) (sa_cons se_var sa_nil))))) (ss_ret (se_c (v := .bl false) (d := .bl false) rv_bl)) ss_next))))))))
    (ss_ret (se_c (v := .bl true) (d := .bl true) rv_bl))))))
end
end K17
set_option maxRecDepth 100000
set_option maxHeartbeats 4000000
namespace K17
open AH PySem L2 TL
inductive Pt where
  | n (x : Nat)
  | t (z : List Nat)
def Pt.d : Pt → D
  | .n x => .int x
  | .t z => .str z
def Pt.w : Pt → List Nat
  | .n x => numL x
  | .t z => z
abbrev pressL : List Nat := [112, 114, 101, 115, 115]
abbrev evL : List Nat := [97, 98, 99, 100, 101, 102, 103, 104, 105, 106, 107, 108, 109, 110, 111, 112, 113, 114, 115, 116, 117, 118, 119, 120, 121, 122, 48, 49, 50, 51, 52, 53, 54, 55, 56, 57, 32, 60, 59]
def nmsL : List (List Nat × Nat) := [([99, 111, 109, 101], 4), ([115, 105, 122, 101], 3), ([108, 101, 97, 118, 101], 1), ([103, 111, 110, 101], 1), ([98, 101, 97, 116], 0), ([115, 101, 110, 100], 0), ([115, 101, 116, 116, 108, 101], 0), ([99, 97, 114, 114, 121], 1), ([108, 111, 115, 101], 1), ([116, 119, 105, 99, 101], 1), ([99, 117, 116], 2)]
structure Sp where
  nm : List Nat
  ps : List Pt
def Sp.d (s : Sp) : D := .tup (.str s.nm :: s.ps.map Pt.d)
def Sp.w (s : Sp) : List (List Nat) := s.nm :: s.ps.map Pt.w
def Sp.row (s : Sp) : List Nat := joinD [32] s.w
inductive Sp.Ok : Sp → Prop
  | num {nm : List Nat} {xs : List Nat} : (nm, xs.length) ∈ nmsL → (∀ x ∈ xs, x < 1000000) → Sp.Ok ⟨nm, xs.map .n⟩
  | pr {x : Nat} {z : List Nat} : x < 1000000 → z.length ≤ 30 → (∀ c ∈ z, c ∈ evL) → Sp.Ok ⟨pressL, [.n x, .t z]⟩
theorem names {nm : List Nat} {n : Nat} (h : (nm, n) ∈ nmsL) : (match kGet kv_SHAPES nm with
    | some i => D.int i
    | none => match kGet kv_ROAD nm with
      | some i => .int i
      | none => .non) = .int n ∧ nm ≠ pressL ∧ (32 : Nat) ∉ nm ∧ (10 : Nat) ∉ nm ∧ nm.length ≤ 6 ∧ n ≤ 4 ∧ nm ≠ [] ∧ okS nm := by
  unfold nmsL at h
  simp only [List.mem_cons, List.not_mem_nil, or_false, Prod.mk.injEq] at h
  rcases h with ⟨rfl, rfl⟩ | ⟨rfl, rfl⟩ | ⟨rfl, rfl⟩ | ⟨rfl, rfl⟩ | ⟨rfl, rfl⟩ | ⟨rfl, rfl⟩ | ⟨rfl, rfl⟩ | ⟨rfl, rfl⟩ | ⟨rfl, rfl⟩ | ⟨rfl, rfl⟩ | ⟨rfl, rfl⟩ <;>
    exact ⟨rfl, by decide, by decide, by decide, by decide, by decide, by decide, by unfold okS; decide⟩
theorem ev_lt : ∀ c ∈ evL, c < 128 ∧ c ≠ 10 := by decide
theorem num10 {n : Nat} : (10 : Nat) ∉ numL n := fun h => absurd (numL_dg h) (by decide)
theorem num6 {n : Nat} (h : n < 1000000) : (numL n).length ≤ 6 := numL_le (by omega) (by omega)
theorem dg_lt : ∀ c ∈ dg, c < 128 := by decide
theorem numOk {n : Nat} : okS (numL n) := fun c hc => Nat.lt_trans (dg_lt c (numL_dg hc)) (by decide)
theorem joinN_snoc {s z : List Nat} : ∀ {zs : List (List Nat)}, zs ≠ [] → joinD s (zs ++ [z]) = joinD s zs ++ s ++ z
  | [], h => absurd rfl h
  | [a], _ => by
    show joinD s (a :: [z]) = _
    rw [join_cons (by simp)]
    simp [joinD]
  | a :: b :: r, _ => by
    show joinD s (a :: (b :: r ++ [z])) = _
    rw [join_cons (by simp), joinN_snoc (zs := b :: r) (by simp), join_cons (p := a) (qs := b :: r) (by simp)]
    simp only [List.append_assoc]
theorem Sp.Ok.words {s : Sp} (h : s.Ok) : (32 : Nat) ∉ s.nm ∧ s.row ≠ [] ∧ s.row.length ≤ 60 ∧ (10 : Nat) ∉ s.row ∧ s.ps.length ≤ 4 ∧ okS s.nm ∧ (∀ p ∈ s.ps, p.w.length ≤ 30 ∧ okS p.w ∧ (10 : Nat) ∉ p.w) ∧ s.nm ≠ [] ∧ s.nm.length ≤ 6 := by
  have key : (32 : Nat) ∉ s.nm ∧ (10 : Nat) ∉ s.nm ∧ s.ps.length ≤ 4 ∧ okS s.nm ∧ (∀ p ∈ s.ps, p.w.length ≤ 30 ∧ okS p.w ∧ (10 : Nat) ∉ p.w) ∧ s.nm ≠ [] ∧ s.nm.length ≤ 6 ∧ (s.ps.map fun p => p.w.length).sum ≤ 36 := by
    cases h with
    | num h1 h2 =>
      rename_i nm xs
      obtain ⟨_, _, a, b, c, d, e, f⟩ := names h1
      refine ⟨a, b, by simpa using d, f, ?_, e, c, ?_⟩
      · intro p hp
        obtain ⟨x, hx, rfl⟩ := List.mem_map.mp hp
        exact ⟨by have := num6 (h2 x hx); show (numL x).length ≤ 30; omega, numOk, num10⟩
      · have : ∀ ys : List Nat, (∀ x ∈ ys, x < 1000000) → ((ys.map Pt.n).map fun p => p.w.length).sum ≤ 6 * ys.length := by
          intro ys
          induction ys with
          | nil => intro _; exact Nat.zero_le _
          | cons y ys ih =>
            intro q
            have h3 := ih fun x hx => q x (List.mem_cons_of_mem _ hx)
            have h4 := num6 (q y (List.mem_cons_self ..))
            simp only [List.map_cons, List.sum_cons, List.length_cons]
            show (numL y).length + _ ≤ _
            omega
        have h3 := this xs h2
        show ((xs.map Pt.n).map fun p => p.w.length).sum ≤ 36
        omega
    | pr h1 h2 h3 =>
      rename_i x z
      refine ⟨(by decide : (32 : Nat) ∉ pressL), (by decide : (10 : Nat) ∉ pressL), (by decide : 2 ≤ 4), (by unfold okS; decide : okS pressL), ?_, (by decide : pressL ≠ []), (by decide : pressL.length ≤ 6), ?_⟩
      · intro p hp
        simp only [List.mem_cons, List.not_mem_nil, or_false] at hp
        rcases hp with rfl | rfl
        · exact ⟨by have := num6 h1; show (numL x).length ≤ 30; omega, numOk, num10⟩
        · exact ⟨h2, fun c hc => Nat.lt_trans (ev_lt c (h3 c hc)).1 (by decide), fun hc => (ev_lt 10 (h3 10 hc)).2 rfl⟩
      · have := num6 h1
        show (numL x).length + (z.length + 0) ≤ 36
        omega
  obtain ⟨a, b, c, d, e, f, g, i⟩ := key
  have hl : s.row.length ≤ 60 := by
    have h1 := join_len (s := [32]) s.w
    have h2 : (s.w.map (·.length)).sum = s.nm.length + (s.ps.map fun p => p.w.length).sum := by
      unfold Sp.w
      simp [Function.comp_def]
    have h3 : s.w.length = s.ps.length + 1 := by unfold Sp.w; simp
    have h4 : s.row.length = (joinD [32] s.w).length := rfl
    simp only [List.length_singleton, Nat.mul_one] at h1
    omega
  refine ⟨a, ?_, hl, ?_, c, d, e, f, g⟩
  · intro hz
    unfold Sp.row Sp.w at hz
    cases hps : s.ps.map Pt.w with
    | nil =>
      rw [hps] at hz
      exact f hz
    | cons q r =>
      rw [hps, join_cons (by simp)] at hz
      exact f (List.append_eq_nil_iff.mp hz).1
  · intro hc
    rcases join_mem (show 10 ∈ joinD [32] s.w from hc) with q | ⟨z, hz, q⟩
    · exact absurd q (by decide)
    · unfold Sp.w at hz
      rcases List.mem_cons.mp hz with hz | hz
      · rw [hz] at q
        exact b q
      · obtain ⟨p, hp, rfl⟩ := List.mem_map.mp hz
        exact (e p hp).2.2 q
theorem wo_slT1 {d : D} {ds : List D} {S : Sto} {P : D → Sto → Prop} (h : P (.tup ds) S) : W (fSl (.tup (d :: ds)) (some 1) none S) P := by
  refine ⟨_, _, ?_, h⟩
  unfold fSl
  dsimp only
  have e1 : HT.sIx (d :: ds).length 0 (some 1) = 1 := by
    show (if (1 : Int) < 0 then ((1 : Int) + ((d :: ds).length : Int)).toNat else min (1 : Int).toNat (d :: ds).length) = _
    rw [if_neg (by omega)]
    simp
  rw [if_neg (by rw [e1]; omega)]
  have e2 : cutL (d :: ds) (some ((1 : Nat) : Int)) none = (d :: ds).drop 1 := cut_hi _ _
  show some (D.tup (cutL (d :: ds) (some ((1 : Nat) : Int)) none), S) = _
  rw [e2]
  rfl
theorem Sp.Ok.nums {s : Sp} (h : s.Ok) : ∀ x, Pt.n x ∈ s.ps → x < 1000000 := by
  cases h with
  | num h1 h2 =>
    intro x hx
    obtain ⟨y, hy, e⟩ := List.mem_map.mp hx
    cases e
    exact h2 _ hy
  | pr h1 h2 h3 =>
    intro x hx
    simp only [List.mem_cons, List.not_mem_nil, or_false] at hx
    rcases hx with hx | hx
    · cases hx
      exact h1
    · cases hx
theorem pts_sum : ∀ qs : List Pt, (∀ p ∈ qs, p.w.length ≤ 30) → ((qs.map Pt.w).map (·.length)).sum ≤ 30 * qs.length
  | [], _ => Nat.le_refl _
  | p :: qs, h => by
    have h1 := pts_sum qs fun q hq => h q (List.mem_cons_of_mem _ hq)
    have h2 := h p (List.mem_cons_self ..)
    simp only [List.map_cons, List.sum_cons, List.length_cons]
    omega
theorem pts_len {nm : List Nat} {qs : List Pt} (h : ∀ p ∈ qs, p.w.length ≤ 30) : (joinD [32] (nm :: qs.map Pt.w)).length ≤ nm.length + 31 * qs.length + 1 := by
  have h1 := join_len (s := [32]) (nm :: qs.map Pt.w)
  have h2 := pts_sum qs h
  simp only [List.map_cons, List.sum_cons, List.length_cons, List.length_map, List.length_nil] at h1
  omega
theorem rows_sum : ∀ ss : List Sp, (∀ s ∈ ss, s.Ok) → ((ss.map Sp.row).map (·.length)).sum ≤ 60 * ss.length
  | [], _ => Nat.le_refl _
  | p :: qs, h => by
    have h1 := rows_sum qs fun q hq => h q (List.mem_cons_of_mem _ hq)
    have h2 := (h p (List.mem_cons_self ..)).words.2.2.1
    simp only [List.map_cons, List.sum_cons, List.length_cons]
    omega
theorem sd_int {n : Int} {k : Nat} : SdN k (.int n) := ⟨.int n, rfl, rfl, Nat.zero_le _⟩
theorem sd_str {z : List Nat} {k : Nat} (h : okS z) : SdN k (.str z) := ⟨_, rfl, okS_lay h, Nat.zero_le _⟩
theorem sd_tup {k : Nat} {ds : List D} (h : ∀ d ∈ ds, SdN k d) : SdN (k + 1) (.tup ds) := by
  obtain ⟨ps, h1, h2, h3⟩ := sd_all h
  refine ⟨.tuple ps, ?_, h2, Nat.succ_le_succ h3⟩
  show (toPys ds).map PyData.tuple = _
  rw [h1]
  rfl
theorem Sp.Ok.sd {s : Sp} (h : s.Ok) : Sd s.d := by
  obtain ⟨w1, w2, w3, w4, w5, w6, w7, w8, w9⟩ := h.words
  refine (sd_tup (k := 0) fun d hd => ?_).sd (by decide)
  rcases List.mem_cons.mp hd with e | hd
  · rw [e]
    exact sd_str w6
  · obtain ⟨p, hp, rfl⟩ := List.mem_map.mp hd
    have q := (w7 p hp).2.1
    cases p with
    | n x => exact sd_int
    | t z => exact sd_str q
theorem Sp.ak {s : Sp} (h : s.Ok) {S : Sto} {k : Nat} : Ak S (k + 2) s.d s.d := by
  obtain ⟨w1, w2, w3, w4, w5, w6, w7, w8, w9⟩ := h.words
  refine .tup rfl (by simp only [List.length_cons, List.length_map]; omega) fun i x y hx hy => ?_
  rw [hx] at hy
  cases hy
  have hm := List.mem_of_getElem? hx
  rcases List.mem_cons.mp hm with e | hd
  · rw [e]
    exact .str
  · obtain ⟨p, hp, rfl⟩ := List.mem_map.mp hd
    cases p with
    | n x => exact .int
    | t z => exact .str
theorem rows_w {ss : List Sp} {S : Sto} (h : ∀ s ∈ ss, s.Ok) (hl : ss.length ≤ 10) : W (F__law_rows [.lst (ss.map Sp.d)] S) fun o S' => o = .v (.str (joinD [10] (ss.map Sp.row))) ∧ S' = S := by
  refine w_run rfl ?_
  show WS (b__law_rows [.val _, .no, .no, .no, .no] S) _
  unfold b__law_rows
  fail "STEP"
  refine ws_loop (fun k ρ S1 => S1 = S ∧ ∃ a b c e, ρ = [e, .acc (((ss.take k).map Sp.row).map .str), a, b, c]) ⟨rfl, _, _, _, _, rfl⟩ ?_ ?_
  · rintro k d ρ S1 hk ⟨rfl, a, b, c, e, rfl⟩
    rw [List.getElem?_map] at hk
    obtain ⟨s, hs, rfl⟩ := Option.map_eq_some_iff.mp hk
    have so := h s (List.mem_of_getElem? hs)
    obtain ⟨w1, w2, w3, w4, w5, w6, w7, w8, w9⟩ := so.words
    have ed : s.d = .tup (.str s.nm :: s.ps.map Pt.d) := rfl
    rw [ed]
    fail "STEP"
    refine wo_slT1 ?_
    refine ⟨_, rfl, ?_⟩
    refine ws_loop (fun j ρ S2 => S2 = S1 ∧ ∃ x y, ρ = [e, .acc (((ss.take k).map Sp.row).map .str), x, .val (.str (joinD [32] (s.nm :: (s.ps.take j).map Pt.w))), y]) ⟨rfl, _, _, rfl⟩ ?_ ?_
    · rintro j d ρ S2 hj ⟨rfl, x, y, rfl⟩
      rw [List.getElem?_map] at hj
      obtain ⟨p, hp, rfl⟩ := Option.map_eq_some_iff.mp hj
      have pm := List.mem_of_getElem? hp
      have jl : (joinD [32] (s.nm :: (s.ps.take j).map Pt.w)).length ≤ 1000 := by
        have := pts_len (nm := s.nm) (qs := s.ps.take j) fun p hp => (w7 p (List.mem_of_mem_take hp)).1
        have l := List.length_take_le' j s.ps
        omega
      have pl := (w7 p pm).1
      have nu := so.nums
      have nx : joinD [32] (s.nm :: (s.ps.take (j + 1)).map Pt.w) = joinD [32] (s.nm :: (s.ps.take j).map Pt.w) ++ [32] ++ p.w := by
        rw [List.take_add_one, hp, List.map_append]
        exact joinN_snoc (zs := s.nm :: (s.ps.take j).map Pt.w) (by simp)
      rw [nx]
      generalize joinD [32] (s.nm :: (s.ps.take j).map Pt.w) = row at jl ⊢
      fail "STEP"
      cases p with
      | n q =>
        refine wo_isT (n := "int") rfl rfl ?_
        fail "STEP"
        refine wo_strI ⟨by omega, by have := nu q pm; omega⟩ ?_
        rw [Int.toNat_natCast]
        have pl' : (numL q).length ≤ 30 := pl
        fail "STEP"
        exact ⟨rfl, _, _, rfl⟩
      | t z =>
        have pl' : z.length ≤ 30 := pl
        refine wo_isT (n := "str") rfl rfl ?_
        fail "STEP"
        show W (fAdd (.str _) (.str z) _) _
        refine wo_addS (by simp; omega) ?_
        fail "STEP"
        exact ⟨rfl, _, _, rfl⟩
    · rintro ρ S2 ⟨rfl, x, y, rfl⟩
      have tk : ss.take (k + 1) = ss.take k ++ [s] := by
        rw [List.take_add_one, hs]
        rfl
      rw [List.length_map, List.take_length]
      fail "STEP"
      refine ⟨by simp only [List.length_map, List.length_take]; omega, ?_⟩
      exact ⟨rfl, _, _, _, _, by rw [tk, List.map_append, List.map_append]; rfl⟩
  · rintro ρ S1 ⟨rfl, a, b, c, e, rfl⟩
    rw [List.length_map, List.take_length]
    fail "STEP"
    have rs := rows_sum ss h
    refine wo_joinS (by simp only [List.length_map, List.length_singleton]; omega) ?_
    fail "STEP"
    exact ⟨rfl, rfl⟩
theorem any_w {S : Sto} {l m : Nat} (bx : Box S l m) : W (F__law_anystep [.ref l] S) fun o S' => ∃ s : Sp, o = .v s.d ∧ s.Ok ∧ Bx l m S S' := by
  refine w_run rfl ?_
  show WS (b__law_anystep [.val (.ref l), .no, .no, .no, .no, .no] S) _
  unfold b__law_anystep
  fail "STEP"
  refine wl_lc ?_
  fail "STEP"
  refine ⟨by decide, fun k out S1 => Bx l m S S1 ∧ ∃ xs : List Nat, out = xs.map (fun x : Nat => D.int x) ∧ xs.length = k ∧ ∀ x ∈ xs, x < 1000000, ⟨Bx.refl bx, [], rfl, rfl, fun x hx => (nomatch hx)⟩, ?_, ?_⟩
  · rintro k d out S1 hk ⟨b1, xs, rfl, hxl, hx⟩
    refine ⟨_, rfl, wt_yes ⟨fun z => (nomatch z), fun _ => ?_⟩⟩
    fail "STEP"
    refine (draw_nat (n := 10) b1.box (by omega) (by omega)).mono fun o S2 e => ?_
    obtain ⟨r1, rfl, hr1, b2⟩ := e
    fail "STEP"
    refine wo_pow ⟨by decide, by decide, by decide, by decide⟩ ?_
    fail "STEP"
    refine (draw_nat (n := 1000000) b2.box (by omega) (by omega)).mono fun o S3 e => ?_
    obtain ⟨r2, rfl, hr2, b3⟩ := e
    fail "STEP"
    refine (draw_nat (n := 2) b3.box (by omega) (by omega)).mono fun o S4 e => ?_
    obtain ⟨r3, rfl, hr3, b4⟩ := e
    fail "STEP"
    have h11 : ∃ y : Nat, [D.int (r1 : Int), .int (r2 : Int)][r3]? = some (.int y) ∧ y < 1000000 := by
      have : r3 = 0 ∨ r3 = 1 := by omega
      rcases this with rfl | rfl
      · exact ⟨r1, rfl, by omega⟩
      · exact ⟨r2, rfl, by omega⟩
    obtain ⟨y, hy, ly⟩ := h11
    refine wo_ixL (by omega) (by rw [Int.toNat_natCast]; exact hy) ?_
    exact ⟨((b1.trans b2).trans b3).trans b4, xs ++ [y], by rw [List.map_append]; rfl, by simp [hxl], fun x hx' => by
      rcases List.mem_append.mp hx' with q | q
      · exact hx x q
      · rw [List.mem_singleton] at q
        omega⟩
  · rintro out S1 ⟨b1, xs, rfl, hxl, hx⟩
    have h4 : ∃ a b c d, xs = [a, b, c, d] := by
      match xs, hxl with
      | [a, b, c, d], _ => exact ⟨a, b, c, d, rfl⟩
    obtain ⟨a, b, c, d, rfl⟩ := h4
    have ha := hx a (by simp)
    have hb := hx b (by simp)
    have hc := hx c (by simp)
    have hd := hx d (by simp)
    refine ⟨by simp, ?_⟩
    fail "STEP"
    refine wl_drawn (A := evL) (l := l) (m := m) (fun d => rfl) ?_
    fail "STEP"
    refine (draw_nat (n := 3) b1.box (by omega) (by omega)).mono fun o S4 e => ?_
    obtain ⟨q, rfl, hq, b5⟩ := e
    fail "STEP"
    have hq1 : ∃ y : Nat, [D.int 2, .int 9, .int 30][q]? = some (.int y) ∧ 0 < y ∧ y ≤ 30 := by
      have : q = 0 ∨ q = 1 ∨ q = 2 := by omega
      rcases this with rfl | rfl | rfl
      · exact ⟨2, rfl, by omega, by omega⟩
      · exact ⟨9, rfl, by omega, by omega⟩
      · exact ⟨30, rfl, by omega, by omega⟩
    obtain ⟨y2, hy2, hy3, hy4⟩ := hq1
    refine wo_ixL (by omega) (by rw [Int.toNat_natCast]; exact hy2) ?_
    fail "STEP"
    refine (draw_nat b5.box hy3 (by omega)).mono fun o S6 e => ?_
    obtain ⟨n2, rfl, hn2, b6⟩ := e
    fail "STEP"
    refine ⟨by omega, _, rng_len, by omega, b6.box, fun S10 d b10 => ?_, fun z S7 hz hzA b7 => ?_⟩
    · fail "STEP"
      refine (draw_sign (A := evL) b10 (by rfl) (by omega) (by omega)).mono fun o S11 e => ?_
      obtain ⟨r, c, rfl, hc, hcA, bx11⟩ := e
      fail "STEP"
      refine wo_ixS (by decide) (by omega) (by rw [Int.toNat_natCast]; exact hc) ?_
      exact ⟨c, rfl, hcA, bx11⟩
    fail "STEP"
    refine wo_joinC (by omega) ?_
    fail "STEP"
    refine wo_addT ⟨rfl, by simp⟩ ?_
    fail "STEP"
    have c3 : cutL (List.map (fun x : Nat => D.int x) [a, b, c, d]) none (some 3) = [.int a, .int b, .int c] := rfl
    rw [c3]
    refine wo_addT ⟨rfl, by simp⟩ ?_
    fail "STEP"
    refine (draw_nat (n := 13) b7.box (by omega) (by omega)).mono fun o S8 e => ?_
    obtain ⟨r8, rfl, hr8, b8⟩ := e
    fail "STEP"
    generalize hL : (([D.tup ([D.str [99, 111, 109, 101]] ++ List.map (fun x : Nat => D.int x) [a, b, c, d]), D.tup [D.str [112, 114, 101, 115, 115], (fun x : Nat => D.int x) a, D.str z], D.tup [D.str [112, 114, 101, 115, 115], (fun x : Nat => D.int x) b, D.str z]] ++ [D.tup [D.str [108, 101, 97, 118, 101], (fun x : Nat => D.int x) a]] ++
                [D.tup ([D.str [115, 105, 122, 101]] ++ [.int a, .int b, .int c]),
                  D.tup [D.str [103, 111, 110, 101], (fun x : Nat => D.int x) a], D.tup [D.str [98, 101, 97, 116]],
                  D.tup [D.str [115, 101, 110, 100]], D.tup [D.str [115, 101, 116, 116, 108, 101]]] ++ [D.tup [D.str [99, 97, 114, 114, 121], (fun x : Nat => D.int x) a], D.tup [D.str [108, 111, 115, 101], (fun x : Nat => D.int x) a], D.tup [D.str [116, 119, 105, 99, 101], (fun x : Nat => D.int x) b], D.tup [D.str [99, 117, 116], (fun x : Nat => D.int x) a, (fun x : Nat => D.int x) b]])) = some_
    have zl : z.length ≤ 30 := by omega
    have hsome : ∃ s : Sp, some_[r8]? = some s.d ∧ s.Ok := by
      have : r8 = 0 ∨ r8 = 1 ∨ r8 = 2 ∨ r8 = 3 ∨ r8 = 4 ∨ r8 = 5 ∨ r8 = 6 ∨ r8 = 7 ∨ r8 = 8 ∨ r8 = 9 ∨ r8 = 10 ∨ r8 = 11 ∨ r8 = 12 := by omega
      rw [← hL]
      have fa : ∀ x ∈ [a], x < 1000000 := by simpa using ha
      have fb : ∀ x ∈ [b], x < 1000000 := by simpa using hb
      have fab : ∀ x ∈ [a, b], x < 1000000 := fun x hx => by
        simp only [List.mem_cons, List.not_mem_nil, or_false] at hx
        omega
      have fabc : ∀ x ∈ [a, b, c], x < 1000000 := fun x hx => by
        simp only [List.mem_cons, List.not_mem_nil, or_false] at hx
        omega
      have fn : ∀ x ∈ ([] : List Nat), x < 1000000 := fun x hx => (nomatch hx)
      rcases this with rfl | rfl | rfl | rfl | rfl | rfl | rfl | rfl | rfl | rfl | rfl | rfl | rfl
      · exact ⟨⟨[99, 111, 109, 101], [a, b, c, d].map .n⟩, rfl, .num (by simp [nmsL]) hx⟩
      · exact ⟨⟨pressL, [.n a, .t z]⟩, rfl, .pr ha zl hzA⟩
      · exact ⟨⟨pressL, [.n b, .t z]⟩, rfl, .pr hb zl hzA⟩
      · exact ⟨⟨[108, 101, 97, 118, 101], [a].map .n⟩, rfl, .num (by simp [nmsL]) fa⟩
      · exact ⟨⟨[115, 105, 122, 101], [a, b, c].map .n⟩, rfl, .num (by simp [nmsL]) fabc⟩
      · exact ⟨⟨[103, 111, 110, 101], [a].map .n⟩, rfl, .num (by simp [nmsL]) fa⟩
      · exact ⟨⟨[98, 101, 97, 116], [].map .n⟩, rfl, .num (by simp [nmsL]) fn⟩
      · exact ⟨⟨[115, 101, 110, 100], [].map .n⟩, rfl, .num (by simp [nmsL]) fn⟩
      · exact ⟨⟨[115, 101, 116, 116, 108, 101], [].map .n⟩, rfl, .num (by simp [nmsL]) fn⟩
      · exact ⟨⟨[99, 97, 114, 114, 121], [a].map .n⟩, rfl, .num (by simp [nmsL]) fa⟩
      · exact ⟨⟨[108, 111, 115, 101], [a].map .n⟩, rfl, .num (by simp [nmsL]) fa⟩
      · exact ⟨⟨[116, 119, 105, 99, 101], [b].map .n⟩, rfl, .num (by simp [nmsL]) fb⟩
      · exact ⟨⟨[99, 117, 116], [a, b].map .n⟩, rfl, .num (by simp [nmsL]) fab⟩
    obtain ⟨s, hs, so⟩ := hsome
    refine wo_ixL (by omega) (by rw [Int.toNat_natCast]; exact hs) ?_
    fail "STEP"
    exact ⟨so, (((b1.trans b5).trans b6).trans b7).trans b8⟩
end K17
set_option maxRecDepth 100000
set_option maxHeartbeats 2000000
namespace K17N
open AH PySem L2 TL
def Pu (c : Nat) : Prop := c = 32 ∨ (48 ≤ c ∧ c ≤ 57)
structure Pn (x : List Nat) : Prop where
  pu : ∀ c ∈ x, Pu c
  np : ∀ a b, x ≠ a ++ 32 :: 32 :: b
theorem Pn.inf {x y : List Nat} (h : Pn x) (i : y <:+: x) : Pn y := by
  obtain ⟨a, b, rfl⟩ := i
  refine ⟨fun c hc => h.pu c (by simp [hc]), fun u v e => ?_⟩
  subst e
  exact h.np (a ++ u) (v ++ b) (by simp)
theorem np_half : ∀ {x : List Nat}, (∀ a b, x ≠ a ++ 32 :: 32 :: b) → 2 * x.count 32 ≤ x.length + 1
  | [], _ => by simp
  | [c], _ => by
    by_cases h : c = 32
    · subst h
      decide
    · rw [List.count_cons_of_ne h]
      simp
  | c :: d :: r, h => by
    have h2 : ∀ a b, d :: r ≠ a ++ 32 :: 32 :: b := fun a b e => h (c :: a) b (by rw [e]; rfl)
    by_cases hc : c = 32
    · subst hc
      have hd : d ≠ 32 := fun e => h [] r (by rw [e]; rfl)
      have h3 : ∀ a b, r ≠ a ++ 32 :: 32 :: b := fun a b e => h (32 :: d :: a) b (by rw [e]; rfl)
      have ih := np_half h3
      rw [List.count_cons_self, List.count_cons_of_ne hd]
      simp only [List.length_cons]
      omega
    · have ih := np_half h2
      rw [List.count_cons_of_ne hc]
      simp only [List.length_cons] at ih ⊢
      omega
def Nu (N : Nat) (t : List Nat) : Prop := ∀ x, x <:+: t → Pn x → x.count 32 ≤ N
theorem Nu.mono {N M : Nat} {t : List Nat} (h : Nu N t) (l : N ≤ M) : Nu M t := fun x i p => Nat.le_trans (h x i p) l
theorem Nu.inf {N : Nat} {t u : List Nat} (h : Nu N t) (i : u <:+: t) : Nu N u := fun x j p => h x (j.trans i) p
theorem nu_len {N : Nat} {t : List Nat} (h : t.length + 1 ≤ 2 * N + 1) : Nu N t := fun x i p => by
  have := np_half p.np
  have := i.length_le
  omega
/-- a part of A ++ B -/
theorem inf2 {x A B : List Nat} (h : x <:+: A ++ B) : x <:+: A ∨ x <:+: B ∨ ∃ u v, x = u ++ v ∧ u <:+ A ∧ v <+: B := by
  obtain ⟨a, b, e⟩ := h
  rcases List.append_eq_append_iff.mp e with ⟨c, h1, h2⟩ | ⟨c, h1, h2⟩
  · exact .inl ⟨a, c, h1.symm⟩
  · rcases List.append_eq_append_iff.mp h1 with ⟨d, h3, h4⟩ | ⟨d, h3, h4⟩
    · exact .inr (.inr ⟨d, c, h4, ⟨a, h3.symm⟩, ⟨b, h2.symm⟩⟩)
    · exact .inr (.inl ⟨d, b, by rw [h2, h4]⟩)
theorem suf2 {d A m : List Nat} (h : d <:+ A ++ m) : d <:+ m ∨ ∃ d', d = d' ++ m ∧ d' <:+ A := by
  obtain ⟨a, e⟩ := h
  rcases List.append_eq_append_iff.mp e with ⟨c, h1, h2⟩ | ⟨c, h1, h2⟩
  · exact .inr ⟨c, h2, ⟨a, h1.symm⟩⟩
  · exact .inl ⟨c, h2.symm⟩
theorem inf3 {x A m B : List Nat} (h : x <:+: A ++ m ++ B) : x <:+: A ++ m ∨ x <:+: m ++ B ∨ ∃ u v, x = u ++ m ++ v ∧ u <:+ A ∧ v <+: B := by
  rcases inf2 h with h | h | ⟨u, v, rfl, h1, h2⟩
  · exact .inl h
  · exact .inr (.inl (h.trans ⟨m, [], by simp⟩))
  · rcases suf2 h1 with q | ⟨d, rfl, q⟩
    · obtain ⟨a, rfl⟩ := q
      obtain ⟨b, rfl⟩ := h2
      exact .inr (.inl ⟨a, b, by simp⟩)
    · exact .inr (.inr ⟨d, v, rfl, q, h2⟩)
theorem cnt2 {x A B : List Nat} {N M : Nat} (hA : Nu N A) (hB : Nu M B) (i : x <:+: A ++ B) (p : Pn x) : x.count 32 ≤ N + M := by
  rcases inf2 i with h | h | ⟨u, v, rfl, h1, h2⟩
  · exact Nat.le_trans (hA x h p) (by omega)
  · exact Nat.le_trans (hB x h p) (by omega)
  · rw [List.count_append]
    have := hA u h1.isInfix (p.inf ⟨[], v, by simp⟩)
    have := hB v h2.isInfix (p.inf ⟨u, [], by simp⟩)
    omega
/-- a deed: something is put between two parts -/
theorem nu_cut {A m B : List Nat} {N : Nat} (hA : Nu N A) (hm : Nu 1 m) (hB : Nu N B) : Nu (2 * N + 1) (A ++ m ++ B) := fun x i p => by
  rcases inf3 i with h | h | ⟨u, v, rfl, h1, h2⟩
  · exact Nat.le_trans (cnt2 hA hm h p) (by omega)
  · exact Nat.le_trans (cnt2 hm hB h p) (by omega)
  · rw [List.count_append, List.count_append]
    have := hA u h1.isInfix (p.inf ⟨[], m ++ v, by simp⟩)
    have := hB v h2.isInfix (p.inf ⟨u ++ m, [], by simp⟩)
    have := hm m (List.infix_refl m) (p.inf ⟨u, v, by simp⟩)
    omega
/-- .. two short parts -/
theorem nu_cutL {A m B : List Nat} (hl : A.length + B.length ≤ 43) (hm : Nu 1 m) : Nu 23 (A ++ m ++ B) := fun x i p => by
  have hA : Nu 22 A := nu_len (by omega)
  have hB : Nu 22 B := nu_len (by omega)
  rcases inf3 i with h | h | ⟨u, v, rfl, h1, h2⟩
  · exact Nat.le_trans (cnt2 hA hm h p) (by omega)
  · exact Nat.le_trans (cnt2 hm hB h p) (by omega)
  · rw [List.count_append, List.count_append]
    have := np_half (p.inf (y := u) ⟨[], m ++ v, by simp⟩).np
    have := np_half (p.inf (y := v) ⟨u ++ m, [], by simp⟩).np
    have := hm m (List.infix_refl m) (p.inf ⟨u, v, by simp⟩)
    have := h1.length_le
    have := h2.length_le
    omega
theorem inf_sep {x A B : List Nat} (h : x <:+: A ++ 10 :: B) (n : 10 ∉ x) : x <:+: A ∨ x <:+: B := by
  rcases inf2 h with h | h | ⟨u, v, rfl, h1, h2⟩
  · exact .inl h
  · have h' : x <:+: [10] ++ B := h
    rcases inf2 h' with h | h | ⟨u, v, rfl, h1, h2⟩
    · obtain ⟨a, b, e⟩ := h
      cases x with
      | nil => exact .inl (List.nil_infix)
      | cons c x =>
        exfalso
        have : c ∈ ([10] : List Nat) := by rw [← e]; simp
        rw [List.mem_singleton] at this
        exact n (by rw [this]; exact List.mem_cons_self)
    · exact .inr h
    · cases u with
      | nil => exact .inr h2.isInfix
      | cons c u =>
        exfalso
        have : c ∈ ([10] : List Nat) := h1.subset List.mem_cons_self
        rw [List.mem_singleton] at this
        exact n (by rw [this]; exact List.mem_cons_self)
  · cases v with
    | nil => exact .inl (by rw [List.append_nil]; exact h1.isInfix)
    | cons c v =>
      exfalso
      obtain ⟨b, e⟩ := h2
      have : c = 10 := by
        rw [List.cons_append] at e
        exact (List.cons.inj e).1
      exact n (by rw [this]; simp)
theorem Pn.n10 {x : List Nat} (h : Pn x) : 10 ∉ x := fun hc => by
  rcases h.pu 10 hc with e | e
  · cases e
  · omega
theorem nu_rows {N : Nat} : ∀ {rs : List (List Nat)}, (∀ r ∈ rs, Nu N r) → Nu N (joinD [10] rs)
  | [], _ => fun x i p => by
    have e : joinD [10] [] = ([] : List Nat) := rfl
    rw [e] at i
    have : x = [] := List.infix_nil.mp i
    rw [this]
    exact Nat.zero_le _
  | [r], h => h r (List.mem_cons_self ..)
  | r :: q :: rs, h => fun x i p => by
    rw [join_cons (by simp)] at i
    rcases inf_sep i p.n10 with i | i
    · exact h r (List.mem_cons_self ..) x i p
    · exact nu_rows (rs := q :: rs) (fun y hy => h y (List.mem_cons_of_mem _ hy)) x i p
theorem join_app {s : List Nat} {Q : List (List Nat)} (hq : Q ≠ []) : ∀ {P : List (List Nat)}, P ≠ [] → joinD s (P ++ Q) = joinD s P ++ (s ++ joinD s Q)
  | [], h => absurd rfl h
  | [p], _ => by
    show joinD s (p :: Q) = _
    rw [join_cons hq]
    rfl
  | p :: q :: P, _ => by
    show joinD s (p :: (q :: P ++ Q)) = _
    rw [join_cons (by simp), join_app hq (P := q :: P) (by simp), join_cons (qs := q :: P) (by simp)]
    simp only [List.append_assoc]
theorem join_inf {s : List Nat} {w : List Nat} {ws : List (List Nat)} (h : w ∈ ws) : w <:+: joinD s ws := by
  obtain ⟨P, Q, rfl⟩ := List.append_of_mem h
  have h1 : w <:+: joinD s (w :: Q) := by
    cases Q with
    | nil => exact List.infix_refl w
    | cons q Q =>
      rw [join_cons (by simp)]
      exact ⟨[], s ++ joinD s (q :: Q), by simp⟩
  cases P with
  | nil => exact h1
  | cons p P =>
    rw [join_app (by simp) (by simp)]
    exact h1.trans ⟨joinD s (p :: P) ++ s, [], by simp⟩
def preP (P : List (List Nat)) : List Nat := if P = [] then [] else joinD [32] P ++ [32]
def sufQ (Q : List (List Nat)) : List Nat := if Q = [] then [] else 32 :: joinD [32] Q
theorem row_is (P Q : List (List Nat)) (w : List Nat) : joinD [32] (P ++ w :: Q) = preP P ++ w ++ sufQ Q := by
  have h1 : joinD [32] (w :: Q) = w ++ sufQ Q := by
    unfold sufQ
    cases Q with
    | nil =>
      rw [if_pos rfl, List.append_nil]
      rfl
    | cons q Q =>
      rw [if_neg (by simp), join_cons (by simp)]
      rfl
  unfold preP
  cases P with
  | nil =>
    rw [if_pos rfl, List.nil_append, h1]
    rfl
  | cons p P =>
    rw [if_neg (by simp), join_app (by simp) (by simp), h1]
    simp only [List.append_assoc]
theorem row_two (P Q : List (List Nat)) (w : List Nat) : joinD [32] (P ++ [w, w] ++ Q) = preP P ++ (w ++ 32 :: w) ++ sufQ Q := by
  have e : P ++ [w, w] ++ Q = (P ++ [w]) ++ w :: Q := by simp
  rw [e, row_is (P ++ [w]) Q w]
  have h : preP (P ++ [w]) = preP P ++ (w ++ [32]) := by
    have e1 : preP (P ++ [w]) = joinD [32] (P ++ w :: []) ++ [32] := by
      unfold preP
      rw [if_neg (by simp)]
    rw [e1, row_is P [] w]
    simp [sufQ]
  rw [h]
  simp
theorem row_none (P Q : List (List Nat)) : ∃ A B, joinD [32] (P ++ Q) = A ++ [] ++ B ∧ ∀ w, A <:+: joinD [32] (P ++ w :: Q) ∧ B <:+: joinD [32] (P ++ w :: Q) ∧ A.length + B.length ≤ (joinD [32] (P ++ w :: Q)).length := by
  have hi : ∀ w, (preP P <:+: joinD [32] (P ++ w :: Q) ∧ sufQ Q <:+: joinD [32] (P ++ w :: Q)) ∧ (preP P).length + (sufQ Q).length ≤ (joinD [32] (P ++ w :: Q)).length := fun w => by
    rw [row_is]
    refine ⟨⟨⟨[], w ++ sufQ Q, by simp⟩, ⟨preP P ++ w, [], by simp⟩⟩, ?_⟩
    simp only [List.length_append]
    omega
  by_cases hQ : Q = []
  · subst hQ
    by_cases hP : P = []
    · subst hP
      exact ⟨[], [], rfl, fun w => ⟨List.nil_infix, List.nil_infix, Nat.zero_le _⟩⟩
    · refine ⟨joinD [32] P, [], by simp, fun w => ?_⟩
      obtain ⟨⟨h1, _⟩, h3⟩ := hi w
      have e : preP P = joinD [32] P ++ [32] := if_neg hP
      rw [e] at h1 h3
      refine ⟨(show joinD [32] P <:+: joinD [32] P ++ [32] from ⟨[], [32], by simp⟩).trans h1, List.nil_infix, ?_⟩
      simp only [List.length_append, List.length_nil] at h3 ⊢
      omega
  · by_cases hP : P = []
    · subst hP
      refine ⟨[], joinD [32] Q, by simp, fun w => ?_⟩
      obtain ⟨⟨_, h2⟩, h3⟩ := hi w
      have e : sufQ Q = 32 :: joinD [32] Q := if_neg hQ
      rw [e] at h2 h3
      refine ⟨List.nil_infix, (show joinD [32] Q <:+: 32 :: joinD [32] Q from ⟨[32], [], by simp⟩).trans h2, ?_⟩
      simp only [List.length_cons, List.length_nil] at h3 ⊢
      omega
    · refine ⟨preP P, joinD [32] Q, ?_, fun w => ?_⟩
      · rw [join_app hQ hP]
        unfold preP
        rw [if_neg hP]
        simp
      · obtain ⟨⟨h1, h2⟩, h3⟩ := hi w
        have e : sufQ Q = 32 :: joinD [32] Q := if_neg hQ
        rw [e] at h2 h3
        refine ⟨h1, (show joinD [32] Q <:+: 32 :: joinD [32] Q from ⟨[32], [], by simp⟩).trans h2, ?_⟩
        simp only [List.length_cons] at h3
        omega
/-- many numbers one behind another -/
theorem run_is : ∀ {ws : List (List Nat)}, (∀ w ∈ ws, w ≠ [] ∧ ∀ c ∈ w, 48 ≤ c ∧ c ≤ 57) → Pn (sufQ ws) ∧ (sufQ ws).count 32 = ws.length ∧ (ws ≠ [] → ∃ r, sufQ ws = 32 :: r ∧ ∀ d q, r = d :: q → d ≠ 32)
  | [], _ => by
    have e : sufQ [] = [] := rfl
    rw [e]
    exact ⟨⟨fun c hc => (by cases hc), fun a b e => (by cases a <;> cases e)⟩, rfl, fun h => absurd rfl h⟩
  | w :: ws, h => by
    obtain ⟨hw, hd⟩ := h w (List.mem_cons_self ..)
    obtain ⟨ip, ic, ir⟩ := run_is (ws := ws) fun y hy => h y (List.mem_cons_of_mem _ hy)
    have e : sufQ (w :: ws) = 32 :: (w ++ sufQ ws) := by
      have := row_is [] ws w
      unfold sufQ at this ⊢
      rw [if_neg (by simp)]
      rw [show ([] : List (List Nat)) ++ w :: ws = w :: ws from rfl] at this
      rw [this]
      rfl
    have n32 : ∀ c ∈ w, c ≠ 32 := fun c hc q => by have := hd c hc; omega
    rw [e]
    refine ⟨⟨fun c hc => ?_, fun a b q => ?_⟩, ?_, fun _ => ⟨_, rfl, fun d q hq => ?_⟩⟩
    · rcases List.mem_cons.mp hc with rfl | hc
      · exact .inl rfl
      · rcases List.mem_append.mp hc with hc | hc
        · exact .inr (hd c hc)
        · exact ip.pu c hc
    · cases a with
      | nil =>
        have q2 : w ++ sufQ ws = 32 :: b := (List.cons.inj q).2
        cases w with
        | nil => exact hw rfl
        | cons c w => exact n32 c List.mem_cons_self (List.cons.inj q2).1
      | cons y a =>
        have q2 : w ++ sufQ ws = a ++ 32 :: 32 :: b := (List.cons.inj q).2
        rcases List.append_eq_append_iff.mp q2 with ⟨c, h1, h2⟩ | ⟨c, h1, h2⟩
        · exact ip.np c b h2
        · cases c with
          | nil => exact ip.np [] b h2.symm
          | cons d c =>
            have : d = 32 := (List.cons.inj h2).1.symm
            exact n32 d (by rw [h1]; simp) this
    · rw [List.count_cons_self, List.count_append, ic, List.count_eq_zero_of_not_mem (fun hc => n32 32 hc rfl)]
      simp
    · cases w with
      | nil => exact absurd rfl hw
      | cons c w =>
        have : c = d := (List.cons.inj hq).1
        rw [← this]
        exact n32 c List.mem_cons_self
theorem few_nums {N : Nat} {nm : List Nat} {r : List (List Nat)} {n : Nat} (h : Nu N (joinD [32] (nm :: r))) (hn : n ≤ r.length) (hd : ∀ w ∈ r.take n, w ≠ [] ∧ ∀ c ∈ w, 48 ≤ c ∧ c ≤ 57) : n ≤ N := by
  obtain ⟨p, c, _⟩ := run_is hd
  have i : sufQ (r.take n) <:+: joinD [32] (nm :: r) := by
    have e := row_is [] r nm
    rw [show ([] : List (List Nat)) ++ nm :: r = nm :: r from rfl] at e
    rw [e]
    have h2 : sufQ (r.take n) <+: sufQ r := by
      unfold sufQ
      by_cases q : r.take n = []
      · rw [if_pos q]
        exact List.nil_prefix
      · have rn : r ≠ [] := fun z => q (by rw [z]; simp)
        rw [if_neg q, if_neg rn]
        by_cases z : r.drop n = []
        · have : r.take n = r := by
            have := List.take_append_drop n r
            rw [z, List.append_nil] at this
            exact this
          rw [this]
          exact List.prefix_refl _
        · have := join_app (s := [32]) z q
          rw [List.take_append_drop] at this
          rw [this]
          exact ⟨[32] ++ joinD [32] (r.drop n), by simp⟩
    obtain ⟨b, hb⟩ := h2
    exact ⟨preP [] ++ nm, b, by simp [hb]⟩
  have := h _ i p
  rw [c, List.length_take] at this
  omega
structure T0 (t : List Nat) : Prop where
  ln : ∀ x, x <:+: t → 10 ∉ x → x.length ≤ 43
  hd : ∀ a b, t = a ++ 10 :: b → ∃ c d r, b = c :: d :: r ∧ ¬ Pu c ∧ ¬ Pu d
theorem T0.nu {t : List Nat} (h : T0 t) : Nu 22 t := fun x i p => by
  have := np_half p.np
  have := h.ln x i p.n10
  omega
theorem nu_first {t A s B m : List Nat} (h : T0 t) (e : t = A ++ s ++ B) (hs : s.length ≤ 2) (hm : Nu 1 m) : Nu 23 (A ++ m ++ B) := fun x i p => by
  have iA : A <:+: t := ⟨[], s ++ B, by rw [e]; simp⟩
  have iB : B <:+: t := ⟨A ++ s, [], by rw [e]; simp⟩
  rcases inf3 i with q | q | ⟨u, v, rfl, h1, h2⟩
  · exact Nat.le_trans (cnt2 (h.nu.inf iA) hm q p) (by omega)
  · exact Nat.le_trans (cnt2 hm (h.nu.inf iB) q p) (by omega)
  · have pu := p.inf (y := u) ⟨[], m ++ v, by simp⟩
    have pv := p.inf (y := v) ⟨u ++ m, [], by simp⟩
    have pm := hm m (List.infix_refl m) (p.inf ⟨u, v, by simp⟩)
    rw [List.count_append, List.count_append]
    obtain ⟨a0, rfl⟩ := h1
    obtain ⟨b0, rfl⟩ := h2
    by_cases hs10 : 10 ∈ s
    · have hv : v = [] := by
        obtain ⟨s1, s2, rfl⟩ := List.append_of_mem hs10
        simp only [List.length_append, List.length_cons] at hs
        obtain ⟨c, d, r, e2, nc, nd⟩ := h.hd (a0 ++ u ++ s1) (s2 ++ (v ++ b0)) (by rw [e]; simp)
        cases v with
        | nil => rfl
        | cons y v =>
          exfalso
          have py := pv.pu y List.mem_cons_self
          cases s2 with
          | nil =>
            have : y = c := (List.cons.inj e2).1
            exact nc (this ▸ py)
          | cons z s2 =>
            cases s2 with
            | nil =>
              have e3 := (List.cons.inj e2).2
              have : y = d := (List.cons.inj e3).1
              exact nd (this ▸ py)
            | cons z2 s2 =>
              simp only [List.length_cons] at hs
              omega
      subst hv
      have := h.nu u ⟨a0, s ++ (([] : List Nat) ++ b0), by rw [e]; simp⟩ pu
      simp only [List.count_nil]
      omega
    · have l := h.ln (u ++ s ++ v) ⟨a0, b0, by rw [e]; simp⟩ (fun z => by
        rcases List.mem_append.mp z with z | z
        · rcases List.mem_append.mp z with z | z
          · exact pu.n10 z
          · exact hs10 z
        · exact pv.n10 z)
      simp only [List.length_append] at l
      have := np_half pu.np
      have := np_half pv.np
      omega
def DeedA (t t' : List Nat) : Prop := ∃ A s B m, t = A ++ s ++ B ∧ t' = A ++ m ++ B ∧ s.length ≤ 2 ∧ Nu 1 m
def DeedR (r0 r : List Nat) : Prop := ∃ A m B, r = A ++ m ++ B ∧ A <:+: r0 ∧ B <:+: r0 ∧ A.length + B.length ≤ r0.length ∧ Nu 1 m
def DeedB (t t' : List Nat) : Prop := ∃ rs, t' = joinD [10] rs ∧ ∀ r ∈ rs, r ∈ splitC 10 t ∨ ∃ r0 ∈ splitC 10 t, DeedR r0 r
theorem row_inf {t r : List Nat} (h : r ∈ splitC 10 t) : r <:+: t := by
  have := join_inf (s := [10]) h
  rw [join_split] at this
  exact this
theorem deed_nu {N : Nat} {t t' : List Nat} (h : Nu N t) (d : DeedA t t' ∨ DeedB t t') : Nu (2 * N + 1) t' := by
  rcases d with ⟨A, s, B, m, e, rfl, _, hm⟩ | ⟨rs, rfl, hr⟩
  · exact nu_cut (h.inf ⟨[], s ++ B, by rw [e]; simp⟩) hm (h.inf ⟨A ++ s, [], by rw [e]; simp⟩)
  · refine nu_rows fun r hm => ?_
    rcases hr r hm with q | ⟨r0, q, A, m, B, rfl, iA, iB, _, hm⟩
    · exact (h.inf (row_inf q)).mono (by omega)
    · exact nu_cut (h.inf (iA.trans (row_inf q))) hm (h.inf (iB.trans (row_inf q)))
theorem deed_first {t t' : List Nat} (h : T0 t) (d : DeedA t t' ∨ DeedB t t') : Nu 23 t' := by
  rcases d with ⟨A, s, B, m, e, rfl, hs, hm⟩ | ⟨rs, rfl, hr⟩
  · exact nu_first h e hs hm
  · refine nu_rows fun r hm => ?_
    rcases hr r hm with q | ⟨r0, q, A, m, B, rfl, iA, iB, l, hm⟩
    · exact (h.nu.inf (row_inf q)).mono (by omega)
    · exact nu_cutL (Nat.le_trans l (h.ln r0 (row_inf q) (split_free q))) hm
theorem nu_short {m : List Nat} (h : m.length ≤ 2) : Nu 1 m := nu_len (by omega)
theorem nu_none {m : List Nat} (h : 32 ∉ m) : Nu 1 m := fun x i p => by
  rw [List.count_eq_zero_of_not_mem fun hc => h (i.subset hc)]
  exact Nat.zero_le _
theorem nu_dup {w : List Nat} (h : 32 ∉ w) : Nu 1 (w ++ 32 :: w) := fun x i p => by
  obtain ⟨a, b, e⟩ := i
  have h1 : (a ++ x ++ b).count 32 = 1 := by
    rw [e, List.count_append, List.count_cons_self, List.count_eq_zero_of_not_mem h]
  rw [List.count_append, List.count_append] at h1
  omega
theorem row_parts (P Q : List (List Nat)) (w : List Nat) : preP P <:+: joinD [32] (P ++ w :: Q) ∧ sufQ Q <:+: joinD [32] (P ++ w :: Q) ∧ (preP P).length + (sufQ Q).length ≤ (joinD [32] (P ++ w :: Q)).length := by
  rw [row_is]
  refine ⟨⟨[], w ++ sufQ Q, by simp⟩, ⟨preP P ++ w, [], by simp⟩, ?_⟩
  simp only [List.length_append]
  omega
/-- a word left out, told twice, another for it -/
theorem deed_word {P Q : List (List Nat)} {w : List Nat} (hw : 32 ∉ w) : DeedR (joinD [32] (P ++ w :: Q)) (joinD [32] (P ++ [] ++ Q)) ∧ DeedR (joinD [32] (P ++ w :: Q)) (joinD [32] (P ++ [w, w] ++ Q)) ∧
    ∀ o, 32 ∉ o → DeedR (joinD [32] (P ++ w :: Q)) (joinD [32] (P ++ [o] ++ Q)) := by
  obtain ⟨h1, h2, h3⟩ := row_parts P Q w
  refine ⟨?_, ⟨preP P, w ++ 32 :: w, sufQ Q, row_two P Q w, h1, h2, h3, nu_dup hw⟩, fun o ho => ⟨preP P, o, sufQ Q, ?_, h1, h2, h3, nu_none ho⟩⟩
  · obtain ⟨A, B, e, h⟩ := row_none P Q
    obtain ⟨q1, q2, q3⟩ := h w
    exact ⟨A, [], B, by rw [List.append_nil]; exact e, q1, q2, q3, nu_short (by simp)⟩
  · rw [List.append_assoc]
    exact row_is P Q o
end K17N
set_option maxRecDepth 100000
set_option maxHeartbeats 4000000
namespace K17
open AH PySem L2 TL
def manyV (nm : List Nat) : Option Int := match kGet kv_SHAPES nm with
  | some i => some i
  | none => kGet kv_ROAD nm
theorem kGet_mem : ∀ {kvs : Kvs} {c : List Nat} {i : Int}, kGet kvs c = some i → (c, i) ∈ kvs
  | [], c, i, h => by cases h
  | q :: r, c, i, h => by
    unfold kGet at h
    split at h
    · rename_i e
      cases h
      rw [← e]
      exact List.mem_cons_self
    · exact List.mem_cons_of_mem _ (kGet_mem h)
theorem many_is {nm : List Nat} {i : Int} (h : manyV nm = some i) : ∃ n : Nat, i = n ∧ n ≤ 4 ∧ (nm = pressL → n = 1) := by
  have key : ∀ q ∈ kv_SHAPES ++ kv_ROAD, 0 ≤ q.2 ∧ q.2 ≤ 4 ∧ (q.1 = pressL → q.2 = 1) := by decide
  have hm : (nm, i) ∈ kv_SHAPES ++ kv_ROAD := by
    unfold manyV at h
    split at h
    · rename_i j e
      cases h
      exact List.mem_append_left _ (kGet_mem e)
    · exact List.mem_append_right _ (kGet_mem h)
  obtain ⟨h1, h2, h3⟩ := key _ hm
  dsimp only at h1 h2 h3
  exact ⟨i.toNat, by omega, by omega, fun e => by have := h3 e; omega⟩
def numsV (r : List (List Nat)) (n : Nat) : List (Option Nat) := (r.take n).map numV
def stepN (nm : List Nat) (r : List (List Nat)) (n : Nat) : D := if r.length < n then .non else
  if (numsV r n).any Option.isNone = true then .non else
  if nm = pressL then (if 1 < r.length ∧ ∀ c ∈ joinD [32] (r.drop 1), c ∈ evL then .tup [.str pressL, ((numsV r n).map numD).headD .non, .str (joinD [32] (r.drop 1))] else .non)
  else if r.length = n then .tup (.str nm :: (numsV r n).map numD) else .non
def stepV (row : List Nat) : D := match splitC 32 row with
  | [] => .non
  | nm :: r => match manyV nm with
    | none => .non
    | some i => stepN nm r i.toNat
def numU : Option Nat → V
  | some n => .int n
  | none => .non
theorem flat_nums : ∀ os : List (Option Nat), flatDs (os.map numD) = some (os.map numU)
  | [] => rfl
  | o :: os => by
    have h := flat_nums os
    show (match flatD (numD o), flatDs (os.map numD) with
      | some p, some ps => some (p :: ps)
      | _, _ => none) = _
    rw [h]
    cases o <;> rfl
theorem inV_nums : ∀ os : List (Option Nat), inV .non (os.map numU) = os.any Option.isNone
  | [] => rfl
  | o :: os => by
    have h := inV_nums os
    simp only [List.map_cons, List.any_cons, ← h]
    cases o with
    | none => simp [inV, numU, Option.isNone, eqV]
    | some n => simp [inV, numU, Option.isNone, eqV]
theorem wo_inN {os : List (Option Nat)} {S : Sto} {P : D → Sto → Prop} (h : P (.bl (os.any Option.isNone)) S) : W (fIn false .non (.lst (os.map numD)) S) P := by
  refine ⟨_, _, ?_, h⟩
  show ((flatDs (os.map numD)).bind fun xs => some (D.bl (inV .non xs), S)) = _
  rw [flat_nums]
  show some (D.bl (inV .non (os.map numU)), S) = _
  rw [inV_nums]
theorem wo_inNT {os : List (Option Nat)} {S : Sto} {P : D → Sto → Prop} (h : P (.bl (os.any Option.isNone)) S) : W (fIn false .non (.tup (os.map numD)) S) P := by
  refine ⟨_, _, ?_, h⟩
  show ((flatDs (os.map numD)).bind fun xs => some (D.bl (inV .non xs), S)) = _
  rw [flat_nums]
  show some (D.bl (inV .non (os.map numU)), S) = _
  rw [inV_nums]
theorem mem_len {w : List Nat} : ∀ {ws : List (List Nat)}, w ∈ ws → w.length ≤ (ws.map (·.length)).sum
  | [], h => nomatch h
  | x :: ws, h => by
    rw [List.map_cons, List.sum_cons]
    rcases List.mem_cons.mp h with rfl | h
    · omega
    · have := mem_len h
      omega
theorem sd_sign {c : Nat} (h : c < 1114112) : Sd (.str [c]) := (sd_str (k := 0) fun x hx => by
  rw [List.mem_singleton] at hx
  rw [hx]
  exact h).sd (by decide)
theorem sum_drop1 : ∀ r : List (List Nat), ((r.drop 1).map (·.length)).sum ≤ (r.map (·.length)).sum
  | [] => Nat.le_refl _
  | x :: r => by
    rw [List.drop_succ_cons, List.drop_zero, List.map_cons, List.sum_cons]
    omega
theorem join_ok {s : List Nat} {ws : List (List Nat)} (hs : okS s) (h : ∀ w ∈ ws, okS w) : okS (joinD s ws) := fun c hc => by
  rcases join_mem hc with q | ⟨z, hz, q⟩
  · exact hs c q
  · exact h z hz c q
theorem we_many {a c : Ev} {ρ : Rho} {S : Sto} {nm : List Nat} {P : D → Sto → Prop} (ha : ∀ Q : D → Sto → Prop, Q (.str nm) S → W (a ρ S) Q) (hc : ∀ Q : D → Sto → Prop, Q .non S → W (c ρ S) Q) (k : P (match manyV nm with
    | some i => D.int i
    | none => .non) S) : W (eKGet2 kv_SHAPES a (eKGet2 kv_ROAD a c) ρ S) P := by
  refine we_kget (ha _ ?_)
  refine we_kget (ha _ (hc _ ⟨nm, rfl, nm, rfl, ?_⟩))
  unfold manyV at k
  cases e1 : kGet kv_SHAPES nm with
  | some i =>
    simp only [e1] at k
    exact k
  | none =>
    cases e2 : kGet kv_ROAD nm with
    | some i =>
      simp only [e1, e2] at k
      exact k
    | none =>
      simp only [e1, e2] at k
      exact k
/-- the program's step of a row -/
theorem stepX_w {row : List Nat} {S : Sto} (ho : okS row) (hl : row.length ≤ 100000) : W (F_step_of [.str row] S) fun o S' => o = .v (stepV row) ∧ S' = S := by
  have sm := sum_split (c := 32) row
  have wo : ∀ w ∈ splitC 32 row, okS w := fun w hw c hc => ho c (split_mem hw hc)
  obtain ⟨nm, r, ew⟩ : ∃ nm r, splitC 32 row = nm :: r := by
    cases e : splitC 32 row with
    | nil => exact absurd e (splitC_ne 32 row)
    | cons a b => exact ⟨a, b, rfl⟩
  have sv : stepV row = match manyV nm with
    | none => .non
    | some i => stepN nm r i.toNat := by
    unfold stepV
    rw [ew]
  rw [sv]
  rw [ew] at sm wo
  simp only [List.map_cons, List.sum_cons, List.length_cons] at sm
  refine w_run rfl ?_
  show WS (b_step_of [.val (.str _), .no, .no, .no, .no, .no, .no, .no] S) _
  unfold b_step_of
  fail "STEP"
  refine wo_split ⟨by decide, by omega⟩ ?_
  rw [ew]
  fail "STEP"
  refine we_many (nm := nm) (fun Q hQ => ?_) (fun Q hQ => ?_) ?_
  · fail "STEP"
    exact hQ
  · fail "STEP"
    exact hQ
  cases hm : manyV nm with
  | none =>
    dsimp only
    fail "STEP"
    exact ⟨rfl, rfl⟩
  | some i =>
    obtain ⟨n, rfl, hn4, hpr⟩ := many_is hm
    dsimp only
    fail "STEP"
    have e1 : ((List.map D.str (nm :: r)).length : Int) = (r.length : Int) + 1 := by simp
    rw [e1, Int.toNat_natCast]
    refine Br.d (fun z => ?_) (fun z => ?_)
    · fail "STEP"
      rw [stepN, if_pos (by omega)]
      exact ⟨rfl, rfl⟩
    have hrn : ¬ r.length < n := by omega
    fail "STEP"
    refine xl_lc ?_
    fail "STEP"
    have cc : cutL (List.map D.str (nm :: r)) (some 1) (some ((n : Int) + 1)) = (r.take n).map D.str := by
      show cutL (List.map D.str (nm :: r)) (some ((1 : Nat) : Int)) (some ((n + 1 : Nat) : Int)) = _
      rw [cut_mid, List.map_cons, List.drop_succ_cons, List.drop_zero, Nat.add_sub_cancel, List.map_take]
    rw [cc]
    refine xl_map (F := fun w => numD (numV w)) (fun w hw => ⟨_, rfl, ?_⟩) ?_
    · have hw := List.mem_of_mem_take hw
      have l1 := mem_len hw
      fail "STEP"
      refine (number_ok (by omega) (wo w (List.mem_cons_of_mem _ hw))).mono fun o S2 e => ?_
      obtain ⟨rfl, rfl⟩ := e
      exact ⟨rfl, rfl⟩
    refine ⟨by simp only [List.length_map, List.length_take]; omega, ?_⟩
    have e3 : (r.take n).map (fun w => numD (numV w)) = (numsV r n).map numD := by
      unfold numsV
      rw [List.map_map]
      rfl
    rw [e3]
    fail "STEP"
    refine wo_inN ?_
    fail "STEP"
    refine Br.b (fun z2 => ?_) (fun z2 => ?_)
    · fail "STEP"
      rw [stepN, if_neg hrn, if_pos z2]
      exact ⟨rfl, rfl⟩
    fail "STEP"
    rw [stepN, if_neg hrn, if_neg (by rw [z2]; decide)]
    refine Br.d (fun z3 => ?_) (fun z3 => ?_)
    · rw [if_pos z3]
      have n1 := hpr z3
      subst n1
      fail "STEP"
      have c2 : cutL (List.map D.str (nm :: r)) (some 2) none = (r.drop 1).map .str := by
        show cutL (List.map D.str (nm :: r)) (some ((2 : Nat) : Int)) none = _
        rw [cut_hi, List.map_cons, List.drop_succ_cons, List.map_drop]
      rw [c2]
      have sd1 := sum_drop1 r
      have ld : (r.drop 1).length ≤ r.length := by rw [List.length_drop]; omega
      have jl := join_len (s := [32]) (r.drop 1)
      have oj : okS (joinD [32] (r.drop 1)) := join_ok (fun c hc => by rw [List.mem_singleton] at hc; omega) fun w hw => wo w (List.mem_cons_of_mem _ (List.mem_of_mem_drop hw))
      simp only [List.length_singleton, Nat.mul_one] at jl
      refine wo_joinS (by simp only [List.length_singleton]; omega) ?_
      have jl2 : (joinD [32] (r.drop 1)).length ≤ 100000 := by omega
      generalize joinD [32] (r.drop 1) = sg at oj jl2 ⊢
      fail "STEP"
      rw [e1]
      refine Br.d (fun z4 => ?_) (fun z4 => ?_)
      · fail "STEP"
        refine wl_signs (A := evL) (fun c => rfl) (fun c => rfl) ?_
        fail "STEP"
        refine ⟨by omega, fun c => ?_, ?_⟩
        · fail "STEP"
          exact ⟨rfl, rfl⟩
        fail "STEP"
        refine wo_eqE (xs := (sg.filter fun c => !decide (c ∈ evL)).map fun c => D.str [c]) rfl (fun d hd => ?_) ?_
        · obtain ⟨c, hc, rfl⟩ := List.mem_map.mp hd
          exact sd_sign (oj c (List.mem_filter.mp hc).1)
        rw [List.isEmpty_map, filt_empty]
        fail "STEP"
        obtain ⟨w, r2, rfl⟩ : ∃ w r2, r = w :: r2 := by
          cases r with
          | nil => simp at z4
          | cons w r2 => exact ⟨w, r2, rfl⟩
        refine Br.d (fun z5 => ?_) (fun z5 => ?_)
        · rw [if_pos ⟨by simp only [List.length_cons] at z4 ⊢; omega, z5⟩]
          fail "STEP"
          exact ⟨rfl, rfl⟩
        · rw [if_neg (fun q => z5 q.2)]
          fail "STEP"
          exact ⟨rfl, rfl⟩
      · rw [if_neg (fun q => z4 (by omega))]
        fail "STEP"
        exact ⟨rfl, rfl⟩
    · rw [if_neg z3]
      fail "STEP"
      rw [e1]
      refine Br.d (fun z4 => ?_) (fun z4 => ?_)
      · rw [if_pos (by omega)]
        fail "STEP"
        refine wo_cat (by simp only [List.length_cons, List.length_nil, List.length_map, numsV, List.length_take]; omega) ?_
        fail "STEP"
        exact ⟨rfl, rfl⟩
      · rw [if_neg (fun q => z4 (by omega))]
        fail "STEP"
        exact ⟨rfl, rfl⟩
theorem decV_lt : ∀ (n : Nat) (w : List Nat), w.length = n → (∀ c ∈ w, c ∈ dg) → decV w < 10 ^ n
  | 0, w, h, _ => by
    cases w with
    | nil => exact Nat.one_pos
    | cons a b => cases h
  | n + 1, w, h, hd => by
    rcases List.eq_nil_or_concat w with e | ⟨u, c, e⟩
    · rw [e] at h
      cases h
    · rw [List.concat_eq_append] at e
      subst e
      simp only [List.length_append, List.length_singleton] at h
      have ih := decV_lt n u (by omega) fun x hx => hd x (List.mem_append_left _ hx)
      have hc : c ≤ 57 := (by decide : ∀ c ∈ dg, c ≤ 57) c (hd c (by simp))
      rw [decV_snoc, Nat.pow_succ]
      omega
/-- the law's number of a word -/
theorem lnum_w {S : Sto} {w : List Nat} (hl : w.length ≤ 16777216) (hw : okS w) : W (F__law_number [.str w] S) fun o S' => o = .v (numD (numV w)) ∧ S' = S := by
  refine w_run rfl ?_
  show WS (b__law_number [.val (.str w), .no] S) _
  unfold b__law_number
  have bad : ¬ ((1 ≤ w.length ∧ w.length ≤ 6) ∧ (∀ c ∈ w, c ∈ dg) ∧ (w.head? ≠ some 48 ∨ w = [48])) → numD (numV w) = .non := fun h => by
    unfold numV
    rw [if_neg h]
    rfl
  fail "OSTEP"
  refine wo_len hl ?_
  fail "OSTEP"
  refine ⟨fun z => ?_, fun z => ?_⟩
  · have z := of_decide_eq_false z
    fail "OSTEP"
    refine ⟨fun _ => ⟨fun _ => ?_, fun q => nomatch q⟩, fun q => nomatch q⟩
    fail "OSTEP"
    rw [bad (by omega)]
    exact ⟨rfl, rfl⟩
  have z1 := of_decide_eq_true z
  fail "OSTEP"
  refine ⟨fun z => ?_, fun z => ?_⟩
  · have z : decide ((w.length : Int) ≤ 6) = false := by simpa using z
    have z := of_decide_eq_false z
    refine ⟨fun _ => ?_, fun q => nomatch q⟩
    fail "OSTEP"
    rw [bad (by omega)]
    exact ⟨rfl, rfl⟩
  have z2 : decide ((w.length : Int) ≤ 6) = true := by simpa using z
  have z2 := of_decide_eq_true z2
  fail "OSTEP"
  refine wl_signs (A := dg) (fun c => rfl) (fun c => rfl) ?_
  fail "OSTEP"
  refine ⟨hl, fun c => ?_, ?_⟩
  · fail "OSTEP"
    exact ⟨rfl, rfl⟩
  fail "OSTEP"
  refine wo_neNil (okS_filter hw) ?_
  rw [filt_empty]
  fail "OSTEP"
  refine ⟨fun z => ?_, fun z => ?_⟩
  · have z : ¬ ∀ c ∈ w, c ∈ dg := fun q => by
      rw [decide_eq_true q] at z
      cases z
    fail "OSTEP"
    rw [bad fun q => z q.2.1]
    exact ⟨rfl, rfl⟩
  have z3 : ∀ c ∈ w, c ∈ dg := by
    by_cases q : ∀ c ∈ w, c ∈ dg
    · exact q
    · rw [decide_eq_false q] at z
      cases z
  have ne : w ≠ [] := fun e => by rw [e] at z1; simp at z1
  have al : allDig w = true ∧ w ≠ [] ∧ w.length ≤ 600 := by
    refine ⟨?_, ne, by omega⟩
    unfold allDig
    rw [List.all_eq_true]
    exact fun c hc => decide_eq_true (dg_iff.mp (z3 c hc))
  fail "OSTEP"
  have lt6 : decV w < 1000000 := by
    have := decV_lt w.length w rfl z3
    have h2 : 10 ^ w.length ≤ 10 ^ 6 := Nat.pow_le_pow_right (by decide) (by omega)
    omega
  refine wo_intS al ?_
  fail "OSTEP"
  refine wo_strI ⟨by omega, by omega⟩ ?_
  rw [Int.toNat_natCast]
  fail "OSTEP"
  refine ⟨fun e => ?_, fun e => ?_⟩
  · have e := of_decide_eq_true e
    fail "OSTEP"
    refine wo_intS al ?_
    fail "OSTEP"
    have nv : numV w = some (decV w) := by
      have := numV_num lt6
      rw [e] at this
      exact this
    rw [nv]
    exact ⟨rfl, rfl⟩
  · have e := of_decide_eq_false e
    fail "OSTEP"
    rw [bad fun q => e (num_of_dec w.length w rfl ne q.2.1 q.2.2)]
    exact ⟨rfl, rfl⟩
def shL : List (DK × D) := [(.s [99, 111, 109, 101], .int 4), (.s [112, 114, 101, 115, 115], .int 1), (.s [115, 105, 122, 101], .int 3), (.s [108, 101, 97, 118, 101], .int 1), (.s [103, 111, 110, 101], .int 1), (.s [98, 101, 97, 116], .int 0), (.s [115, 101, 110, 100], .int 0), (.s [115, 101, 116, 116, 108, 101], .int 0),
  (.s [99, 97, 114, 114, 121], .int 1), (.s [108, 111, 115, 101], .int 1), (.s [116, 119, 105, 99, 101], .int 1), (.s [99, 117, 116], .int 2)]
theorem dget_kv (nm : List Nat) : ∀ kvs : Kvs, dget (kvs.map fun q => (DK.s q.1, D.int q.2)) (.s nm) = (kGet kvs nm).map D.int
  | [] => rfl
  | q :: r => by
    have ih := dget_kv nm r
    unfold dget at ih ⊢
    rw [List.map_cons, List.find?_cons]
    unfold kGet
    by_cases h : q.1 = nm
    · simp [h]
    · have h2 : decide (DK.s q.1 = DK.s nm) = false := decide_eq_false fun e => h (DK.s.inj e)
      simp only [h2, if_neg h]
      exact ih
theorem kGet_app (nm : List Nat) : ∀ a b : Kvs, kGet (a ++ b) nm = match kGet a nm with
    | some i => some i
    | none => kGet b nm
  | [], b => rfl
  | q :: a, b => by
    have ih := kGet_app nm a b
    show (if q.1 = nm then some q.2 else kGet (a ++ b) nm) = match (if q.1 = nm then some q.2 else kGet a nm) with
      | some i => some i
      | none => kGet b nm
    by_cases h : q.1 = nm
    · rw [if_pos h, if_pos h]
    · rw [if_neg h, if_neg h]
      exact ih
def manyL (nm : List Nat) : Int := match manyV nm with
  | some i => i
  | none => 99
theorem sh_get (nm : List Nat) : (dget shL (.s nm)).getD (.int 99) = .int (manyL nm) := by
  have e : shL = (kv_SHAPES ++ kv_ROAD).map fun q => (DK.s q.1, D.int q.2) := rfl
  have e2 : kGet (kv_SHAPES ++ kv_ROAD) nm = manyV nm := by
    rw [kGet_app]
    unfold manyV
    cases kGet kv_SHAPES nm <;> rfl
  rw [e, dget_kv, e2]
  unfold manyL
  cases manyV nm <;> rfl
theorem sh_is (nm : List Nat) : ∃ n : Nat, manyL nm = n ∧ n ≤ 99 ∧ ((manyV nm = some (n : Int) ∧ n ≤ 4 ∧ (nm = pressL → n = 1)) ∨ (manyV nm = none ∧ n = 99 ∧ nm ≠ pressL)) := by
  unfold manyL
  cases h : manyV nm with
  | some i =>
    obtain ⟨n, rfl, h1, h2⟩ := many_is h
    exact ⟨n, rfl, by omega, .inl ⟨rfl, h1, h2⟩⟩
  | none => exact ⟨99, rfl, Nat.le_refl _, .inr ⟨rfl, rfl, fun e => by rw [e] at h; cases h⟩⟩
/-- the law's step of a row -/
theorem stepL_w {row : List Nat} {S : Sto} {A : Hm} (hs : Hs S A) (ho : okS row) (hl : row.length ≤ 100000) (hN : K17N.Nu 95 row) : W (F__law_step [.str row] S) fun o S' => o = .v (stepV row) ∧ ∃ B, Hs S' (B ++ A) := by
  have sm := sum_split (c := 32) row
  have wo : ∀ w ∈ splitC 32 row, okS w := fun w hw c hc => ho c (split_mem hw hc)
  obtain ⟨nm, r, ew⟩ : ∃ nm r, splitC 32 row = nm :: r := by
    cases e : splitC 32 row with
    | nil => exact absurd e (splitC_ne 32 row)
    | cons a b => exact ⟨a, b, rfl⟩
  have sv : stepV row = match manyV nm with
    | none => .non
    | some i => stepN nm r i.toNat := by
    unfold stepV
    rw [ew]
  rw [sv]
  rw [ew] at sm wo
  simp only [List.map_cons, List.sum_cons, List.length_cons] at sm
  refine w_run rfl ?_
  show WS (b__law_step [.val (.str _), .no, .no, .no, .no, .no, .no, .no, .no] S) _
  unfold b__law_step
  fail "STEP"
  refine xe_dm ?_
  fail "STEP"
  obtain ⟨l1, rfl⟩ : ∃ z, z = ln := ⟨_, rfl⟩
  refine xo_isDf hs List.mem_cons_self ?_
  fail "STEP"
  have hne : l1 ≠ ln := fun e => by
    have := hs.nd
    rw [e] at this
    simp at this
  refine xo_upd (kvs' := shL) hs (Ud.tl Ud.hd) List.mem_cons_self hne (by decide) rfl fun S hs => ?_
  fail "STEP"
  refine wo_split ⟨by decide, by omega⟩ ?_
  rw [ew]
  fail "STEP"
  refine xo_dget2 hs (by fail "MEM") rfl ?_
  rw [sh_get]
  obtain ⟨n, en, hn99, hc⟩ := sh_is nm
  rw [en]
  fail "STEP"
  refine xl_lc ?_
  fail "STEP"
  have cc : cutL (List.map D.str (nm :: r)) (some 1) (some ((n : Int) + 1)) = (r.take n).map D.str := by
    show cutL (List.map D.str (nm :: r)) (some ((1 : Nat) : Int)) (some ((n + 1 : Nat) : Int)) = _
    rw [cut_mid, List.map_cons, List.drop_succ_cons, List.drop_zero, Nat.add_sub_cancel, List.map_take]
  rw [cc]
  refine xl_map (F := fun w => numD (numV w)) (fun w hw => ⟨_, rfl, ?_⟩) ?_
  · have hw := List.mem_of_mem_take hw
    have l1 := mem_len hw
    fail "STEP"
    refine (lnum_w (by omega) (wo w (List.mem_cons_of_mem _ hw))).mono fun o S2 e => ?_
    obtain ⟨rfl, rfl⟩ := e
    exact ⟨rfl, rfl⟩
  refine ⟨by simp only [List.length_map, List.length_take]; omega, ?_⟩
  have e3 : (r.take n).map (fun w => numD (numV w)) = (numsV r n).map numD := by
    unfold numsV
    rw [List.map_map]
    rfl
  rw [e3]
  have ln3 : ((numsV r n).map numD).length = min n r.length := by simp [numsV]
  fail "STEP"
  have fin : ∃ B, Hs S (B ++ A) := ⟨[_, _], hs⟩
  clear hs
  have rj : row = joinD [32] (nm :: r) := by
    have := join_split (c := 32) row
    rw [ew] at this
    exact this.symm
  have short : r.length < n → (match manyV nm with
    | none => D.non
    | some i => stepN nm r i.toNat) = .non := fun h => by
    rcases hc with ⟨e, _, _⟩ | ⟨e, _, _⟩
    · rw [e]
      show stepN nm r ((n : Int)).toNat = _
      rw [Int.toNat_natCast, stepN, if_pos h]
    · rw [e]
  refine Br.d (fun z => ?_) (fun z => ?_)
  · have hrn : n ≤ r.length := by
      rw [ln3] at z
      omega
    fail "STEP"
    refine wo_inNT ?_
    fail "STEP"
    refine Br.b (fun z2 => ?_) (fun z2 => ?_)
    · have e9 : (match manyV nm with
        | none => D.non
        | some i => stepN nm r i.toNat) = .non := by
        rcases hc with ⟨e, _, _⟩ | ⟨e, _, _⟩
        · rw [e]
          show stepN nm r ((n : Int)).toNat = _
          rw [Int.toNat_natCast, stepN, if_neg (by omega), if_pos z2]
        · rw [e]
      rw [e9]
      fail "STEP"
      exact ⟨rfl, fin⟩
    rcases hc with ⟨em, h4, hpr⟩ | ⟨em, rfl, hnp⟩
    · have e9 : (match manyV nm with
        | none => D.non
        | some i => stepN nm r i.toNat) = stepN nm r n := by
        rw [em]
        show stepN nm r ((n : Int)).toNat = _
        rw [Int.toNat_natCast]
      have e1 : ((List.map D.str (nm :: r)).length : Int) = (r.length : Int) + 1 := by simp
      rw [e9, stepN, if_neg (by omega), if_neg (by rw [z2]; decide)]
      fail "STEP"
      refine Br.d (fun z3 => ?_) (fun z3 => ?_)
      · rw [if_pos z3]
        have n1 := hpr z3
        subst n1
        obtain ⟨w, r2, rfl⟩ : ∃ w r2, r = w :: r2 := by
          cases r with
          | nil => simp at hrn
          | cons w r2 => exact ⟨w, r2, rfl⟩
        have lw := sm
        simp only [List.map_cons, List.sum_cons, List.length_cons] at lw
        fail "STEP"
        have e6 : cutL row (some ((nm.length : Int) + w.length + 2)) none = joinD [32] r2 := by
          show cutL row (some ((nm.length + w.length + 2 : Nat) : Int)) none = _
          rw [cut_hi, rj]
          cases r2 with
          | nil =>
            rw [join_cons (by simp)]
            show List.drop _ (nm ++ ([32] ++ w)) = []
            rw [List.drop_eq_nil_iff]
            simp only [List.length_append, List.length_singleton]
            omega
          | cons y r2 =>
            rw [join_cons (by simp), join_cons (by simp)]
            have : nm ++ ([32] ++ (w ++ ([32] ++ joinD [32] (y :: r2)))) = (nm ++ [32] ++ w ++ [32]) ++ joinD [32] (y :: r2) := by simp
            rw [this, List.drop_left' (by simp only [List.length_append, List.length_singleton]; omega)]
        rw [e6]
        have oj : okS (joinD [32] r2) := join_ok (fun c hc => by rw [List.mem_singleton] at hc; omega) fun y hy => wo y (List.mem_cons_of_mem _ (List.mem_cons_of_mem _ hy))
        have jl := join_len (s := [32]) r2
        simp only [List.length_singleton, Nat.mul_one] at jl
        have jl2 : (joinD [32] r2).length ≤ 100000 := by omega
        rw [List.drop_succ_cons, List.drop_zero]
        generalize joinD [32] r2 = sg at oj jl2 ⊢
        fail "STEP"
        rw [e1]
        refine Br.d (fun z4 => ?_) (fun z4 => ?_)
        · rw [if_neg (fun q => by simp only [List.length_cons] at z4 q; omega)]
          fail "STEP"
          exact ⟨rfl, fin⟩
        · fail "STEP"
          refine wl_signs (A := evL) (fun c => rfl) (fun c => rfl) ?_
          fail "STEP"
          refine ⟨by omega, fun c => ?_, ?_⟩
          · fail "STEP"
            exact ⟨rfl, rfl⟩
          fail "STEP"
          refine wo_neNil (okS_filter oj) ?_
          rw [filt_empty]
          fail "STEP"
          refine Br.d (fun z5 => ?_) (fun z5 => ?_)
          · rw [if_pos ⟨by simp only [List.length_cons] at z4 ⊢; omega, z5⟩]
            fail "STEP"
            exact ⟨rfl, fin⟩
          · rw [if_neg (fun q => z5 q.2)]
            fail "STEP"
            exact ⟨rfl, fin⟩
      · rw [if_neg z3]
        fail "STEP"
        rw [e1]
        refine Br.d (fun z4 => ?_) (fun z4 => ?_)
        · rw [if_pos (by omega)]
          fail "STEP"
          refine wo_addT ⟨rfl, by simp only [List.length_cons, List.length_nil, ln3]; omega⟩ ?_
          fail "STEP"
          exact ⟨rfl, fin⟩
        · rw [if_neg (fun q => z4 (by omega))]
          fail "STEP"
          exact ⟨rfl, fin⟩
    · exfalso
      have := K17N.few_nums (N := 95) (nm := nm) (r := r) (n := 99) (by rw [← rj]; exact hN) hrn fun w hw => by
        have hne : numV w ≠ none := fun e => by
          have : (numsV r 99).any Option.isNone = true := List.any_eq_true.mpr ⟨none, List.mem_map.mpr ⟨w, hw, e⟩, rfl⟩
          rw [z2] at this
          cases this
        unfold numV at hne
        split at hne
        · rename_i q
          exact ⟨fun e => by rw [e] at q; simp at q, fun c hc => dg_iff.mp (q.2.1 c hc)⟩
        · exact absurd rfl hne
      omega
  · rw [short (by rw [ln3] at z; omega)]
    fail "STEP"
    exact ⟨rfl, fin⟩
end K17
set_option maxRecDepth 100000
set_option maxHeartbeats 4000000
namespace K17
open AH PySem L2 TL K17N
def everyL : List Nat := [48, 49, 50, 51, 52, 53, 54, 55, 56, 57, 32, 10, 97, 98, 99, 100, 101, 102, 103, 104, 105, 106, 107, 108, 109, 110, 111, 112, 113, 114, 115, 116, 117, 118, 119, 120, 121, 122, 60, 59, 33, 35, 36, 38, 39, 40, 41, 42, 43, 44, 45, 46, 47, 58, 61, 62, 63, 64, 65, 66, 67, 68, 69, 70, 71, 72, 73, 74, 75, 76, 77, 78, 79, 80, 81, 82, 83, 84, 85, 86, 87, 88, 89, 90, 91, 93, 94, 95, 123, 124, 125, 126]
theorem every_lt : ∀ c ∈ everyL, c < 1114112 := by decide
structure Dd (t t' : List Nat) : Prop where
  ok : okS t'
  ln : t'.length ≤ 2 * t.length + 30
  d : DeedA t t' ∨ DeedB t t'
theorem ok_app {a b : List Nat} (ha : okS a) (hb : okS b) : okS (a ++ b) := fun c hc => by
  rcases List.mem_append.mp hc with h | h
  · exact ha c h
  · exact hb c h
theorem ok_take {a : List Nat} (n : Nat) (ha : okS a) : okS (a.take n) := fun c hc => ha c (List.mem_of_mem_take hc)
theorem ok_drop {a : List Nat} (n : Nat) (ha : okS a) : okS (a.drop n) := fun c hc => ha c (List.mem_of_mem_drop hc)
theorem deedA {t m : List Nat} {p q : Nat} (h1 : p ≤ q) (h2 : q ≤ p + 2) (hm : m.length ≤ 2) (ho : okS t) (hmo : okS m) : Dd t (t.take p ++ m ++ t.drop q) := by
  refine ⟨ok_app (ok_app (ok_take _ ho) hmo) (ok_drop _ ho), ?_, .inl ⟨t.take p, (t.drop p).take (q - p), t.drop q, m, ?_, rfl, ?_, nu_short hm⟩⟩
  · simp only [List.length_append, List.length_take, List.length_drop]
    omega
  · rw [List.append_assoc]
    have e : t.drop q = (t.drop p).drop (q - p) := by rw [List.drop_drop]; congr 1; omega
    rw [e, List.take_append_drop, List.take_append_drop]
  · rw [List.length_take]
    omega
theorem sum_cut {R : List (List Nat)} {k : Nat} (hk : k < R.length) : ((R.take k).map (·.length)).sum + ((R.drop (k + 1)).map (·.length)).sum + (R[k]).length = (R.map (·.length)).sum := by
  have e : R = R.take k ++ R[k] :: R.drop (k + 1) := by
    rw [← List.drop_eq_getElem_cons hk, List.take_append_drop]
  have e2 := congrArg (fun q : List (List Nat) => (q.map (·.length)).sum) e
  simp only [List.map_append, List.map_cons, List.sum_append, List.sum_cons] at e2
  omega
theorem rows_deed {t : List Nat} {k : Nat} {X : List (List Nat)} (ho : okS t) (hk : k < (splitC 10 t).length) (hX : ∀ x ∈ X, okS x ∧ (x ∈ splitC 10 t ∨ ∃ r0 ∈ splitC 10 t, DeedR r0 x)) (hl : (X.map (·.length)).sum + X.length ≤ (splitC 10 t)[k].length + t.length + 25) : Dd t (joinD [10] ((splitC 10 t).take k ++ X ++ (splitC 10 t).drop (k + 1))) := by
  have sm := sum_split (c := 10) t
  have sc := sum_cut hk
  have rk : ∀ r ∈ splitC 10 t, okS r := fun r hr c hc => ho c (split_mem hr hc)
  have mem : ∀ r ∈ (splitC 10 t).take k ++ X ++ (splitC 10 t).drop (k + 1), r ∈ splitC 10 t ∨ r ∈ X := fun r hr => by
    rcases List.mem_append.mp hr with q | q
    · rcases List.mem_append.mp q with q | q
      · exact .inl (List.mem_of_mem_take q)
      · exact .inr q
    · exact .inl (List.mem_of_mem_drop q)
  refine ⟨join_ok (fun c hc => by rw [List.mem_singleton] at hc; omega) fun r hr => ?_, ?_, .inr ⟨_, rfl, fun r hr => ?_⟩⟩
  · rcases mem r hr with q | q
    · exact rk r q
    · exact (hX r q).1
  · have jl := join_len (s := [10]) ((splitC 10 t).take k ++ X ++ (splitC 10 t).drop (k + 1))
    have l1 : ((splitC 10 t).take k).length = k := by rw [List.length_take]; omega
    have l2 : ((splitC 10 t).drop (k + 1)).length = (splitC 10 t).length - (k + 1) := List.length_drop
    simp only [List.map_append, List.sum_append, List.length_append, List.length_singleton, Nat.mul_one] at jl
    omega
  · rcases mem r hr with q | q
    · exact .inl q
    · exact (hX r q).2
theorem wo_rep {S : Sto} {ds : List D} {n : Int} {P : List D → Sto → Prop} (l : 0 ≤ n ∧ n ≤ 10 ∧ ds.length ≤ 100000) (h : P (List.replicate n.toNat ds).flatten S) : W (fRep (.lst ds) (.int n) S) P := by
  refine ⟨_, _, ?_, h⟩
  show (if -1000000 ≤ n ∧ n ≤ 1000000 ∧ ds.length * n.toNat ≤ sizeLine then some ((List.replicate n.toNat ds).flatten, S) else none) = _
  rw [if_pos]
  refine ⟨by omega, by omega, ?_⟩
  rw [sizeLine_eq]
  have : ds.length * n.toNat ≤ 100000 * 10 := Nat.mul_le_mul l.2.2 (by omega)
  omega
theorem join_rows {S : Sto} {t : List Nat} {k : Nat} {X : List (List Nat)} {P : D → Sto → Prop} (hk : k < (splitC 10 t).length) (ht : t.length ≤ 20000) (hl : (X.map (·.length)).sum + X.length ≤ (splitC 10 t)[k].length + t.length + 25) (h : P (.str (joinD [10] ((splitC 10 t).take k ++ X ++ (splitC 10 t).drop (k + 1)))) S) :
    W (fJoin (.str [10]) [.lst (((splitC 10 t).take k).map .str ++ X.map .str ++ ((splitC 10 t).drop (k + 1)).map .str)] S) P := by
  have sm := sum_split (c := 10) t
  have sc := sum_cut hk
  have l1 : ((splitC 10 t).take k).length = k := by rw [List.length_take]; omega
  have l2 : ((splitC 10 t).drop (k + 1)).length = (splitC 10 t).length - (k + 1) := List.length_drop
  rw [← List.map_append, ← List.map_append]
  refine wo_joinS ?_ h
  simp only [List.map_append, List.sum_append, List.length_append, List.length_singleton, Nat.mul_one]
  omega
theorem spoilt_w {S : Sto} {l m : Nat} {t : List Nat} (bx : Box S l m) (ho : okS t) (hl : t.length ≤ 20000) : W (F__law_spoilt [.ref l, .str t] S) fun o S' => ∃ t', o = .v (.str t') ∧ Dd t t' ∧ Bx l m S S' := by
  refine w_run rfl ?_
  show WS (b__law_spoilt [.val (.ref l), .val (.str t), .no, .no, .no, .no, .no, .no, .no, .no, .no, .no] S) _
  unfold b__law_spoilt
  fail "STEP"
  refine (draw_nat (n := 9) bx (by omega) (by omega)).mono fun o S1 e => ?_
  obtain ⟨de, rfl, hde, b1⟩ := e
  fail "STEP"
  refine (draw_nat (n := t.length + 1) b1.box (by omega) (by omega)).mono fun o S2 e => ?_
  obtain ⟨pl, rfl, hpl, b2⟩ := e
  fail "STEP"
  refine (draw_nat (n := 2) b2.box (by omega) (by omega)).mono fun o S3 e => ?_
  obtain ⟨r3, rfl, hr3, b3⟩ := e
  fail "STEP"
  have h11 : ∃ y : Nat, [D.int 14, .int 92][r3]? = some (.int y) ∧ 0 < y ∧ y ≤ 92 := by
    have : r3 = 0 ∨ r3 = 1 := by omega
    rcases this with rfl | rfl
    · exact ⟨14, rfl, by omega, by omega⟩
    · exact ⟨92, rfl, by omega, by omega⟩
  obtain ⟨y, hy, ly0, ly⟩ := h11
  refine wo_ixL (by omega) (by rw [Int.toNat_natCast]; exact hy) ?_
  fail "STEP"
  refine (draw_nat (n := y) b3.box ly0 (by omega)).mono fun o S4 e => ?_
  obtain ⟨r4, rfl, hr4, b4⟩ := e
  fail "STEP"
  have lt92 : r4 < everyL.length := by
    have : everyL.length = 92 := rfl
    omega
  refine wo_ixS (c := everyL[r4]) (by decide) (by omega) (by rw [Int.toNat_natCast]; exact List.getElem?_eq_getElem lt92) ?_
  have hc4 : everyL[r4] < 1114112 := every_lt _ (List.getElem_mem _)
  generalize everyL[r4] = c4 at hc4
  fail "STAY"
  refine xs_cut (fun ρ S' => S' = S4 ∧ ∃ m : List Nat, m.length ≤ 1 ∧ okS m ∧ ρ = [.val (.ref l), .val (.str t), .val (.int de), .val (.int pl), .val (.str everyL), .val (.str m), .no, .no, .no, .no, .no, .no]) ?_ ?_
  · fail "STEP"
    refine Br.d (fun z => ?_) (fun z => ?_)
    · fail "STEP"
      exact ⟨rfl, rfl, [], by simp, (fun c hc => nomatch hc), rfl⟩
    · fail "STEP"
      exact ⟨rfl, rfl, [c4], by simp, (fun c hc => by rw [List.mem_singleton] at hc; omega), rfl⟩
  rintro ρ S' ⟨rfl, mk, hmk, hmo, rfl⟩
  fail "STEP"
  have cl : cutL t none (some (pl : Int)) = t.take pl := cut_lo _ _
  refine Br.d (fun z => ?_) (fun z => ?_)
  · fail "STEP"
    rw [cl]
    fail "STEP"
    have e1 : (pl : Int) + (if decide ((0 : Int) < de) = true then 1 else 0) = ((pl + (if 0 < de then 1 else 0) : Nat) : Int) := by
      by_cases q : 0 < de
      · rw [if_pos q, if_pos (by simpa using q)]
        omega
      · rw [if_neg q, if_neg (by simpa using q)]
        omega
    rw [e1, cut_hi]
    fail "STEP"
    refine ⟨deedA (p := pl) (q := pl + (if 0 < de then 1 else 0)) (m := mk) (by omega) (by split <;> omega) (by omega) ho hmo, ((b1.trans b2).trans b3).trans b4⟩
  fail "STEP"
  refine Br.d (fun z3 => ?_) (fun z3 => ?_)
  · fail "STEP"
    have c2 : cutL t (some (pl : Int)) (some ((pl : Int) + 2)) = (t.drop pl).take 2 := by
      have := cut_mid t pl (pl + 2)
      rw [show pl + 2 - pl = 2 by omega] at this
      exact this
    rw [c2]
    refine wo_rev (by simp only [List.length_take]; omega) ?_
    fail "STEP"
    rw [cl]
    fail "STEP"
    rw [show (pl : Int) + 2 = ((pl + 2 : Nat) : Int) from rfl, cut_hi]
    fail "STEP"
    refine ⟨deedA (p := pl) (q := pl + 2) (m := ((t.drop pl).take 2).reverse) (by omega) (by omega) (by simp only [List.length_reverse, List.length_take]; omega) ho (fun c hc => ho c ?_), ((b1.trans b2).trans b3).trans b4⟩
    exact List.mem_of_mem_drop (List.mem_of_mem_take (List.mem_reverse.mp hc))
  fail "STEP"
  refine wo_split ⟨by decide, by omega⟩ ?_
  have sm := sum_split (c := 10) t
  have rne := splitC_ne 10 t
  have rl : 0 < (splitC 10 t).length := List.length_pos_iff.mpr rne
  fail "STEP"
  rw [List.length_map]
  refine (draw_nat (n := (splitC 10 t).length) b4.box rl (by omega)).mono fun o S5 e => ?_
  obtain ⟨k, rfl, hk, b5⟩ := e
  have bx5 := (((b1.trans b2).trans b3).trans b4).trans b5
  fail "STEP"
  have q1 : cutL (List.map D.str (splitC 10 t)) none (some (k : Int)) = ((splitC 10 t).take k).map D.str := by rw [cut_lo, List.map_take]
  have q2 : cutL (List.map D.str (splitC 10 t)) (some (k : Int)) (some ((k : Int) + 1)) = [D.str (splitC 10 t)[k]] := by
    have := cut_mid (List.map D.str (splitC 10 t)) k (k + 1)
    rw [show k + 1 - k = 1 by omega] at this
    rw [show (k : Int) + 1 = ((k + 1 : Nat) : Int) from rfl, this, List.drop_eq_getElem_cons (by rw [List.length_map]; exact hk), List.getElem_map]
    rfl
  have q3 : cutL (List.map D.str (splitC 10 t)) (some ((k : Int) + 1)) none = ((splitC 10 t).drop (k + 1)).map D.str := by
    rw [show (k : Int) + 1 = ((k + 1 : Nat) : Int) from rfl, cut_hi, List.map_drop]
  have sc := sum_cut hk
  have rm : (splitC 10 t)[k] ∈ splitC 10 t := List.getElem_mem _
  have ro : ∀ r ∈ splitC 10 t, okS r := fun r hr c hc => ho c (split_mem hr hc)
  refine Br.d (fun z6 => ?_) (fun z6 => ?_)
  · have hn : ∃ n : Nat, [D.int 0, .int 2][de - 4]? = some (.int n) ∧ (n = 0 ∨ n = 2) := by
      have : de = 4 ∨ de = 5 := by omega
      rcases this with rfl | rfl
      · exact ⟨0, rfl, .inl rfl⟩
      · exact ⟨2, rfl, .inr rfl⟩
    obtain ⟨n, en, hn⟩ := hn
    fail "STEP"
    refine wo_ixL (by omega) (by rw [show ((de : Int) - 4).toNat = de - 4 by omega]; exact en) ?_
    rw [q2]
    refine wo_rep ⟨by omega, by omega, by simp⟩ ?_
    rw [q1]
    have el : (List.replicate ((n : Int)).toNat [D.str (splitC 10 t)[k]]).flatten = (List.replicate n (splitC 10 t)[k]).map D.str := by
      rcases hn with rfl | rfl <;> rfl
    rw [el]
    refine wo_cat (by simp only [List.length_map, List.length_take, List.length_replicate]; omega) ?_
    fail "STEP"
    rw [q3]
    refine wo_cat (by simp only [List.length_map, List.length_append, List.length_take, List.length_drop, List.length_replicate]; omega) ?_
    have rl2 := split_len rm
    have hl25 : ((List.replicate n (splitC 10 t)[k]).map (·.length)).sum + (List.replicate n (splitC 10 t)[k]).length ≤ (splitC 10 t)[k].length + t.length + 25 := by
      rcases hn with rfl | rfl
      · simp
      · simp [List.replicate]
        omega
    refine join_rows hk hl hl25 ?_
    fail "STEP"
    refine ⟨rows_deed ho hk (fun x hx => ?_) hl25, bx5⟩
    rw [(List.mem_replicate.mp hx).2]
    exact ⟨ro _ rm, .inl rm⟩
  · obtain ⟨row, hrow⟩ : ∃ row, (splitC 10 t)[k]? = some row := ⟨_, List.getElem?_eq_getElem hk⟩
    have erow : (splitC 10 t)[k] = row := (List.getElem?_eq_some_iff.mp hrow).2
    rw [erow] at rm sc
    have rl2 := split_len rm
    have eX : ∀ (row' : List Nat), row'.length ≤ row.length + t.length + 24 → (([row'].map (·.length)).sum + [row'].length ≤ (splitC 10 t)[k].length + t.length + 25) := fun row' h => by rw [erow]; simp; omega
    fail "STEP"
    refine wo_ixL (d := .str row) (by omega) (by rw [Int.toNat_natCast, List.getElem?_map, hrow]; rfl) ?_
    fail "STEP"
    refine wo_split ⟨by decide, by omega⟩ ?_
    have smw := sum_split (c := 32) row
    have wne := splitC_ne 32 row
    have wl : 0 < (splitC 32 row).length := List.length_pos_iff.mpr wne
    have jnw := join_split (c := 32) row
    have w32 : ∀ w ∈ splitC 32 row, (32 : Nat) ∉ w := fun w hw => split_free hw
    have wok : ∀ w ∈ splitC 32 row, okS w := fun w hw c hc => ro row rm c (split_mem hw hc)
    have wln : ∀ w ∈ splitC 32 row, w.length ≤ row.length := fun w hw => split_len hw
    generalize splitC 32 row = ws at *
    fail "STEP"
    rw [List.length_map]
    refine (draw_nat (n := ws.length) b5.box wl (by omega)).mono fun o S6 e => ?_
    obtain ⟨j, rfl, hj, b6⟩ := e
    obtain ⟨w, hw⟩ : ∃ w, ws[j]? = some w := ⟨_, List.getElem?_eq_getElem hj⟩
    have ew : ws[j] = w := (List.getElem?_eq_some_iff.mp hw).2
    have wm := List.mem_of_getElem? hw
    fail "STEP"
    refine wo_ixL (d := .str w) (by omega) (by rw [Int.toNat_natCast, List.getElem?_map, hw]; rfl) ?_
    fail "STEP"
    refine wo_rep ⟨by omega, by omega, by simp⟩ ?_
    fail "STEP"
    refine (draw_nat (n := 15) b6.box (by omega) (by omega)).mono fun o S7 e => ?_
    obtain ⟨r7, rfl, hr7, b7⟩ := e
    obtain ⟨od, hod, hod1, hod2, hod3⟩ : ∃ od : List Nat, ([D.str [], D.str [48], D.str [48, 48], D.str [48, 55], D.str [57, 57, 57, 57, 57, 57],
        D.str [49, 48, 48, 48, 48, 48, 48], D.str [45, 49], D.str [99, 111, 109, 101],
        D.str [112, 114, 101, 115, 115], D.str [115, 101, 116, 116, 108, 101], D.str [83, 101, 110, 100],
        D.str [99, 97, 114, 114, 121]] ++ [D.str [99, 117, 116], D.str [115, 105, 122, 101], D.str [120]])[r7]? = some (.str od) ∧ 32 ∉ od ∧ okS od ∧ od.length ≤ 7 := by
      have : r7 = 0 ∨ r7 = 1 ∨ r7 = 2 ∨ r7 = 3 ∨ r7 = 4 ∨ r7 = 5 ∨ r7 = 6 ∨ r7 = 7 ∨ r7 = 8 ∨ r7 = 9 ∨ r7 = 10 ∨ r7 = 11 ∨ r7 = 12 ∨ r7 = 13 ∨ r7 = 14 := by omega
      rcases this with rfl | rfl | rfl | rfl | rfl | rfl | rfl | rfl | rfl | rfl | rfl | rfl | rfl | rfl | rfl <;> exact ⟨_, rfl, by decide, by unfold okS; decide, by decide⟩
    refine wo_ixL (d := .str od) (by omega) (by rw [Int.toNat_natCast]; exact hod) ?_
    fail "STEP"
    obtain ⟨Y, hY, hY1⟩ : ∃ Y : List (List Nat), [D.lst [], D.lst (List.replicate (Int.toNat 2) [D.str w]).flatten, D.lst [D.str od]][de - 6]? = some (.lst (Y.map D.str)) ∧ (Y = [] ∨ Y = [w, w] ∨ Y = [od]) := by
      have : de = 6 ∨ de = 7 ∨ de = 8 := by omega
      rcases this with rfl | rfl | rfl
      · exact ⟨[], rfl, .inl rfl⟩
      · exact ⟨[w, w], rfl, .inr (.inl rfl)⟩
      · exact ⟨[od], rfl, .inr (.inr rfl)⟩
    refine wo_ixL (d := .lst (Y.map D.str)) (by omega) (by rw [show ((de : Int) - 6).toNat = de - 6 by omega]; exact hY) ?_
    rw [cut_lo, ← List.map_take]
    have yl : Y.length ≤ 2 := by rcases hY1 with rfl | rfl | rfl <;> simp
    refine wo_cat (by simp only [List.length_map, List.length_take]; omega) ?_
    fail "STEP"
    rw [show (j : Int) + 1 = ((j + 1 : Nat) : Int) from rfl, cut_hi, ← List.map_drop]
    refine wo_cat (by simp only [List.length_map, List.length_append, List.length_take, List.length_drop]; omega) ?_
    fail "STEP"
    rw [q1, ← List.map_append, ← List.map_append]
    have scw := sum_cut hj
    rw [ew] at scw
    have lw := wln w wm
    have sumY : (Y.map (·.length)).sum ≤ 2 * w.length + 7 := by rcases hY1 with rfl | rfl | rfl <;> simp <;> omega
    have tj : (ws.take j).length = j := by rw [List.length_take]; omega
    have dj : (ws.drop (j + 1)).length = ws.length - (j + 1) := List.length_drop
    have jl := join_len (s := [32]) (ws.take j ++ Y ++ ws.drop (j + 1))
    simp only [List.map_append, List.sum_append, List.length_append, List.length_singleton, Nat.mul_one] at jl
    have deed : DeedR row (joinD [32] (ws.take j ++ Y ++ ws.drop (j + 1))) := by
      have e : row = joinD [32] (ws.take j ++ w :: ws.drop (j + 1)) := by
        rw [← jnw]
        congr 1
        rw [← ew, ← List.drop_eq_getElem_cons hj, List.take_append_drop]
      obtain ⟨d1, d2, d3⟩ := deed_word (P := ws.take j) (Q := ws.drop (j + 1)) (w32 w wm)
      rw [e]
      rcases hY1 with rfl | rfl | rfl
      · exact d1
      · exact d2
      · exact d3 od hod1
    have jok : okS (joinD [32] (ws.take j ++ Y ++ ws.drop (j + 1))) := join_ok (fun c hc => by rw [List.mem_singleton] at hc; omega) fun y hy => by
      rcases List.mem_append.mp hy with q | q
      · rcases List.mem_append.mp q with q | q
        · exact wok y (List.mem_of_mem_take q)
        · rcases hY1 with rfl | rfl | rfl
          · cases q
          · simp only [List.mem_cons, List.not_mem_nil, or_false, or_self] at q
            rw [q]
            exact wok w wm
          · rw [List.mem_singleton] at q
            rw [q]
            exact hod2
      · exact wok y (List.mem_of_mem_drop q)
    refine wo_joinS (by simp only [List.map_append, List.sum_append, List.length_append, List.length_singleton, Nat.mul_one]; omega) ?_
    generalize joinD [32] (ws.take j ++ Y ++ ws.drop (j + 1)) = row' at *
    fail "STEP"
    rw [q3]
    refine wo_cat (by simp only [List.length_map, List.length_append, List.length_take, List.length_drop, List.length_singleton]; omega) ?_
    have hl25 := eX row' (by omega)
    refine join_rows (X := [row']) hk hl hl25 ?_
    fail "STEP"
    refine ⟨rows_deed ho hk (fun x hx => ?_) hl25, (bx5.trans b6).trans b7⟩
    rw [List.mem_singleton] at hx
    rw [hx]
    exact ⟨jok, .inr ⟨row, rm, deed⟩⟩
end K17
set_option maxRecDepth 100000
set_option maxHeartbeats 4000000
namespace K17
open AH PySem L2 TL K17N
def oD : Option (List D) → D
  | none => .non
  | some ds => .tup ds
def stepO (row : List Nat) : Option (List D) := match stepV row with
  | .tup ds => some ds
  | _ => none
def Fl (d : D) : Prop := (∃ z, d = .str z ∧ okS z) ∨ ∃ n : Int, d = .int n
def FlO (o : Option (List D)) : Prop := ∀ ds, o = some ds → ds.length ≤ 6 ∧ ∀ d ∈ ds, Fl d
theorem fl_num {r : List (List Nat)} {n : Nat} (h : (numsV r n).any Option.isNone = false) : ∀ d ∈ (numsV r n).map numD, Fl d := fun d hd => by
  obtain ⟨o, ho, rfl⟩ := List.mem_map.mp hd
  cases o with
  | none => exact absurd (List.any_eq_true.mpr ⟨none, ho, rfl⟩) (by rw [h]; decide)
  | some k => exact .inr ⟨k, rfl⟩
theorem ev_okS {z : List Nat} (h : ∀ c ∈ z, c ∈ evL) : okS z := fun c hc => Nat.lt_trans (ev_lt c (h c hc)).1 (by decide)
theorem stepN_o {nm : List Nat} {r : List (List Nat)} {n : Nat} (hn : n ≤ 4) (hp : nm = pressL → n = 1) (ho : okS nm) : stepN nm r n = .non ∨ ∃ ds, stepN nm r n = .tup ds ∧ ds.length ≤ 6 ∧ ∀ d ∈ ds, Fl d := by
  unfold stepN
  split
  · exact .inl rfl
  · rename_i h1
    split
    · exact .inl rfl
    · rename_i h2
      have h2 : (numsV r n).any Option.isNone = false := Bool.eq_false_iff.mpr h2
      have fn := fl_num h2
      have ln : ((numsV r n).map numD).length = n := by
        simp only [numsV, List.length_map, List.length_take]
        omega
      split
      · rename_i h3
        split
        · rename_i h4
          refine .inr ⟨_, rfl, by simp, fun d hd => ?_⟩
          simp only [List.mem_cons, List.not_mem_nil, or_false] at hd
          rcases hd with rfl | rfl | rfl
          · exact .inl ⟨_, rfl, by unfold okS; decide⟩
          · have n1 := hp h3
            cases e : (numsV r n).map numD with
            | nil => rw [e] at ln; simp at ln; omega
            | cons x xs => exact fn x (by rw [e]; exact List.mem_cons_self)
          · exact .inl ⟨_, rfl, ev_okS h4.2⟩
        · exact .inl rfl
      · split
        · refine .inr ⟨_, rfl, by rw [List.length_cons, ln]; omega, fun d hd => ?_⟩
          rcases List.mem_cons.mp hd with rfl | hd
          · exact .inl ⟨_, rfl, ho⟩
          · exact fn d hd
        · exact .inl rfl
theorem stepV_o {row : List Nat} (ho : okS row) : stepV row = oD (stepO row) ∧ FlO (stepO row) := by
  have key : stepV row = .non ∨ ∃ ds, stepV row = .tup ds ∧ ds.length ≤ 6 ∧ ∀ d ∈ ds, Fl d := by
    unfold stepV
    cases e : splitC 32 row with
    | nil => exact .inl rfl
    | cons nm r =>
      have hn : okS nm := fun c hc => ho c (split_mem (p := nm) (by rw [e]; exact List.mem_cons_self) hc)
      dsimp only
      cases e2 : manyV nm with
      | none => exact .inl rfl
      | some i =>
        obtain ⟨n, rfl, h4, hp⟩ := many_is e2
        exact stepN_o (by rw [Int.toNat_natCast]; exact h4) (fun q => by rw [Int.toNat_natCast]; exact hp q) hn
  unfold stepO
  rcases key with e | ⟨ds, e, h1, h2⟩
  · rw [e]
    exact ⟨rfl, fun ds q => nomatch q⟩
  · rw [e]
    exact ⟨rfl, fun ds' q => by cases q; exact ⟨h1, h2⟩⟩
theorem Fl.sd {d : D} (h : Fl d) : SdN 0 d := by
  rcases h with ⟨z, rfl, hz⟩ | ⟨n, rfl⟩
  · exact sd_str hz
  · exact sd_int
theorem sd_o {o : Option (List D)} (h : FlO o) : Sd (oD o) := by
  cases o with
  | none => exact ⟨.none, rfl, rfl, Nat.zero_le _⟩
  | some ds => exact (sd_tup (k := 0) fun d hd => ((h ds rfl).2 d hd).sd).sd (by decide)
theorem Fl.ak {S : Sto} {k : Nat} {d : D} (h : Fl d) : Ak S (k + 1) d d := by
  rcases h with ⟨z, rfl, hz⟩ | ⟨n, rfl⟩
  · exact .str
  · exact .int
theorem ak_o {S : Sto} {k : Nat} {o : Option (List D)} (h : FlO o) : Ak S (k + 2) (oD o) (oD o) := by
  cases o with
  | none => exact .non
  | some ds =>
    obtain ⟨h1, h2⟩ := h ds rfl
    refine .tup rfl (by omega) fun i a b ha hb => ?_
    rw [ha] at hb
    cases hb
    exact (h2 _ (List.mem_of_getElem? ha)).ak
theorem ak_os {S : Sto} {k : Nat} {os : List (Option (List D))} (h : ∀ o ∈ os, FlO o) (hl : os.length ≤ 1000000) : Ak S (k + 3) (.lst (os.map oD)) (.lst (os.map oD)) := by
  refine .lst rfl rfl rfl (by rw [List.length_map]; exact hl) fun i a b ha hb => ?_
  rw [ha] at hb
  cases hb
  obtain ⟨o, ho, rfl⟩ := List.mem_map.mp (List.mem_of_getElem? ha)
  exact ak_o (h o ho)
theorem py_nons : ∀ {os : List (Option (List D))} {ps : List PyData}, toPys (os.map oD) = some ps → ps.map (fun z => PyData.eqv z .none) = os.map Option.isNone
  | [], ps, h => by cases h; rfl
  | o :: os, ps, h => by
    have h : (match toPy (oD o), toPys (os.map oD) with
      | some p, some ps => some (p :: ps)
      | _, _ => none) = some ps := h
    split at h
    · rename_i p qs h1 h2
      cases h
      have ih := py_nons h2
      rw [List.map_cons, List.map_cons, ih]
      congr 1
      cases o with
      | none => cases h1; rfl
      | some ds =>
        have h1 : (toPys ds).map PyData.tuple = some p := h1
        obtain ⟨q, _, rfl⟩ := Option.map_eq_some_iff.mp h1
        rfl
    · cases h
theorem shp {os : List (Option (List D))} (h : ∀ o ∈ os, FlO o) {S : Sto} : ∃ ps, toPyS S (.lst (os.map oD)) = some (.list ps) ∧ SeqAt.shaped (.list ps) = true ∧ ps.map (fun z => PyData.eqv z .none) = os.map Option.isNone := by
  obtain ⟨ps, b1, b2, b3⟩ := sd_all (fun d hd => by
    obtain ⟨o, ho, rfl⟩ := List.mem_map.mp hd
    exact sd_o (h o ho))
  refine ⟨ps, ?_, ?_, py_nons b1⟩
  · show (toPys (os.map oD)).map PyData.list = _
    rw [b1]
    rfl
  · show (PyData.canLayAll0 ps && decide (PyData.depthAll ps + 1 ≤ 64)) = true
    rw [b2, decide_eq_true (by omega)]
    rfl
theorem wo_inO {S : Sto} {os : List (Option (List D))} (h : ∀ o ∈ os, FlO o) {P : D → Sto → Prop} (k : P (.bl (os.any Option.isNone)) S) : W (fInD false .non (.lst (os.map oD)) S) P := by
  obtain ⟨ps, e1, e2, e3⟩ := shp h (S := S)
  have e4 : ps.any (fun z => PyData.eqv z .none) = os.any Option.isNone := by
    have := congrArg (fun bs => bs.any id) e3
    simpa [List.any_map, Function.comp_def] using this
  rw [← e4] at k
  refine ⟨_, S, ?_, k⟩
  unfold fInD
  have e0 : toPyS S .non = some .none := rfl
  rw [e0, e1]
  dsimp only
  rw [if_pos ⟨rfl, e2⟩]
  rfl
theorem xo_idxD {S : Sto} {os : List (Option (List D))} (h : ∀ o ∈ os, FlO o) {P : D → Sto → Prop} {j : Nat} (hj : os.findIdx? Option.isNone = some j) (k : P (.int (j : Nat)) S) : W (fIdxD (.lst (os.map oD)) [.non] S) P := by
  obtain ⟨ps, e1, e2, e3⟩ := shp h (S := S)
  have e4 : ps.findIdx? (fun z => PyData.eqv z .none) = some j := by
    have := congrArg (fun bs => bs.findIdx? id) e3
    simp only [List.findIdx?_map, Function.comp_def, id] at this
    rw [this]
    exact hj
  refine ⟨_, S, ?_, k⟩
  unfold fIdxD
  have e0 : toPyS S .non = some .none := rfl
  dsimp only
  rw [e0, e1]
  dsimp only
  rw [if_pos ⟨e2, rfl⟩, e4]
  rfl
def rowsV (t : List Nat) : List (List Nat) := if t = [] then [] else splitC 10 t
def foundO (t : List Nat) : List (Option (List D)) := (rowsV t).map stepO
def readV (t : List Nat) : VX := match (foundO t).findIdx? Option.isNone with
  | some j => .ex 105 [("row", .int (j : Nat))]
  | none => .ok (.lst ((foundO t).map oD))
theorem rows_ok {t : List Nat} (ho : okS t) : ∀ r ∈ rowsV t, okS r := fun r hr c hc => by
  unfold rowsV at hr
  split at hr
  · cases hr
  · exact ho c (split_mem hr hc)
theorem rows_len {t r : List Nat} (hr : r ∈ rowsV t) : r.length ≤ t.length := by
  unfold rowsV at hr
  split at hr
  · cases hr
  · exact split_len hr
theorem rows_cnt (t : List Nat) : (rowsV t).length ≤ t.length + 1 := by
  unfold rowsV
  split
  · simp
  · rw [split_count]
    have := List.count_le_length (a := 10) (l := t)
    omega
theorem found_fl {t : List Nat} (ho : okS t) : ∀ o ∈ foundO t, FlO o := fun o h => by
  obtain ⟨r, hr, rfl⟩ := List.mem_map.mp h
  exact (stepV_o (rows_ok ho r hr)).2
theorem enumD_get {ds : List D} {k : Nat} {d : D} (h : (enumD ds)[k]? = some d) : ∃ x, ds[k]? = some x ∧ d = .tup [.int (k : Nat), x] := by
  have lt : k < ds.length := by
    have := (List.getElem?_eq_some_iff.mp h).1
    unfold enumD at this
    simpa using this
  refine ⟨ds[k], List.getElem?_eq_getElem lt, ?_⟩
  unfold enumD at h
  rw [List.getElem?_map, List.getElem?_range lt] at h
  have := Option.some.inj h
  rw [← this]
  dsimp only
  rw [List.getD_eq_getElem?_getD, List.getElem?_eq_getElem lt]
  rfl
theorem enumD_len {ds : List D} : (enumD ds).length = ds.length := by simp [enumD]
theorem find_at {os : List (Option (List D))} {k : Nat} (hl : ∀ j, j < k → ∃ ds, os[j]? = some (some ds)) (hk : os[k]? = some none) : os.findIdx? Option.isNone = some k := by
  rw [List.findIdx?_eq_some_iff_getElem]
  obtain ⟨h1, h2⟩ := List.getElem?_eq_some_iff.mp hk
  refine ⟨h1, by rw [h2]; rfl, fun j hj => ?_⟩
  obtain ⟨ds, e⟩ := hl j hj
  obtain ⟨_, e2⟩ := List.getElem?_eq_some_iff.mp e
  rw [e2]
  exact fun h => nomatch h
theorem find_no {os : List (Option (List D))} (hl : ∀ j, j < os.length → ∃ ds, os[j]? = some (some ds)) : os.findIdx? Option.isNone = none := by
  rw [List.findIdx?_eq_none_iff]
  intro o ho
  obtain ⟨j, hj, e⟩ := List.getElem_of_mem ho
  obtain ⟨ds, e2⟩ := hl j hj
  rw [List.getElem?_eq_getElem hj, e] at e2
  rw [Option.some.inj e2]
  rfl
theorem read_w {t : List Nat} {S : Sto} (ho : okS t) (hl : t.length ≤ 100000) : W (F_read [.str t] S) fun z S' => outV z = readV t ∧ S' = S := by
  refine wx_run rfl ?_
  show WX (b_read [.val (.str t), .no, .no, .no, .no] S) _
  unfold b_read
  refine wx_seq (wx_L ?_)
  fail "STEP"
  show WX _ _
  have rc := rows_cnt t
  have fl := found_fl ho
  suffices hh : WX (forX (gTp 2 (gsCons (gNm 2) (gsCons (gNm 3) gsNil))) (xSeq (xL (sAsg (eN (callE F_step_of) (aCons (eVar 3) aNil)) (gNm 4)))
          (xSeq (xIf (tOf (eIsN (eVar 4))) (xRaiseI 105 (Str.ofString "row") (eVar 2)) (xL sNext))
            (xL (sApp 1 (eVar 4))))) (enumD ((rowsV t).map .str)) ([Sl.val (D.str t), Sl.no, Sl.no, Sl.no, Sl.no].set 1 (Sl.acc [])) S) (nxtX (xL (sRetA 1)) (endX fun z S' => outV z = readV t ∧ S' = S)) by
    refine wx_seq (wx_for ?_)
    fail "STEP"
    refine Br.d (fun z => ?_) (fun z => ?_)
    · fail "STEP"
      have e : rowsV t = [] := by unfold rowsV; rw [if_pos z]
      rw [e] at hh
      exact hh
    · fail "STEP"
      refine wo_split ⟨by decide, by omega⟩ ?_
      fail "STEP"
      have e : rowsV t = splitC 10 t := by unfold rowsV; rw [if_neg z]
      rw [e] at hh
      exact hh
  refine wx_loop (fun k ρ S1 => S1 = S ∧ (∀ j, j < k → ∃ ds, (foundO t)[j]? = some (some ds)) ∧ ∃ a b c, ρ = [.val (.str t), .acc (((foundO t).take k).map oD), a, b, c]) ⟨rfl, fun j hj => absurd hj (Nat.not_lt_zero _), _, _, _, rfl⟩ ?_ ?_
  · rintro k d ρ S1 hk ⟨rfl, pr, a, b, c, rfl⟩
    rw [Nat.zero_add] at pr ⊢
    obtain ⟨x, hx, rfl⟩ := enumD_get hk
    rw [List.getElem?_map] at hx
    obtain ⟨row, hr, rfl⟩ := Option.map_eq_some_iff.mp hx
    have rm := List.mem_of_getElem? hr
    have hf : (foundO t)[k]? = some (stepO row) := by
      unfold foundO
      rw [List.getElem?_map, hr]
      rfl
    have kl := (List.getElem?_eq_some_iff.mp hr).1
    refine ⟨_, _, rfl, ?_⟩
    refine wx_seq (wx_L ?_)
    fail "STEP"
    refine (stepX_w (row := row) (rows_ok ho row rm) (by have := rows_len rm; omega)).mono fun o S2 e => ?_
    obtain ⟨rfl, rfl⟩ := e
    obtain ⟨e1, e2⟩ := stepV_o (rows_ok ho row rm)
    rw [e1]
    fail "STEP"
    show WX _ _
    refine wx_seq (wx_if ?_)
    cases eo : stepO row with
    | none =>
      rw [eo] at hf
      fail "STEP"
      refine wx_raiseI ?_
      fail "STEP"
      refine ⟨?_, rfl⟩
      show VX.ex 105 [("row", .int (k : Nat))] = readV t
      unfold readV
      rw [find_at pr hf]
    | some ds =>
      rw [eo] at hf
      fail "STEP"
      refine wx_L ?_
      fail "STEP"
      show AH.WX _ _
      refine wx_L ?_
      fail "STEP"
      have tk : (foundO t).take (k + 1) = (foundO t).take k ++ [some ds] := by
        rw [List.take_add_one, hf]
        rfl
      refine ⟨by simp only [List.length_map, List.length_take]; omega, ?_⟩
      refine ⟨rfl, fun j hj => ?_, _, _, _, by rw [tk, List.map_append]; rfl⟩
      by_cases q : j < k
      · exact pr j q
      · have : j = k := by omega
        rw [this]
        exact ⟨ds, hf⟩
  · rintro ρ S1 ⟨rfl, pr, a, b, c, rfl⟩
    have fl2 : (foundO t).length = (rowsV t).length := List.length_map _
    rw [Nat.zero_add, enumD_len, List.length_map] at *
    show AH.WX _ _
    refine wx_L ?_
    fail "STEP"
    refine ⟨?_, rfl⟩
    show VX.ok (.lst (List.map oD (List.take (rowsV t).length (foundO t)))) = readV t
    unfold readV
    rw [find_no (by rw [fl2]; exact pr), ← fl2, List.take_length]
end K17
set_option maxRecDepth 100000
set_option maxHeartbeats 4000000
namespace K17
open AH PySem L2 TL K17N
theorem row43 {s : Sp} (h : s.Ok) : s.row.length ≤ 43 := by
  cases h with
  | num h1 h2 =>
    rename_i nm xs
    obtain ⟨_, _, _, _, c, d, _, _⟩ := names h1
    have e : ∀ ys : List Nat, (∀ x ∈ ys, x < 1000000) → ((ys.map numL).map (·.length)).sum ≤ 6 * ys.length := by
      intro ys
      induction ys with
      | nil => intro _; exact Nat.zero_le _
      | cons y ys ih =>
        intro q
        have h3 := ih fun x hx => q x (List.mem_cons_of_mem _ hx)
        have h4 := num6 (q y (List.mem_cons_self ..))
        simp only [List.map_cons, List.sum_cons, List.length_cons]
        omega
    have h3 := e xs h2
    have h4 := join_len (s := [32]) (nm :: xs.map numL)
    simp only [List.map_cons, List.sum_cons, List.length_cons, List.length_map, List.length_nil] at h4
    have e2 : (Sp.mk nm (xs.map .n)).row = joinD [32] (nm :: xs.map numL) := by
      unfold Sp.row Sp.w
      rw [List.map_map]
      rfl
    rw [e2]
    omega
  | pr h1 h2 h3 =>
    rename_i x z
    have e : (Sp.mk pressL [.n x, .t z]).row = pressL ++ 32 :: (numL x ++ 32 :: z) := by
      show joinD [32] [pressL, numL x, z] = _
      rw [join_cons (by simp), join_cons (by simp)]
      simp [joinD]
    have := num6 h1
    rw [e]
    simp only [List.length_append, List.length_cons]
    show 5 + _ ≤ _
    omega
theorem join_pre {s p : List Nat} {qs : List (List Nat)} : ∃ r, joinD s (p :: qs) = p ++ r := by
  cases qs with
  | nil => exact ⟨[], by simp [joinD]⟩
  | cons q qs => exact ⟨s ++ joinD s (q :: qs), join_cons (by simp)⟩
theorem row_hd {s : Sp} (h : s.Ok) : ∃ c d r, s.row = c :: d :: r ∧ ¬ Pu c ∧ ¬ Pu d := by
  have key : ∃ c d r, s.nm = c :: d :: r ∧ ¬ Pu c ∧ ¬ Pu d := by
    cases h with
    | num h1 h2 =>
      rename_i nm xs
      show ∃ c d r, nm = c :: d :: r ∧ ¬ Pu c ∧ ¬ Pu d
      unfold nmsL at h1
      simp only [List.mem_cons, List.not_mem_nil, or_false, Prod.mk.injEq] at h1
      unfold Pu
      rcases h1 with ⟨rfl, _⟩ | ⟨rfl, _⟩ | ⟨rfl, _⟩ | ⟨rfl, _⟩ | ⟨rfl, _⟩ | ⟨rfl, _⟩ | ⟨rfl, _⟩ | ⟨rfl, _⟩ | ⟨rfl, _⟩ | ⟨rfl, _⟩ | ⟨rfl, _⟩ <;> exact ⟨_, _, _, rfl, by decide, by decide⟩
    | pr h1 h2 h3 => exact ⟨_, _, _, rfl, by unfold Pu; decide, by unfold Pu; decide⟩
  obtain ⟨c, d, r, e, h1, h2⟩ := key
  obtain ⟨q, hq⟩ := join_pre (s := [32]) (p := s.nm) (qs := s.ps.map Pt.w)
  refine ⟨c, d, r ++ q, ?_, h1, h2⟩
  show joinD [32] (s.nm :: s.ps.map Pt.w) = _
  rw [hq, e]
  rfl
theorem t0_rows : ∀ {ss : List Sp}, (∀ s ∈ ss, s.Ok) → T0 (joinD [10] (ss.map Sp.row))
  | [], _ => by
    refine ⟨fun x i n => ?_, fun a b e => ?_⟩
    · have := i.length_le
      have e : (joinD [10] (([] : List Sp).map Sp.row)).length = 0 := rfl
      omega
    · have e : ([] : List Nat) = a ++ 10 :: b := e
      simp at e
  | [s], h => by
    have so := h s (List.mem_cons_self ..)
    have e0 : joinD [10] ([s].map Sp.row) = s.row := rfl
    rw [e0]
    refine ⟨fun x i n => Nat.le_trans i.length_le (row43 so), fun a b e => ?_⟩
    exact absurd (by rw [e]; simp) so.words.2.2.2.1
  | s :: q :: r, h => by
    have so := h s (List.mem_cons_self ..)
    have ih := t0_rows (ss := q :: r) fun x hx => h x (List.mem_cons_of_mem _ hx)
    have e0 : joinD [10] ((s :: q :: r).map Sp.row) = s.row ++ ([10] ++ joinD [10] ((q :: r).map Sp.row)) := by
      rw [List.map_cons, join_cons (by simp)]
    have hq : ∃ c d z, joinD [10] ((q :: r).map Sp.row) = c :: d :: z ∧ ¬ Pu c ∧ ¬ Pu d := by
      obtain ⟨c, d, z, e, h1, h2⟩ := row_hd (h q (by simp))
      obtain ⟨y, hy⟩ := join_pre (s := [10]) (p := q.row) (qs := r.map Sp.row)
      refine ⟨c, d, z ++ y, ?_, h1, h2⟩
      rw [List.map_cons, hy, e]
      rfl
    rw [e0]
    generalize joinD [10] ((q :: r).map Sp.row) = J at ih hq ⊢
    have n10 := so.words.2.2.2.1
    refine ⟨fun x i n => ?_, fun a b e => ?_⟩
    · rcases inf_sep i n with z | z
      · exact Nat.le_trans z.length_le (row43 so)
      · exact ih.ln x z n
    · rcases List.append_eq_append_iff.mp e with ⟨c, e1, e2⟩ | ⟨c, e1, e2⟩
      · cases c with
        | nil =>
          have e2 : 10 :: J = 10 :: b := by simpa using e2
          rw [← (List.cons.inj e2).2]
          exact hq
        | cons y c =>
          have e2 : 10 :: J = y :: (c ++ 10 :: b) := by simpa using e2
          exact ih.hd c b (List.cons.inj e2).2
      · cases c with
        | nil =>
          have e2 : 10 :: b = 10 :: J := by simpa using e2
          rw [(List.cons.inj e2).2]
          exact hq
        | cons y c =>
          have e2 : 10 :: b = y :: (c ++ 10 :: J) := by simpa using e2
          have : y = 10 := (List.cons.inj e2).1.symm
          exact absurd (by rw [e1, this]; simp) n10
def NuK : Nat → List Nat → Prop
  | 0, t => T0 t ∨ t.length ≤ 12
  | 1, t => Nu 23 t
  | 2, t => Nu 47 t
  | _, t => Nu 95 t
theorem NuK.next {k : Nat} {t t' : List Nat} (h : NuK k t) (hk : k ≤ 2) (d : Dd t t') : NuK (k + 1) t' := by
  match k, h, hk with
  | 0, .inl h, _ => exact deed_first h d.d
  | 0, .inr h, _ => exact (deed_nu (N := 6) (nu_len (by omega)) d.d).mono (by omega)
  | 1, h, _ => exact deed_nu (N := 23) h d.d
  | 2, h, _ => exact deed_nu (N := 47) h d.d
theorem NuK.fin {k : Nat} {t : List Nat} (h : NuK k t) : Nu 95 t := by
  match k, h with
  | 0, .inl h => exact h.nu.mono (by omega)
  | 0, .inr h => exact nu_len (by omega)
  | 1, h => exact Nu.mono h (by omega)
  | 2, h => exact Nu.mono h (by omega)
  | _ + 3, h => exact h
def lenK : Nat → Nat
  | 0 => 500
  | 1 => 1030
  | 2 => 2090
  | _ => 4210
def TK (k : Nat) (t : List Nat) : Prop := NuK k t ∧ okS t ∧ t.length ≤ lenK k
theorem TK.next {k : Nat} {t t' : List Nat} (h : TK k t) (hk : k ≤ 2) (d : Dd t t') : TK (k + 1) t' := by
  refine ⟨h.1.next hk d, d.ok, ?_⟩
  have l1 := d.ln
  have l2 := h.2.2
  match k, hk, l2 with
  | 0, _, l2 => show _ ≤ 1030; have l2 : t.length ≤ 500 := l2; omega
  | 1, _, l2 => show _ ≤ 2090; have l2 : t.length ≤ 1030 := l2; omega
  | 2, _, l2 => show _ ≤ 4210; have l2 : t.length ≤ 2090 := l2; omega
theorem TK.len {k : Nat} {t : List Nat} (h : TK k t) : t.length ≤ 4210 := by
  have l2 := h.2.2
  match k, l2 with
  | 0, l2 => have l2 : t.length ≤ 500 := l2; omega
  | 1, l2 => have l2 : t.length ≤ 1030 := l2; omega
  | 2, l2 => have l2 : t.length ≤ 2090 := l2; omega
  | _ + 3, l2 => exact l2
theorem tk_rows {ss : List Sp} (h : ∀ s ∈ ss, s.Ok) (hl : ss.length ≤ 7) : TK 0 (joinD [10] (ss.map Sp.row)) := by
  have l := rows_sum ss h
  have j := join_len (s := [10]) (ss.map Sp.row)
  simp only [List.length_singleton, List.length_map, Nat.mul_one] at j
  refine ⟨.inl (t0_rows h), fun c hc => ?_, by show _ ≤ 500; omega⟩
  rcases join_mem hc with q | ⟨z, hz, q⟩
  · rw [List.mem_singleton] at q
    omega
  · obtain ⟨s, hs, rfl⟩ := List.mem_map.mp hz
    rcases join_mem (show c ∈ joinD [32] s.w from q) with q | ⟨z, hz, q⟩
    · rw [List.mem_singleton] at q
      omega
    · obtain ⟨_, _, _, _, _, w6, w7, _, _⟩ := (h s hs).words
      rcases List.mem_cons.mp hz with e | hz
      · rw [e] at q
        exact w6 c q
      · obtain ⟨p, hp, rfl⟩ := List.mem_map.mp hz
        exact (w7 p hp).2.1 c q
abbrev qn : Str := ("law" : Str) ++ ".<locals>." ++ "<lambda>"
structure LI (S : Sto) (l m : Nat) : Prop where
  bx : Box S l m
  tb : S.get 0 = some (.tab 0 qn)
theorem LI.bx' {S S' : Sto} {l m : Nat} (h : LI S l m) (b : Bx l m S S') : LI S' l m := by
  obtain ⟨q, e1⟩ := h.bx.out
  obtain ⟨xs, e2, _⟩ := h.bx.inn
  refine ⟨b.box, ?_⟩
  rw [b.fr 0 (fun z => ?_) (fun z => ?_)]
  · exact h.tb
  · rw [← z, h.tb] at e1
    cases e1
  · rw [← z, h.tb] at e2
    cases e2
theorem LI.hs {S : Sto} {l m : Nat} (h : LI S l m) : ∃ (q : Int) (xs : List Int), xs.length ≤ 63 ∧ Hs S [(l, .lst [.ref m, .int q]), (m, .lst (xs.map .int)), (0, .tab 0 qn)] := by
  obtain ⟨q, e1⟩ := h.bx.out
  obtain ⟨xs, e2, hx⟩ := h.bx.inn
  have ne := h.bx.ne
  have lt := h.bx.lt
  have n0 : l ≠ 0 := fun z => by
    rw [z, h.tb] at e1
    cases e1
  have n1 : m ≠ 0 := fun z => by
    rw [z, h.tb] at e2
    cases e2
  refine ⟨q, xs, hx, by simp; omega, fun p hp => ?_, fun p hp => ?_⟩ <;> (simp only [List.mem_cons, List.not_mem_nil, or_false] at hp; rcases hp with rfl | rfl | rfl)
  · exact e1
  · exact e2
  · exact h.tb
  · exact lt
  · show m < _; omega
  · show 0 < _; omega
theorem LI.of {S : Sto} {l m : Nat} {q : Int} {xs : List Int} {B : Hm} (ne : m < l) (hx : xs.length ≤ 63) (hs : Hs S (B ++ [(l, .lst [.ref m, .int q]), (m, .lst (xs.map .int)), (0, .tab 0 qn)])) : LI S l m := by
  refine ⟨⟨ne, ⟨q, hs.get (by simp)⟩, ⟨xs, hs.get (by simp), hx⟩, hs.lt (l, .lst [.ref m, .int q]) (by simp)⟩, hs.get (by simp)⟩
abbrev oddL : List (List Nat) := [[], [32], [10], [99, 111, 109, 101, 32, 48, 32, 49, 32, 50, 48], [112, 114, 101, 115, 115, 32, 48], [112, 114, 101, 115, 115, 32, 48, 32], [112, 114, 101, 115, 115, 32, 48, 32, 32], [98, 101, 97, 116, 32], [115, 101, 110, 100, 10], [99, 117, 116, 32, 48], [108, 101, 97, 118, 101, 32, 48, 55], [112, 114, 101, 115, 115, 32, 97, 32, 98]]
theorem odd_tk : ∀ o ∈ oddL, TK 0 o := fun o ho => by
  have key : ∀ o ∈ oddL, o.length ≤ 12 ∧ ∀ c ∈ o, c < 1114112 := by decide
  obtain ⟨h1, h2⟩ := key o ho
  exact ⟨.inr h1, h2, by show _ ≤ 500; omega⟩
theorem law_true (ns : List Int) (h : ns.length ≤ 63) : ∃ S', F_law [.scr ns] (Sto.tabs tl) = some (.v (.bl true), S') := by
  suffices hw : W (F_law [.scr ns] (Sto.tabs tl)) fun o S' => o = .v (.bl true) by
    obtain ⟨o, S', e, rfl⟩ := hw
    exact ⟨S', e⟩
  refine w_run rfl ?_
  show WS (b_law [.val (.scr ns), .no, .no, .no, .no, .no, .no, .no, .no, .no, .no] (Sto.tabs tl)) _
  unfold b_law
  fail "STEP"
  refine (begun_ok h).mono fun o S1 e => ?_
  obtain ⟨l, m, rfl, bx, up⟩ := e
  have li : LI S1 l m := ⟨bx, up.fr 0 (by decide)⟩
  clear up bx
  fail "STEP"
  refine ⟨by decide, ?_⟩
  refine ws_loop (fun _ ρ S2 => LI S2 l m ∧ ∃ a3 a4 a5 a6 a7 a8 a9 a10, ρ = [.val (.scr ns), .val (.ref l), .val (.lst (oddL.map .str)), a3, a4, a5, a6, a7, a8, a9, a10]) ⟨li, _, _, _, _, _, _, _, _, rfl⟩ ?_ ?_
  · clear li
    rintro k d ρ S2 hk ⟨li, a3, a4, a5, a6, a7, a8, a9, a10, rfl⟩
    fail "STAY"
    refine xs_cut (fun ρ S3 => ∃ t : List Nat, TK 0 t ∧ LI S3 l m ∧ ∃ a3 a5 a6 a7 a8 a9 a10, ρ = [.val (.scr ns), .val (.ref l), .val (.lst (oddL.map .str)), a3, .val (.str t), a5, a6, a7, a8, a9, a10]) ?_ ?_
    · fail "STEP"
      refine wl_lc ?_
      fail "STEP"
      refine (draw_nat (n := 8) li.bx (by omega) (by omega)).mono fun o S3 e => ?_
      obtain ⟨n, rfl, hn, b3⟩ := e
      fail "STEP"
      refine ⟨by omega, fun k out S4 => Bx l m S3 S4 ∧ ∃ ss : List Sp, out = ss.map Sp.d ∧ ss.length = k ∧ ∀ s ∈ ss, s.Ok, ⟨Bx.refl b3.box, [], rfl, rfl, fun x hx => (nomatch hx)⟩, ?_, ?_⟩
      · rintro k d out S4 hk ⟨b4, ss, rfl, hl, hok⟩
        refine ⟨_, rfl, wt_yes ⟨fun z => (nomatch z), fun _ => ?_⟩⟩
        fail "STEP"
        refine (any_w b4.box).mono fun o S5 e => ?_
        obtain ⟨s, rfl, so, b5⟩ := e
        exact ⟨b4.trans b5, ss ++ [s], by rw [List.map_append]; rfl, by simp [hl], fun y hy => by
          rcases List.mem_append.mp hy with q | q
          · exact hok y q
          · rw [List.mem_singleton] at q
            rw [q]
            exact so⟩
      · rintro out S4 ⟨b4, ss, rfl, hl, hok⟩
        rw [rng_len] at hl
        have l7 : ss.length ≤ 7 := by omega
        refine ⟨by simp only [List.length_map]; omega, ?_⟩
        fail "STEP"
        refine (rows_w hok (by omega)).mono fun o S5 e => ?_
        obtain ⟨rfl, rfl⟩ := e
        fail "STEP"
        exact ⟨rfl, _, tk_rows hok l7, (li.bx' b3).bx' b4, _, _, _, _, _, _, _, rfl⟩
    clear li
    rintro ρ S3 ⟨t, tk, li, a3, a5, a6, a7, a8, a9, a10, rfl⟩
    fail "STAY"
    refine xs_cut (fun ρ S3 => ∃ t : List Nat, TK 0 t ∧ LI S3 l m ∧ ∃ a3 a5 a6 a7 a8 a9 a10, ρ = [.val (.scr ns), .val (.ref l), .val (.lst (oddL.map .str)), a3, .val (.str t), a5, a6, a7, a8, a9, a10]) ?_ ?_
    · fail "STEP"
      refine (draw_nat (n := 5) li.bx (by omega) (by omega)).mono fun o S4 e => ?_
      obtain ⟨n, rfl, hn, b4⟩ := e
      fail "STEP"
      refine Br.d (fun z => ?_) (fun z => ?_)
      · fail "STEP"
        refine (draw_nat (n := 12) b4.box (by omega) (by omega)).mono fun o S5 e => ?_
        obtain ⟨r, rfl, hr, b5⟩ := e
        fail "STEP"
        have lt : r < oddL.length := hr
        have om := List.getElem_mem lt
        refine wo_ixL (d := .str oddL[r]) (by omega) (by rw [Int.toNat_natCast, List.getElem?_map, List.getElem?_eq_getElem lt]; rfl) ?_
        generalize oddL[r] = od at om ⊢
        fail "STEP"
        exact ⟨rfl, od, odd_tk od om, (li.bx' b4).bx' b5, _, _, _, _, _, _, _, rfl⟩
      · fail "STEP"
        exact ⟨rfl, t, tk, li.bx' b4, _, _, _, _, _, _, _, rfl⟩
    clear tk li
    rintro ρ S3 ⟨t, tk, li, a3, a5, a6, a7, a8, a9, a10, rfl⟩
    fail "STAY"
    refine xs_cut (fun ρ S3 => ∃ t : List Nat, (∃ k, TK k t) ∧ LI S3 l m ∧ ∃ a3 a5 a6 a7 a8 a9 a10, ρ = [.val (.scr ns), .val (.ref l), .val (.lst (oddL.map .str)), a3, .val (.str t), a5, a6, a7, a8, a9, a10]) ?_ ?_
    · fail "STEP"
      refine (draw_nat (n := 4) li.bx (by omega) (by omega)).mono fun o S4 e => ?_
      obtain ⟨n, rfl, hn, b4⟩ := e
      fail "STEP"
      refine ⟨by omega, ?_⟩
      refine ws_loop (fun k ρ S3 => ∃ t : List Nat, TK k t ∧ LI S3 l m ∧ ∃ a3 a5 a6 a7 a8 a9 a10, ρ = [.val (.scr ns), .val (.ref l), .val (.lst (oddL.map .str)), a3, .val (.str t), a5, a6, a7, a8, a9, a10]) ⟨t, tk, li.bx' b4, _, _, _, _, _, _, _, rfl⟩ ?_ ?_
      · rintro k d ρ S5 hk ⟨t, tk, li, a3, a5, a6, a7, a8, a9, a10, rfl⟩
        obtain ⟨_, kl⟩ := rng_get hk
        fail "STEP"
        refine (spoilt_w li.bx tk.2.1 (by have := tk.len; omega)).mono fun o S6 e => ?_
        obtain ⟨t', rfl, dd, b6⟩ := e
        fail "STEP"
        exact ⟨t', tk.next (by omega) dd, li.bx' b6, _, _, _, _, _, _, _, rfl⟩
      · rintro ρ S5 ⟨t, tk, li, a3, a5, a6, a7, a8, a9, a10, rfl⟩
        exact ⟨rfl, t, ⟨_, tk⟩, li, _, _, _, _, _, _, _, rfl⟩
    clear tk li
    rintro ρ S3 ⟨t, ⟨kk, tk⟩, li, a3, a5, a6, a7, a8, a9, a10, rfl⟩
    have tl := tk.len
    have tN := tk.1.fin
    have tO := tk.2.1
    clear tk
    fail "STAY"
    refine xs_cut (fun ρ S4 => LI S4 l m ∧ ∃ a3 a5 a6 a8 a9 a10, ρ = [.val (.scr ns), .val (.ref l), .val (.lst (oddL.map .str)), a3, .val (.str t), a5, a6, .val (.lst ((foundO t).map oD)), a8, a9, a10]) ?_ ?_
    · fail "STEP"
      refine Br.d (fun z => ?_) (fun z => ?_)
      · fail "STEP"
        refine ⟨rfl, li, a3, a5, a6, a8, a9, a10, ?_⟩
        have e : foundO t = [] := by unfold foundO rowsV; rw [if_pos z]; rfl
        rw [e]
        rfl
      · fail "STEP"
        refine wl_lc ?_
        fail "STEP"
        refine wo_split ⟨by decide, by omega⟩ ?_
        obtain ⟨q, xs, hx, hs⟩ := li.hs
        have er : rowsV t = splitC 10 t := by unfold rowsV; rw [if_neg z]
        rw [← er]
        refine ⟨fun k out S5 => out = ((foundO t).take k).map oD ∧ ∃ B, Hs S5 (B ++ [(l, .lst [.ref m, .int q]), (m, .lst (xs.map .int)), (0, .tab 0 qn)]), ⟨rfl, [], hs⟩, ?_, ?_⟩
        · clear hs
          rintro k d out S5 hk ⟨rfl, B, hs⟩
          rw [List.getElem?_map] at hk
          obtain ⟨row, hr, rfl⟩ := Option.map_eq_some_iff.mp hk
          have rm := List.mem_of_getElem? hr
          have rl := rows_len rm
          refine ⟨_, rfl, wt_yes ⟨fun z => (nomatch z), fun _ => ?_⟩⟩
          fail "STEP"
          refine (stepL_w (row := row) hs (rows_ok tO row rm) (by omega) (tN.inf (row_inf (by rw [← er]; exact rm)))).mono fun o S6 e => ?_
          obtain ⟨rfl, B', hs⟩ := e
          have hf : (foundO t)[k]? = some (stepO row) := by
            unfold foundO
            rw [List.getElem?_map, hr]
            rfl
          rw [(stepV_o (rows_ok tO row rm)).1]
          refine ⟨?_, B' ++ B, by rw [List.append_assoc]; exact hs⟩
          rw [List.take_add_one, hf, List.map_append]
          rfl
        · clear hs
          rintro out S5 ⟨rfl, B, hs⟩
          have fl2 : (foundO t).length = (rowsV t).length := List.length_map _
          have rc := rows_cnt t
          have e9 : (List.map D.str (rowsV t)).length = (foundO t).length := by rw [List.length_map, fl2]
          rw [e9, List.take_length]
          refine ⟨by rw [List.length_map]; omega, ?_⟩
          fail "STEP"
          exact ⟨rfl, LI.of li.bx.ne hx hs, a3, a5, a6, a8, a9, a10, rfl⟩
    clear li
    rintro ρ S4 ⟨li, a3, a5, a6, a8, a9, a10, rfl⟩
    have fl := found_fl tO
    have fl2 : (foundO t).length ≤ 1000000 := by
      have : (foundO t).length = (rowsV t).length := List.length_map _
      have := rows_cnt t
      omega
    fail "STAY"
    refine xs_cut (fun ρ S5 => S5 = S4 ∧ ∃ d, ρ = [.val (.scr ns), .val (.ref l), .val (.lst (oddL.map .str)), a3, .val (.str t), a5, a6, .val (.lst ((foundO t).map oD)), a8, .val d, a10] ∧ Ak S4 8 d d ∧ match readV t with | .ok x => x = d | .ex c fs => toldV c fs = some d) ?_ ?_
    · fail "STEP"
      refine wo_inO fl ?_
      fail "STEP"
      refine Br.b (fun z => ?_) (fun z => ?_)
      · obtain ⟨o, ho, hn⟩ := List.any_eq_true.mp z
        have hj : ∃ j, (foundO t).findIdx? Option.isNone = some j := by
          cases e : (foundO t).findIdx? Option.isNone with
          | some j => exact ⟨j, rfl⟩
          | none =>
            have := List.findIdx?_eq_none_iff.mp e o ho
            rw [hn] at this
            cases this
        obtain ⟨j, hj⟩ := hj
        fail "STEP"
        refine xe_bmv ?_
        fail "STEP"
        refine xo_idxD fl hj ?_
        fail "STEP"
        refine ⟨rfl, rfl, _, rfl, .tup rfl (by simp) fun i a b ha hb => ?_, ?_⟩
        · rw [ha] at hb
          cases hb
          have := List.mem_of_getElem? ha
          simp only [List.mem_cons, List.not_mem_nil, or_false] at this
          rcases this with rfl | rfl
          · exact .str
          · exact .int
        · unfold readV
          rw [hj]
          rfl
      · fail "STEP"
        refine ⟨rfl, rfl, _, rfl, ak_os fl fl2, ?_⟩
        unfold readV
        have e : (foundO t).findIdx? Option.isNone = none := by
          rw [List.findIdx?_eq_none_iff]
          intro o ho
          cases o with
          | some ds => rfl
          | none => exact absurd (List.any_eq_true.mpr ⟨none, ho, rfl⟩) (by rw [z]; decide)
        rw [e]
    rintro ρ S5 ⟨rfl, d, rfl, ak, hd⟩
    fail "STEP"
    refine ⟨by decide, ?_⟩
    refine ws_loop (fun _ ρ S6 => S6 = S5 ∧ ∃ a10, ρ = [.val (.scr ns), .val (.ref l), .val (.lst (oddL.map .str)), a3, .val (.str t), a5, a6, .val (.lst ((foundO t).map oD)), a8, .val d, a10]) ⟨rfl, _, rfl⟩ ?_ ?_
    · rintro k d' ρ S6 hk ⟨rfl, a10, rfl⟩
      fail "STEP"
      refine we_told li.tb ?_
      refine wv_call ?_
      fail "STEP"
      refine (read_w (t := t) tO (by omega)).mono fun z S7 e => ?_
      obtain ⟨e1, rfl⟩ := e
      rw [e1]
      have go : W (F_alike 8 [d, d] S7) fun o S8 => o = .v (.bl true) ∧ S8 = S7 := alike_ok ak
      generalize readV t = v at hd
      cases v with
      | ok x =>
        have hd : x = d := hd
        subst hd
        fail "STEP"
        refine go.mono fun o S8 e => ?_
        obtain ⟨rfl, rfl⟩ := e
        fail "STEP"
        exact ⟨rfl, _, rfl⟩
      | ex c fs =>
        refine ⟨d, hd, ?_⟩
        fail "STEP"
        refine go.mono fun o S8 e => ?_
        obtain ⟨rfl, rfl⟩ := e
        fail "STEP"
        exact ⟨rfl, _, rfl⟩
    · rintro ρ S6 ⟨rfl, a10, rfl⟩
      exact ⟨li, _, _, _, _, _, _, _, _, rfl⟩
  · rintro ρ S2 ⟨_, a, b, c, d, e, f, g, i, rfl⟩
    fail "STEP"
    trivial
end K17
set_option maxRecDepth 100000
set_option maxHeartbeats 2000000
namespace AH
open PySem L2 TL
def Wd.start (H : Hp) : Wd := ⟨fun _ => none, Sto.nil0, fun _ => False, H⟩
end AH
set_option maxRecDepth 100000
set_option maxHeartbeats 2000000
namespace AH
open PySem L2 TL Classical
/-- tables that nobody tells of are left out -/
noncomputable def strip (L : List Addr) (H : Hp) : Hp := fun b => if b ∉ L ∧ ∃ ps, H b = some (.tbl ps) then none else H b
theorem strip_some {L : List Addr} {H : Hp} {b : Addr} {o : HO} (h : strip L H b = some o) : H b = some o := by
  unfold strip at h
  split at h
  · cases h
  · exact h
theorem strip_of {L : List Addr} {H : Hp} {b : Addr} {o : HO} (h : H b = some o) (n : ∀ ps, o ≠ .tbl ps) : strip L H b = some o := by
  unfold strip
  rw [if_neg (fun z => by
    obtain ⟨_, ps, e⟩ := z
    rw [h] at e
    exact n ps (Option.some.inj e))]
  exact h
theorem strip_in {L : List Addr} {H : Hp} {b : Addr} {o : HO} (hb : b ∈ L) (h : H b = some o) : strip L H b = some o := by
  unfold strip
  rw [if_neg (fun z => z.1 hb)]
  exact h
theorem strip_none {L : List Addr} {H : Hp} {b : Addr} (h : H b = none) : strip L H b = none := by
  cases e : strip L H b with
  | none => rfl
  | some o =>
    rw [strip_some e] at h
    cases h
theorem strip_tbl {L : List Addr} {H : Hp} {b : Addr} {ps : Array Value} (h : strip L H b = some (.tbl ps)) : b ∈ L := by
  by_cases q : b ∈ L
  · exact q
  · have e := strip_some h
    unfold strip at h
    rw [if_pos ⟨q, ps, e⟩] at h
    cases h
def spT (L : List Addr) (sp : Sp) : Sp := fun vs H Q _ => ∃ Q0 : V → Prop, (∀ v H', Q0 v → Q v H') ∧ sp vs (strip L H) (fun v _ => Q0 v) E0
theorem fn_strip {P : Program} {w : World} {K : PySem.W.Frag} {mg : Str → Option Value} {base : Heap} {k : Nat} {f : Addr} {fd : FuncData} {ps : List Str} {sp : Sp} (L : List Addr) (F : FnOk P w K mg base CX0 k f fd ps sp) : FnOk P w K mg base CX0 k f fd ps (spT L sp) := by
  refine ⟨fun vs H Q E h => ?_, fun A outer s H args us vs Q E hr e0 hb r h => ?_⟩
  · obtain ⟨Q0, _, h2⟩ := h
    exact F.len _ _ _ _ h2
  obtain ⟨Q0, hq, hsp⟩ := h
  have e1 : Env0 P w K mg base A outer s (strip L H) := {
    frames := e0.frames
    mod := e0.mod
    bs := fun b o e => ⟨(e0.bs b o e).1, strip_none (e0.bs b o e).2⟩
    bsz := e0.bsz
    funs := e0.funs
    frf := fun b hb => strip_none (e0.frf b hb)
    hok := fun b o e => (e0.hok b o (strip_some e)).stay (fun _ _ _ z => z) (fun c z => strip_of z (fun ps q => by cases q)) (fun c xs z => strip_of z (fun ps q => by cases q))
    bare := e0.bare }
  refine codeAny_mono (F.run A outer s (strip L H) args us vs _ _ hr e1 hb r hsp) fun res s' hh => ?_
  cases res with
  | error e => exact (show False from hh).elim
  | ok fl =>
    cases fl with
    | next => exact False.elim hh
    | brk => exact False.elim hh
    | cont => exact False.elim hh
    | ret u =>
      obtain ⟨v, H0', os, bare, un, hok, rv, q⟩ := hh
      have zn : ∀ b, (b ∉ L ∧ ∃ ps, H b = some (.tbl ps)) → strip L H b = none := fun b z => if_pos z
      have zk : ∀ b, (b ∉ L ∧ ∃ ps, H b = some (.tbl ps)) → ∃ ps, H b = some (.tbl ps) ∧ s.heap.get? b = some { cls := .none, data := .fields ps } ∧ s'.heap.get? b = some { cls := .none, data := .fields ps } ∧ H0' b = none := fun b z => by
        obtain ⟨ps, e⟩ := z.2
        have e2 : s.heap.get? b = some { cls := .none, data := .fields ps } := e0.hok b _ e
        refine ⟨ps, e, e2, un.keep b _ e2 (zn b z) (fun hb => ?_) (by simp), un.free b _ e2 (zn b z) (by simp)⟩
        rw [e0.frf b hb] at e
        cases e
      refine ⟨v, fun b => if b ∉ L ∧ ∃ ps, H b = some (.tbl ps) then H b else H0' b, os, bare, ?_, fun b o e => ?_, rv, hq _ _ q⟩
      · refine ⟨fun b o g n => un.keep b o g (strip_none n), fun b o g n => un.slot b o g (strip_none n), fun b o g n hx => ?_, un.there, fun b xs e => ?_, fun b o u e => ?_, fun b ps e => ?_⟩
        · show (if _ then _ else _) = _
          rw [if_neg (fun z => by
            obtain ⟨ps, e⟩ := z.2
            rw [n] at e
            cases e)]
          exact un.free b o g (strip_none n) hx
        · show (if _ then _ else _) = _
          rw [if_neg (fun z => by
            obtain ⟨ps, e2⟩ := z.2
            rw [e] at e2
            cases e2)]
          exact un.tups b xs (strip_of e (fun ps q => by cases q))
        · show (if _ then _ else _) = _
          rw [if_neg (fun z => by
            obtain ⟨ps, e2⟩ := z.2
            rw [e] at e2
            cases e2)]
          exact un.frzs b o u (strip_of e (fun ps q => by cases q))
        · by_cases hb : b ∈ L
          · obtain ⟨more, hm⟩ := un.tbls b ps (strip_in hb e)
            exact ⟨more, by
              show (if _ then _ else _) = _
              rw [if_neg (fun z => z.1 hb)]
              exact hm⟩
          · exact ⟨#[], by
              show (if _ then _ else _) = _
              rw [if_pos ⟨hb, ps, e⟩, e]
              simp⟩
      · have e' : (if b ∉ L ∧ ∃ ps, H b = some (.tbl ps) then H b else H0' b) = some o := e
        by_cases z : b ∉ L ∧ ∃ ps, H b = some (.tbl ps)
        · rw [if_pos z] at e'
          obtain ⟨ps, e2, e3, e4, _⟩ := zk b z
          rw [e2] at e'
          cases e'
          exact e4
        · rw [if_neg z] at e'
          have out : ∀ c u, H0' c = some u → (if c ∉ L ∧ ∃ ps, H c = some (.tbl ps) then H c else H0' c) = some u := fun c u g => by
            rw [if_neg (fun y => by
              obtain ⟨ps, _, _, _, e5⟩ := zk c y
              rw [g] at e5
              cases e5)]
            exact g
          exact (hok b o e').stay (fun _ _ _ z => z) (fun c g => out c _ g) (fun c xs g => out c _ g)
def Wd.startT (tl : List (Nat × Str)) (tm : Nat → Addr) (H : Hp) : Wd := ⟨fun l => tl[l]?.map fun p => tm p.1, Sto.tabs tl, fun _ => False, H⟩
theorem startT_ok {K : PySem.W.Frag} {G : Gx} {H : Hp} {tl : List (Nat × Str)} (hg : G.tl = tl) (hd : (tl.map fun p => G.tm p.1).Nodup) (hT : ∀ p ∈ tl, H (G.tm p.1) = some (.tbl #[])) (hL : ∀ b ps, H b = some (.tbl ps) → b ∈ tl.map fun p => G.tm p.1) : Ok K G (Wd.startT tl G.tm H) := by
  refine ⟨fun l o e => ?_, fun l l' b e e2 => ?_, fun l e => ?_, fun l e => ?_, fun b z => ?_, fun b z => ?_, fun b ps z => ?_, fun b φ z => ?_⟩
  · have e' : tl[l]?.map (fun p => MO.tab p.1 p.2) = some o := e
    cases q : tl[l]? with
    | none => rw [q] at e'; cases e'
    | some p =>
      rw [q] at e'
      cases e'
      have hm : p ∈ tl := List.mem_of_getElem? q
      refine ⟨G.tm p.1, by show tl[l]?.map _ = _; rw [q]; rfl, ⟨rfl, by rw [hg]; exact hm⟩, #[], hT p hm, True.intro, fun pos cv hc => ?_⟩
      have z : codeAmong pos [] = some cv := hc
      simp [codeAmong] at z
  · have e' : tl[l]?.map (fun p => G.tm p.1) = some b := e
    have e2' : tl[l']?.map (fun p => G.tm p.1) = some b := e2
    rw [← List.getElem?_map] at e' e2'
    obtain ⟨h1, h2⟩ := List.getElem?_eq_some_iff.mp e'
    obtain ⟨h3, h4⟩ := List.getElem?_eq_some_iff.mp e2'
    exact (List.getElem_inj hd).mp (h2.trans h4.symm)
  · have e' : tl[l]?.map (fun p => MO.tab p.1 p.2) = none := e
    show tl[l]?.map _ = none
    cases q : tl[l]? with
    | none => rfl
    | some p => rw [q] at e'; cases e'
  · have e' : tl.length ≤ l := e
    show tl[l]?.map _ = none
    rw [List.getElem?_eq_none e']
    rfl
  · exact absurd z id
  · exact absurd z id
  · obtain ⟨p, hp, e⟩ := List.mem_map.mp (hL b ps z)
    obtain ⟨l, hl, q⟩ := List.mem_iff_getElem.mp hp
    refine ⟨l, ?_⟩
    show tl[l]?.map _ = some b
    rw [List.getElem?_eq_getElem hl, q]
    exact congrArg some e
  · exact absurd z id
theorem startT_ex {tl : List (Nat × Str)} {tm : Nat → Addr} {H : Hp} {b : Addr} (h : b ∉ tl.map fun p => tm p.1) : ¬ (Wd.startT tl tm H).Ex b := fun z => by
  rcases z with z | ⟨l, q⟩
  · exact z
  · have q' : tl[l]?.map (fun p => tm p.1) = some b := q
    cases e : tl[l]? with
    | none => rw [e] at q'; cases q'
    | some p =>
      rw [e] at q'
      cases q'
      exact h (List.mem_map.mpr ⟨p, List.mem_of_getElem? e, rfl⟩)
theorem sp_enterT {K : PySem.W.Frag} {G : Gx} {F : Fn} {ns : List Int} {S' : Sto} {a : Addr} {H : Hp} {E : XK} {tl : List (Nat × Str)} (h : F [.scr ns] (Sto.tabs tl) = some (.v (.bl true), S')) (hg : G.tl = tl) (hd : (tl.map fun p => G.tm p.1).Nodup)
    (hT : ∀ p ∈ tl, H (G.tm p.1) = some (.tbl #[])) (hs : SqL K H a (ns.map V.int)) : spT (tl.map fun p => G.tm p.1) (spOf K G 1 F) [.ref a] H (fun v _ => v = .bl true) E := by
  refine ⟨fun v => v = .bl true, fun v H' q => q, ?_⟩
  have T0 : ∀ p ∈ tl, strip (tl.map fun p => G.tm p.1) H (G.tm p.1) = some (.tbl #[]) := fun p hp => strip_in (List.mem_map.mpr ⟨p, hp, rfl⟩) (hT p hp)
  have na : ∀ {o : HO}, H a = some o → (∀ ps, o ≠ .tbl ps) → a ∉ tl.map fun p => G.tm p.1 := fun {o} e n z => by
    obtain ⟨p, hp, q⟩ := List.mem_map.mp z
    rw [← q, hT p hp] at e
    exact n _ (Option.some.inj e).symm
  refine ⟨Wd.startT tl G.tm (strip _ H), [.scr ns], .v (.bl true), S', rfl, rfl, startT_ok hg hd T0 (fun b ps e => strip_tbl e), .cons ?_ .nil, h, ?_⟩
  · rcases hs with (r | ⟨o, r⟩) | r
    · exact .scl (strip_of r (fun ps q => by cases q)) (startT_ex (na r (fun ps q => by cases q)))
    · exact .scr (.inl ⟨o, strip_of r (fun ps q => by cases q), startT_ex (na r (fun ps q => by cases q))⟩)
    · exact .scr (.inr r)
  · intro v w' e f o r
    cases r
    rfl
end AH
set_option maxRecDepth 100000
set_option maxHeartbeats 0
namespace K17
open PySem PySem.Spec PyProof.Rows L2 AH TL
theorem mkT {w : World} {K : PySem.W.Frag} {h : Heap} {mg : Str → Option Value} (X : K.In h) (G : h.Ns mainGlobals mg) (cX : SaysE fa fn ts tf exF w h K) : ∃ T : Tx w K mg, T.a_law = He.ga K "law" := by
  have c := cX.x.d
  obtain ⟨d_BadText___init__, F_BadText___init__⟩ := c.def_ 0 (d := D_BadText___init__) rfl
  obtain ⟨d_BadSign___init__, F_BadSign___init__⟩ := c.def_ 1 (d := D_BadSign___init__) rfl
  obtain ⟨d_number_of, F_number_of⟩ := c.def_ 2 (d := D_number_of) rfl
  obtain ⟨d_step_of, F_step_of⟩ := c.def_ 3 (d := D_step_of) rfl
  obtain ⟨d_read, F_read⟩ := c.def_ 4 (d := D_read) rfl
  obtain ⟨d__law_begun, F__law_begun⟩ := c.def_ 5 (d := D__law_begun) rfl
  obtain ⟨d__law_take, F__law_take⟩ := c.def_ 6 (d := D__law_take) rfl
  obtain ⟨d__law_alike, F__law_alike⟩ := c.def_ 7 (d := D__law_alike) rfl
  obtain ⟨d__law_told, F__law_told⟩ := c.def_ 8 (d := D__law_told) rfl
  obtain ⟨d__law_anystep, F__law_anystep⟩ := c.def_ 9 (d := D__law_anystep) rfl
  obtain ⟨d__law_rows, F__law_rows⟩ := c.def_ 10 (d := D__law_rows) rfl
  obtain ⟨d__law_number, F__law_number⟩ := c.def_ 11 (d := D__law_number) rfl
  obtain ⟨d__law_step, F__law_step⟩ := c.def_ 12 (d := D__law_step) rfl
  obtain ⟨d__law_spoilt, F__law_spoilt⟩ := c.def_ 13 (d := D__law_spoilt) rfl
  obtain ⟨d_law, F_law⟩ := c.def_ 14 (d := D_law) rfl
  exact ⟨{
    gx_HallError := He.glo_ok X G (c.fact 0 (f := .glo "HallError") rfl),
    gx_BadCount := He.glo_ok X G (c.fact 1 (f := .glo "BadCount") rfl),
    gx_BadFields := He.glo_ok X G (c.fact 2 (f := .glo "BadFields") rfl),
    gx_BadLook := He.glo_ok X G (c.fact 3 (f := .glo "BadLook") rfl),
    gx_BadSign := He.glo_ok X G (c.fact 4 (f := .glo "BadSign") rfl),
    gx_BadSize := He.glo_ok X G (c.fact 5 (f := .glo "BadSize") rfl),
    gx_BadText := He.glo_ok X G (c.fact 6 (f := .glo "BadText") rfl),
    gx_NoLook := He.glo_ok X G (c.fact 7 (f := .glo "NoLook") rfl),
    E := toldB_ok (exF_is cX.ex).1,
    hin := hinB_ok (exF_is cX.ex).2.1,
    o_BadSign := oexB_ok (exF_is cX.ex).2.2.1,
    o_BadText := oexB_ok (exF_is cX.ex).2.2.2,
    k_BACK := He.str_ok X G (c.fact 8 (f := .str "BACK" "<") rfl),
    k_BLANK := He.str_ok X G (c.fact 9 (f := .str "BLANK" " ") rfl),
    k_ENDS := He.str_ok X G (c.fact 10 (f := .str "ENDS" ";") rfl),
    k_FIGURES := He.str_ok X G (c.fact 11 (f := .str "FIGURES" "0123456789") rfl),
    k_LETTERS := He.str_ok X G (c.fact 12 (f := .str "LETTERS" "abcdefghijklmnopqrstuvwxyz") rfl),
    k_MOST_FIGURES := He.int_ok X G (c.fact 13 (f := .int "MOST_FIGURES" 6) rfl),
    n_ValueError := He.free_ok X G (c.fact 14 (f := .free "ValueError") rfl),
    n_bool := He.free_ok X G (c.fact 15 (f := .free "bool") rfl),
    n_enumerate := He.free_ok X G (c.fact 16 (f := .free "enumerate") rfl),
    n_int := He.free_ok X G (c.fact 17 (f := .free "int") rfl),
    n_isinstance := He.free_ok X G (c.fact 18 (f := .free "isinstance") rfl),
    n_len := He.free_ok X G (c.fact 19 (f := .free "len") rfl),
    n_list := He.free_ok X G (c.fact 20 (f := .free "list") rfl),
    n_range := He.free_ok X G (c.fact 21 (f := .free "range") rfl),
    n_str := He.free_ok X G (c.fact 22 (f := .free "str") rfl),
    n_tuple := He.free_ok X G (c.fact 23 (f := .free "tuple") rfl),
    d_BadText___init__ := d_BadText___init__,
    F_BadText___init__ := F_BadText___init__,
    d_BadSign___init__ := d_BadSign___init__,
    F_BadSign___init__ := F_BadSign___init__,
    a_number_of := He.ga K "number_of",
    d_number_of := d_number_of,
    F_number_of := F_number_of,
    g_number_of := He.glo_ok X G (c.fact 24 (f := .glo "number_of") rfl),
    a_step_of := He.ga K "step_of",
    d_step_of := d_step_of,
    F_step_of := F_step_of,
    g_step_of := He.glo_ok X G (c.fact 25 (f := .glo "step_of") rfl),
    a_read := He.ga K "read",
    d_read := d_read,
    F_read := F_read,
    g_read := He.glo_ok X G (c.fact 26 (f := .glo "read") rfl),
    a__law_begun := He.ga K "_law_begun",
    d__law_begun := d__law_begun,
    F__law_begun := F__law_begun,
    g__law_begun := He.glo_ok X G (c.fact 27 (f := .glo "_law_begun") rfl),
    a__law_take := He.ga K "_law_take",
    d__law_take := d__law_take,
    F__law_take := F__law_take,
    g__law_take := He.glo_ok X G (c.fact 28 (f := .glo "_law_take") rfl),
    a__law_alike := He.ga K "_law_alike",
    d__law_alike := d__law_alike,
    F__law_alike := F__law_alike,
    g__law_alike := He.glo_ok X G (c.fact 29 (f := .glo "_law_alike") rfl),
    a__law_told := He.ga K "_law_told",
    d__law_told := d__law_told,
    F__law_told := F__law_told,
    g__law_told := He.glo_ok X G (c.fact 30 (f := .glo "_law_told") rfl),
    a__law_anystep := He.ga K "_law_anystep",
    d__law_anystep := d__law_anystep,
    F__law_anystep := F__law_anystep,
    g__law_anystep := He.glo_ok X G (c.fact 31 (f := .glo "_law_anystep") rfl),
    a__law_rows := He.ga K "_law_rows",
    d__law_rows := d__law_rows,
    F__law_rows := F__law_rows,
    g__law_rows := He.glo_ok X G (c.fact 32 (f := .glo "_law_rows") rfl),
    a__law_number := He.ga K "_law_number",
    d__law_number := d__law_number,
    F__law_number := F__law_number,
    g__law_number := He.glo_ok X G (c.fact 33 (f := .glo "_law_number") rfl),
    a__law_step := He.ga K "_law_step",
    d__law_step := d__law_step,
    F__law_step := F__law_step,
    g__law_step := He.glo_ok X G (c.fact 34 (f := .glo "_law_step") rfl),
    a__law_spoilt := He.ga K "_law_spoilt",
    d__law_spoilt := d__law_spoilt,
    F__law_spoilt := F__law_spoilt,
    g__law_spoilt := He.glo_ok X G (c.fact 35 (f := .glo "_law_spoilt") rfl),
    e_law := rfl,
    a_law := He.ga K "law",
    d_law := d_law,
    F_law := F_law,
    g_law := He.glo_ok X G (c.fact 36 (f := .glo "law") rfl),
    a_ROAD := He.ga K "ROAD",
    gd_ROAD := He.glo_ok X G (c.fact 37 (f := .glo "ROAD") rfl),
    t_ROAD := cX.x.tab 0 (t := ("ROAD", kv_ROAD)) rfl,
    a_SHAPES := He.ga K "SHAPES",
    gd_SHAPES := He.glo_ok X G (c.fact 38 (f := .glo "SHAPES") rfl),
    t_SHAPES := cX.x.tab 1 (t := ("SHAPES", kv_SHAPES)) rfl }, rfl⟩
end K17
open PySem PySem.W PySem.Calls PyProof.Rows
theorem PySem.Challenge.cw_attachhall_k17_texts_of_no_steps_holds : PySem.Challenge.rw_attachhall_k17_texts_of_no_steps.Holds := by
  w_on; o_law
  refine HandSHeadRun.head_any (r := OpenLaw.row PySem.Challenge.rw_attachhall_k17_texts_of_no_steps) (q := view (OpenLaw.row PySem.Challenge.rw_attachhall_k17_texts_of_no_steps).prog [33]) (H := K17.hk) (ob := K17.ob) (M := 12000) (loose := K17.nms) (d := HandSHeadRun.topDef (OpenLaw.row PySem.Challenge.rw_attachhall_k17_texts_of_no_steps).prog 33) (kwd := []) K17.ob_eq
    (by kernel_rfl) (fun s => by kernel_rfl) K17.run (by kernel_rfl) (by kernel_rfl) (by kernel_rfl) (by rfl) (by first | assumption | decide +kernel) (by decide +kernel) ⟨rfl, rfl, rfl, rfl, rfl, by decide +kernel⟩ ?hw ?hc
  case hw => w_witness2
  case hc =>
    refine AH.walk_ofTE (l := PySem.Challenge.rw_attachhall_k17_texts_of_no_steps) (n := 63) (k := 16) (x := "_law_script") rfl (by decide) (by kernel_rfl) ⟨rfl, by decide, by decide⟩ ?F
    intro w mg fa h Y G hmg0
    obtain ⟨K, KX, c⟩ := Y
    have hmg : mg ("law" : PySem.Str) = some (.ref fa) := by
      have e : (HandSHeadRun.topDef (OpenLaw.row PySem.Challenge.rw_attachhall_k17_texts_of_no_steps).prog 33).name = ("law" : PySem.Str) := by kernel_rfl
      rw [← e]
      exact hmg0
    obtain ⟨T, hT⟩ := K17.mkT (w := w) KX G c
    have e : fa = T.a_law := by
      have q := hmg.symm.trans T.g_law
      cases q
      rfl
    subst e
    have hcs : (K17.tl.map fun p => (K17.gx T).tm p.1) = K17.tf.map fun p => He.tabOf K (He.codeOf K p) := by rfl
    refine ⟨K, KX, T.d_law, K17.tf.map (fun p => (He.codeOf K p, He.tabOf K (He.codeOf K p))), AH.spT (K17.tl.map fun p => (K17.gx T).tm p.1) (AH.spOf K (K17.gx T) 1 K17.F_law), fun q hq => ?h1, fun q hq => ?h2, fun q hq => ?h3, fun s v => T.F_law.bindsA (ps := ["_law_script"]) (fun _ _ _ _ _ _ us hl => match us, hl with | [_], _ => rfl) s [v] rfl, fun H a ns hl hb hH hS => ?h4, fun base kb nb hTB => AH.fn_strip _ (K17.ok_law T (hTB _ (List.mem_map.mpr ⟨("law", none), by simp [K17.tf], rfl⟩)))⟩
    case h1 =>
      obtain ⟨p, hp, rfl⟩ := List.mem_map.mp hq
      exact c.em p hp
    case h2 =>
      obtain ⟨p, hp, rfl⟩ := List.mem_map.mp hq
      exact c.no p hp
    case h3 =>
      obtain ⟨p, hp, rfl⟩ := List.mem_map.mp hq
      exact PySem.W.codeHd_of_K KX (c.cd p hp)
    case h4 =>
      obtain ⟨S', hp⟩ := K17.law_true ns hl
      refine AH.sp_enterT hp rfl (by rw [hcs]; exact K17.exF_nd c.ex) (fun q hq => ?_) hS
      have hm : (K17.gx T).tm q.1 ∈ K17.tf.map fun p => He.tabOf K (He.codeOf K p) := by
        rw [← hcs]
        exact List.mem_map.mpr ⟨q, hq, rfl⟩
      obtain ⟨p, hp2, e2⟩ := List.mem_map.mp hm
      rw [← e2]
      exact hH (He.codeOf K p, He.tabOf K (He.codeOf K p)) (List.mem_map.mpr ⟨p, hp2, rfl⟩)
