import PyProof.Rows.All
import Wide.All
import OpenK.AllK
import HandS.Words
import HandS.ClsMeth
import HandS.Property
import HandS.Head0
import HandS.Head1
import HandS.Head2
import HandS.HeadEnd
import HandS.HeadHook1
import HandS.HeadHook2
import Wide.FinOn
import HandS.ForMost
import HandS.ForExc
import HandS.Wide
import HandS.IsInst
import HandS.ExcField
import KE.KExcIs
import HandS.Deep
import HandS.RaiseMore
import HandS.SortInts
import HandS.OwnEq
import HandS.TupAny
import HandS.CallSlots
import HandS.TryMany
import KE.KExcSuper
import HandS.ExcInit
import PyProof.InstNe
import HandS.Zip
import KE.GoesMore
import KE.GoesEnum
import HandS.FStr
import KE.KFmtOwn
import KE.KCallOwn
import KE.KOpsOwn
import HandS.Star
import HandS.Style
import KE.KEqNest
import PyProof.MaxThree
import HandS.Rev
import HandS.SetFor
import PySem.Challenge.RW_waterbyturns_k22_options_that_are_good_o
set_option Elab.async false
set_option linter.all false
set_option maxRecDepth 100000
set_option maxHeartbeats 4000000
namespace HX
open PySem PySem.Spec PyProof.Rows L2
abbrev Fg := PySem.W.Frag
abbrev Ad := Fg → Addr
def refOr : Option (Option Value) → Addr
  | some (some (.ref a)) => a
  | _ => 0
def gA (x : Str) : Ad := fun K => refOr (PySem.W.nsIn K mainGlobals x)
def mA (C m : Str) : Ad := fun K => refOr (PySem.W.findIn K (.ref (gA C K)) m)
def tokI (x : Str) (K : Fg) : Tok := match PySem.W.nsIn K mainGlobals x with
  | some (some (.int _ t)) => t
  | some (some (.str _ t)) => t
  | _ => 0
def opt (o : Option (Option Value)) : Option Value := o.getD none
theorem opt_ok {o : Option (Option Value)} (h : o.isSome = true) : o = some (opt o) := by
  cases o with
  | none => cases h
  | some x => rfl
def tailOf : List Value → Option (Addr × List Value)
  | .ref c :: bm => some (c, bm)
  | _ => none
def excB (C : Str) (K : Fg) : Bool := match K.lookup (gA C K) with
  | some ⟨.type t, _, .cls cd, sl⟩ => decide (t = "type") && (cd.hasDict && (!cd.hasDel && ((match tailOf cd.mro with
    | some (c, bm) => decide (c = gA C K) && PySem.HandSPX.refsVE bm
    | none => false) && (match sl.toList with
    | [_, _, _, _, some (.builtin n), _] => decide (n = "ValueError.__new__")
    | _ => false))))
  | _ => false
theorem tail_ok {l : List Value} {c : Addr} {bm : List Value} (h : tailOf l = some (c, bm)) : l = .ref c :: bm := by
  unfold tailOf at h
  split at h
  · cases h
    rfl
  · cases h
theorem exc_ok {C : Str} {K : Fg} (h : excB C K = true) : ∃ nm q N bs bm sn sub ab col dd k0 k1 k2 k3 k5, K.lookup (gA C K) = some (excClassObj nm q (gA C K) N bs bm true sn sub ab col dd k0 k1 k2 k3 k5 "ValueError.__new__") ∧ PySem.HandSPX.refsVE bm = true := by
  unfold excB at h
  split at h
  · rename_i t dd cd sl e
    rw [Bool.and_eq_true, Bool.and_eq_true, Bool.and_eq_true, Bool.and_eq_true, decide_eq_true_iff] at h
    obtain ⟨rfl, h1, h2, h3, h4⟩ := h
    obtain ⟨c1, c2, c3, c4, c5, c6, c7, c8, c9, c10, c11⟩ := cd
    split at h3
    · rename_i c bm em
      rw [Bool.and_eq_true, decide_eq_true_iff] at h3
      obtain ⟨rfl, h3⟩ := h3
      split at h4
      · rename_i k0 k1 k2 k3 n k5 es
        rw [decide_eq_true_iff] at h4
        subst h4
        have em' := tail_ok em
        have es' : sl = #[k0, k1, k2, k3, some (.builtin "ValueError.__new__"), k5] := by
          obtain ⟨l⟩ := sl
          exact congrArg Array.mk es
        dsimp only at h1 h2 em'
        rw [Bool.not_eq_true'] at h2
        subst h1 h2 em' es'
        exact ⟨_, _, _, _, _, _, _, _, _, _, _, _, _, _, _, e, h3⟩
      · cases h4
    · cases h3
  · cases h
abbrev FnZ : Type := Option (Str × Str × Arguments × FuncBody × Scope × Addr × List Str × Addr)
def fnZ (K : Fg) (a : Addr) : FnZ := match K.lookup a with
  | some ⟨_, _, .func fd, _⟩ => some (fd.name, fd.qualname, fd.params, fd.body, fd.scope, fd.globals, fd.closure.map (·.1), fd.builtins)
  | _ => none
structure Df where
  at_ : Ad
  name : Str
  qual : Str
  st : Stmt
  cl : List Str := []
def Df.val (d : Df) : FnZ := some (d.name, d.qual, defArgs d.st, .stmts (defBody d.st), defScope d.st, mainGlobals, d.cl, builtinsNs)
def noV : Value → Bool
  | .none => true
  | _ => false
def Df.ok (K : Fg) (d : Df) : Bool := PySem.W.keepIn K (.ref (d.at_ K)) && (match K.lookup (d.at_ K) with
  | some ⟨_, _, .func fd, _⟩ => PySem.W.codeIn K fd.code d.qual && noV fd.defaults
  | _ => false)
theorem noV_ok {v : Value} (h : noV v = true) : v = .none := by
  cases v <;> first | rfl | cases h
theorem Df.mk_ {K : Fg} {d : Df} (e : fnZ K (d.at_ K) = d.val) (c : d.ok K = true) (hc : d.cl = []) : ∃ fd, Fun K d.name d.qual d.st (d.at_ K) fd := by
  unfold Df.ok at c
  rw [Bool.and_eq_true] at c
  obtain ⟨kp, c2⟩ := c
  unfold fnZ at e
  split at e
  · rename_i oc od fd osl q
    rw [q] at c2
    obtain ⟨n1, n2, n3, n4, n5, n6, n7, n8, n9, n10, n11, n12, n13, n14, n15⟩ := fd
    have e2 : (some (n1, n2, n3, n4, n5, n6, n7.map (·.1), n15) : FnZ) = some (d.name, d.qual, defArgs d.st, .stmts (defBody d.st), defScope d.st, mainGlobals, d.cl, builtinsNs) := e
    rw [hc] at e2
    simp only [Option.some.injEq, Prod.mk.injEq, List.map_eq_nil_iff] at e2
    obtain ⟨rfl, rfl, rfl, rfl, rfl, rfl, rfl, rfl⟩ := e2
    have c3 : (PySem.W.codeIn K n13 d.qual && noV n8) = true := c2
    rw [Bool.and_eq_true] at c3
    obtain ⟨k1, k2⟩ := c3
    have k3 := noV_ok k2
    subst k3
    exact ⟨_, ⟨_, _, _, _, _, _, _, _, _, rfl, q, k1⟩, kp⟩
  · cases e
def sup (i : Ad) (C : Str) (file : Str) (K : Fg) : Bool := match K.lookup (i K) with
  | some ⟨_, _, .func fd, _⟩ => (match fd.closure with
    | [(_, cc)] => (match K.lookup cc with
      | some ⟨_, _, .cell (some (.ref c)), _⟩ => decide (c = gA C K)
      | _ => false)
    | _ => false) && (match fd.code with
    | .ref cda => (match K.lookup cda with
      | some ⟨_, _, .fields vs, _⟩ => (match (vs[2]? : Option Value) with
        | some (.str f _) => file == f
        | _ => false)
      | _ => false)
    | _ => false)
  | _ => false
theorem Df.sup_ {K : Fg} {d : Df} {C file : Str} (e : fnZ K (d.at_ K) = d.val) (c : d.ok K = true) (hc : d.cl = [("__class__" : Str)]) (hn : d.name = "__init__") (s : sup d.at_ C file K = true) : ∃ (oc : Value) (od : Option Addr) (kV doc pm : Value) (an : Option Addr) (cda cc : Addr) (ct : Value) (osl : Array (Option Value)),
    K.lookup (d.at_ K) = some ⟨oc, od, .func (PySem.W.fnX "__init__" d.qual (L2.defArgs d.st) (L2.defBody d.st) (L2.defScope d.st) [("__class__", cc)] .none kV doc pm an (.ref cda) ct), osl⟩ ∧ PySem.W.codeIn K (.ref cda) d.qual = true ∧
    (∃ ccl cdd vs ccs file' tf, K.lookup cda = some ⟨ccl, cdd, .fields vs, ccs⟩ ∧ vs[2]? = some (.str file' tf) ∧ (file == file') = true) ∧
    (∃ cl cld csl, K.lookup cc = some ⟨cl, cld, .cell (some (.ref (gA C K))), csl⟩) := by
  unfold Df.ok at c
  rw [Bool.and_eq_true] at c
  obtain ⟨kp, c2⟩ := c
  unfold fnZ at e
  split at e
  · rename_i oc od fd osl q
    rw [q] at c2
    unfold sup at s
    rw [q] at s
    obtain ⟨n1, n2, n3, n4, n5, n6, n7, n8, n9, n10, n11, n12, n13, n14, n15⟩ := fd
    have e2 : (some (n1, n2, n3, n4, n5, n6, n7.map (·.1), n15) : FnZ) = some (d.name, d.qual, defArgs d.st, .stmts (defBody d.st), defScope d.st, mainGlobals, d.cl, builtinsNs) := e
    rw [hc, hn] at e2
    simp only [Option.some.injEq, Prod.mk.injEq] at e2
    obtain ⟨rfl, rfl, rfl, rfl, rfl, rfl, h7, rfl⟩ := e2
    have c3 : (PySem.W.codeIn K n13 d.qual && noV n8) = true := c2
    rw [Bool.and_eq_true] at c3
    obtain ⟨k1, k2⟩ := c3
    have k3 := noV_ok k2
    subst k3
    dsimp only at s
    rw [Bool.and_eq_true] at s
    obtain ⟨s1, s2⟩ := s
    split at s1
    · rename_i x cc
      have hx : x = "__class__" := by simpa using h7
      subst hx
      split at s1
      · rename_i cl cld c csl qc
        rw [decide_eq_true_iff] at s1
        subst s1
        split at s2
        · rename_i cda
          split at s2
          · rename_i ccl cdd vs ccs qd
            split at s2
            · rename_i f tf qf
              exact ⟨_, _, _, _, _, _, cda, cc, _, _, q, k1, ⟨_, _, _, _, f, tf, qd, qf, s2⟩, ⟨_, _, _, qc⟩⟩
            · cases s2
          · cases s2
        · cases s2
      · cases s1
    · cases s1
  · cases e
def asA (g : Addr → Option Obj) : Nat → List Addr
  | 0 => [mainGlobals, cStatics]
  | n + 1 => He.growD g (asA g n)
abbrev Al : Type := Bool × List FnZ
def obs (fs : Fg → List Bool) (ds : List Df) (K : Fg) : Al := ((fs K).all id && ds.all fun d => d.ok K, ds.map fun d => fnZ K (d.at_ K))
def val (ds : List Df) : Al := (true, ds.map Df.val)
def Says (fs : Fg → List Bool) (ds : List Df) (K : Fg) : Prop := obs fs ds K = val ds
def obsG (n : Nat) (fs : Fg → List Bool) (ds : List Df) (g : Addr → Option Obj) : Al := obs fs ds (He.frG g (asA g n))
def hook (n : Nat) (fs : Fg → List Bool) (ds : List Df) : PySem.W.Hook where
  α := Al
  obs := fun s => obsG n fs ds s.heap.get?
  val := fun _ => val ds
  says := fun _ h => ∃ K : PySem.W.Frag, K.In h ∧ Says fs ds K
  of := fun _ _ e => ⟨_, He.frG_in, e⟩
  keeps := fun _ _ _ ⟨K, hK, c⟩ k => ⟨K, PySem.W.Frag.In.keeps hK k, c⟩
theorem obsG_eq {n : Nat} {fs : Fg → List Bool} {ds : List Df} {g : Addr → Option Obj} {s : Shared} (h : ∀ a, g a = s.heap.get? a) : obsG n fs ds g = (hook n fs ds).obs s := by
  have e : g = s.heap.get? := funext h
  rw [e] <;> rfl
section
variable {fs : Fg → List Bool} {ds : List Df} {K : Fg}
theorem Says.all (c : Says fs ds K) : ((fs K).all id && ds.all fun d => d.ok K) = true := congrArg (fun z : Al => z.1) c
theorem Says.fact (c : Says fs ds K) (i : Nat) {b : Bool} (h : (fs K)[i]? = some b := by rfl) : b = true := List.all_eq_true.mp (Bool.and_eq_true_iff.mp c.all).1 b (List.mem_of_getElem? h)
theorem Says.at_ (c : Says fs ds K) (i : Nat) {d : Df} (h : ds[i]? = some d) : fnZ K (d.at_ K) = d.val ∧ d.ok K = true := by
  have e : ds.map (fun d => fnZ K (d.at_ K)) = ds.map Df.val := congrArg (fun z : Al => z.2) c
  have e2 : (ds.map fun d => fnZ K (d.at_ K))[i]? = (ds.map Df.val)[i]? := by rw [e]
  rw [List.getElem?_map, List.getElem?_map, h] at e2
  exact ⟨Option.some.inj e2, List.all_eq_true.mp (Bool.and_eq_true_iff.mp c.all).2 d (List.mem_of_getElem? h)⟩
theorem Says.fn (c : Says fs ds K) (i : Nat) {d : Df} (h : ds[i]? = some d := by rfl) (hc : d.cl = [] := by rfl) : ∃ fd, Fun K d.name d.qual d.st (d.at_ K) fd := Df.mk_ (c.at_ i h).1 (c.at_ i h).2 hc
end
theorem walkO {l : PySem.W.OpenLaw} {k m : Nat} {q : Program} {loose : List Str} {Xp : (Str → Option Value) → Heap → Prop} {Yp : World → Heap → Prop} {d : DefRec} {cx : World → CXT} {y : Str}
    (e1 : l.most = some m) (e2 : m ≤ sizeLine) (e3 : d.params.defaults = []) (room : Room k callerA) (no : ∀ (w : World) (H : Hp) (s : Shared) (e : Value) (s' : Shared), cx w [] H s (fun _ _ _ => False) e s' → False)
    (told : ∀ (w : World) (ns : Str → Option Value) (f : Addr) (h : Heap), Yp w h → h.Ns mainGlobals ns → ns d.name = some (.ref f) → ∃ (K : Fg) (fd : FuncData) (sp : Sp), K.In h ∧ (∀ (s : Shared) (v : Value), BindsTo s fd ⟨[v], []⟩ [(y, v)]) ∧
      (∀ (H : Hp) (a : Addr) (xs : List Int), xs.length ≤ m → Only H → SqL K H a (xs.map V.int) → sp [.ref a] H (fun v _ => v = .bl true) fun _ _ _ => False) ∧ ∀ base : Heap, K.In base → base.Ns mainGlobals ns → FnOk l.prog w K ns base (cx w) k f fd [y] sp) :
    PySem.W.WalkO q loose Xp Yp l.row.toRowW d [] (fun g us => PySem.call g us) := Att.attach_call e1 e3 fun w s0 s1 ns mb f o pm cd doc a us xs g yy ho hd hcd hns hobj hints hlen hg =>
  let ⟨_, _, _, ki, hb, hs, hf⟩ := told w ns f _ yy g.T.g hns
  law_call ki g.T.g g.T.b g.T.builtins g.T.nolimit hg hobj hints (Nat.le_trans hlen e2) room hf hb (fun H only sq => hs H a xs hlen only sq) fun H e s' => no w H s1 e s'
end HX
namespace K22
open PySem PySem.Spec PyProof.Rows L2
def topS (i : Nat) : Stmt := PySem.Challenge.pw_waterbyturns_k22_options_that_are_good_o.main.body.getD i (.Pass ⟨0, 0, 0, 0⟩)
abbrev s_law_start : Stmt := topS 17
abbrev s_law_draw : Stmt := topS 18
abbrev s_law_target : Stmt := topS 19
abbrev s_law_game : Stmt := topS 20
abbrev s_law_copy : Stmt := topS 21
abbrev s_is_integer : Stmt := topS 5
abbrev s_check_number : Stmt := topS 6
abbrev s_check_game : Stmt := topS 9
abbrev s_users_of : Stmt := topS 10
abbrev s_fail_options : Stmt := topS 11
abbrev s_ranks : Stmt := topS 12
abbrev s_good_options : Stmt := topS 13
abbrev s_spoiler_of : Stmt := topS 14
abbrev s_spoilers : Stmt := topS 15
abbrev s_law_spoilers : Stmt := topS 23
abbrev s_law_good : Stmt := topS 22
abbrev s_law_asked : Stmt := topS 24
abbrev s_law : Stmt := topS 25
abbrev s_BadNumber_init : Stmt := inClass (topS 2) 0
abbrev s_TooMany_init : Stmt := inClass (topS 3) 0
def fs0 (K : PySem.W.Frag) : List Bool := [decide (PySem.W.nsIn K mainGlobals "MOST_NODES" = some (some (.int 12000 (HX.tokI "MOST_NODES" K)))),
  decide (PySem.W.nsIn K mainGlobals "abs" = some none),
  decide (PySem.W.nsIn K mainGlobals "all" = some none),
  decide (PySem.W.nsIn K mainGlobals "any" = some none),
  decide (PySem.W.nsIn K mainGlobals "bool" = some none),
  decide (PySem.W.nsIn K mainGlobals "enumerate" = some none),
  decide (PySem.W.nsIn K mainGlobals "int" = some none),
  decide (PySem.W.nsIn K mainGlobals "isinstance" = some none),
  decide (PySem.W.nsIn K mainGlobals "len" = some none),
  decide (PySem.W.nsIn K mainGlobals "list" = some none),
  decide (PySem.W.nsIn K mainGlobals "min" = some none),
  decide (PySem.W.nsIn K mainGlobals "range" = some none),
  decide (PySem.W.nsIn K mainGlobals "WaterError" = some (some (.ref (HX.gA "WaterError" K)))),
  decide (PySem.W.nsIn K mainGlobals "BadNumber" = some (some (.ref (HX.gA "BadNumber" K)))),
  decide (PySem.W.nsIn K mainGlobals "TooMany" = some (some (.ref (HX.gA "TooMany" K)))),
  decide (PySem.W.nsIn K cStatics "thirdparty.any" = some none),
  decide (PySem.W.nsIn K mainGlobals "super" = some none),
  decide (PySem.W.specialIn K (.builtin "object.__class__") "__get__" = some (some (.builtin "getset_descriptor.__get__"))),
  decide (PySem.W.takesIn K (.builtin "object.__class__") = some true),
  decide (PySem.W.subIn K (.ref (HX.gA "WaterError" K)) (.type "BaseException") = some true),
  decide (PySem.W.typeIn K (.ref (HX.gA "WaterError" K)) = some (.type "type")),
  PySem.W.isClsIn K (HX.gA "WaterError" K),
  decide (PySem.W.subIn K (.ref (HX.gA "BadNumber" K)) (.type "BaseException") = some true),
  decide (PySem.W.typeIn K (.ref (HX.gA "BadNumber" K)) = some (.type "type")),
  PySem.W.isClsIn K (HX.gA "BadNumber" K),
  decide (PySem.W.subIn K (.ref (HX.gA "TooMany" K)) (.type "BaseException") = some true),
  decide (PySem.W.typeIn K (.ref (HX.gA "TooMany" K)) = some (.type "type")),
  PySem.W.isClsIn K (HX.gA "TooMany" K),
  decide (PySem.W.subIn K (.ref (HX.gA "BadNumber" K)) (.ref (HX.gA "WaterError" K)) = some true),
  decide (PySem.W.subIn K (.ref (HX.gA "BadNumber" K)) (.ref (HX.gA "BadNumber" K)) = some true)]
def fs1 (K : PySem.W.Frag) : List Bool := [decide (PySem.W.subIn K (.ref (HX.gA "BadNumber" K)) (.ref (HX.gA "TooMany" K)) = some false),
  decide (PySem.W.subIn K (.ref (HX.gA "TooMany" K)) (.ref (HX.gA "WaterError" K)) = some true),
  decide (PySem.W.subIn K (.ref (HX.gA "TooMany" K)) (.ref (HX.gA "BadNumber" K)) = some false),
  decide (PySem.W.subIn K (.ref (HX.gA "TooMany" K)) (.ref (HX.gA "TooMany" K)) = some true),
  decide (PySem.W.subIn K (.ref (HX.gA "WaterError" K)) (.ref (HX.gA "WaterError" K)) = some true),
  HX.excB "BadNumber" K,
  decide (PySem.W.findIn K (.ref (HX.gA "BadNumber" K)) "__setattr__" = some (some (.builtin "object.__setattr__"))),
  decide (PySem.W.findIn K (.ref (HX.gA "BadNumber" K)) "__getattribute__" = some (some (.builtin "BaseException.__getattribute__"))),
  decide (PySem.W.findIn K (.ref (HX.gA "BadNumber" K)) "__getattr__" = some none),
  PySem.W.hasDictIn K (HX.gA "BadNumber" K),
  decide (PySem.W.findIn K (.ref (HX.gA "BadNumber" K)) "__class__" = some (some (.builtin "object.__class__"))),
  decide (PySem.W.mroIn K (HX.gA "BadNumber" K) (.type "object") = some true),
  decide (PySem.W.mroIn K (HX.gA "BadNumber" K) (.ref (HX.gA "BadNumber" K)) = some true),
  decide (PySem.W.findIn K (.ref (HX.gA "BadNumber" K)) "what" = some none),
  decide (PySem.W.findIn K (.ref (HX.gA "BadNumber" K)) "value" = some none),
  decide (PySem.W.findIn K (.ref (HX.gA "BadNumber" K)) "__init__" = some (some (.ref (HX.mA "BadNumber" "__init__" K)))),
  decide (PySem.W.typeIn K (.ref (HX.mA "BadNumber" "__init__" K)) = some (.type "function")),
  PySem.W.keepIn K (.ref (HX.gA "BadNumber" K)),
  decide (PySem.W.subIn K (.ref (HX.gA "BadNumber" K)) (.type "ValueError") = some true),
  decide (PySem.W.ks_superIn K (HX.gA "BadNumber" K) (HX.gA "BadNumber" K) "__init__" = some (some (.builtin "ValueError.__init__"))),
  HX.sup (HX.mA "BadNumber" "__init__") "BadNumber" PySem.Challenge.pw_waterbyturns_k22_options_that_are_good_o.main.file K,
  HX.excB "TooMany" K,
  decide (PySem.W.findIn K (.ref (HX.gA "TooMany" K)) "__setattr__" = some (some (.builtin "object.__setattr__"))),
  decide (PySem.W.findIn K (.ref (HX.gA "TooMany" K)) "__getattribute__" = some (some (.builtin "BaseException.__getattribute__"))),
  decide (PySem.W.findIn K (.ref (HX.gA "TooMany" K)) "__getattr__" = some none),
  PySem.W.hasDictIn K (HX.gA "TooMany" K),
  decide (PySem.W.findIn K (.ref (HX.gA "TooMany" K)) "__class__" = some (some (.builtin "object.__class__"))),
  decide (PySem.W.mroIn K (HX.gA "TooMany" K) (.type "object") = some true),
  decide (PySem.W.mroIn K (HX.gA "TooMany" K) (.ref (HX.gA "TooMany" K)) = some true),
  decide (PySem.W.findIn K (.ref (HX.gA "TooMany" K)) "limit" = some none)]
def fs2 (K : PySem.W.Frag) : List Bool := [decide (PySem.W.findIn K (.ref (HX.gA "TooMany" K)) "__init__" = some (some (.ref (HX.mA "TooMany" "__init__" K)))),
  decide (PySem.W.typeIn K (.ref (HX.mA "TooMany" "__init__" K)) = some (.type "function")),
  PySem.W.keepIn K (.ref (HX.gA "TooMany" K)),
  decide (PySem.W.subIn K (.ref (HX.gA "TooMany" K)) (.type "ValueError") = some true),
  decide (PySem.W.ks_superIn K (HX.gA "TooMany" K) (HX.gA "TooMany" K) "__init__" = some (some (.builtin "ValueError.__init__"))),
  HX.sup (HX.mA "TooMany" "__init__") "TooMany" PySem.Challenge.pw_waterbyturns_k22_options_that_are_good_o.main.file K,
  decide (PySem.W.nsIn K mainGlobals "_law_start" = some (some (.ref (HX.gA "_law_start" K)))),
  decide (PySem.W.nsIn K mainGlobals "_law_draw" = some (some (.ref (HX.gA "_law_draw" K)))),
  decide (PySem.W.nsIn K mainGlobals "_law_target" = some (some (.ref (HX.gA "_law_target" K)))),
  decide (PySem.W.nsIn K mainGlobals "_law_game" = some (some (.ref (HX.gA "_law_game" K)))),
  decide (PySem.W.nsIn K mainGlobals "_law_copy" = some (some (.ref (HX.gA "_law_copy" K)))),
  decide (PySem.W.nsIn K mainGlobals "is_integer" = some (some (.ref (HX.gA "is_integer" K)))),
  decide (PySem.W.nsIn K mainGlobals "check_number" = some (some (.ref (HX.gA "check_number" K)))),
  decide (PySem.W.nsIn K mainGlobals "check_game" = some (some (.ref (HX.gA "check_game" K)))),
  decide (PySem.W.nsIn K mainGlobals "users_of" = some (some (.ref (HX.gA "users_of" K)))),
  decide (PySem.W.nsIn K mainGlobals "fail_options" = some (some (.ref (HX.gA "fail_options" K)))),
  decide (PySem.W.nsIn K mainGlobals "ranks" = some (some (.ref (HX.gA "ranks" K)))),
  decide (PySem.W.nsIn K mainGlobals "good_options" = some (some (.ref (HX.gA "good_options" K)))),
  decide (PySem.W.nsIn K mainGlobals "spoiler_of" = some (some (.ref (HX.gA "spoiler_of" K)))),
  decide (PySem.W.nsIn K mainGlobals "spoilers" = some (some (.ref (HX.gA "spoilers" K)))),
  decide (PySem.W.nsIn K mainGlobals "_law_spoilers" = some (some (.ref (HX.gA "_law_spoilers" K)))),
  decide (PySem.W.nsIn K mainGlobals "_law_good" = some (some (.ref (HX.gA "_law_good" K)))),
  decide (PySem.W.nsIn K mainGlobals "_law_asked" = some (some (.ref (HX.gA "_law_asked" K)))),
  decide (PySem.W.nsIn K mainGlobals "law" = some (some (.ref (HX.gA "law" K))))]
def fs (K : PySem.W.Frag) : List Bool := fs0 K ++ (fs1 K ++ (fs2 K))
def ds0 : List HX.Df := [⟨HX.mA "BadNumber" "__init__", "__init__", "BadNumber.__init__", s_BadNumber_init, ["__class__"]⟩,
  ⟨HX.mA "TooMany" "__init__", "__init__", "TooMany.__init__", s_TooMany_init, ["__class__"]⟩,
  ⟨(HX.gA "_law_start"), "_law_start", "_law_start", s_law_start, []⟩,
  ⟨(HX.gA "_law_draw"), "_law_draw", "_law_draw", s_law_draw, []⟩,
  ⟨(HX.gA "_law_target"), "_law_target", "_law_target", s_law_target, []⟩,
  ⟨(HX.gA "_law_game"), "_law_game", "_law_game", s_law_game, []⟩,
  ⟨(HX.gA "_law_copy"), "_law_copy", "_law_copy", s_law_copy, []⟩,
  ⟨(HX.gA "is_integer"), "is_integer", "is_integer", s_is_integer, []⟩,
  ⟨(HX.gA "check_number"), "check_number", "check_number", s_check_number, []⟩,
  ⟨(HX.gA "check_game"), "check_game", "check_game", s_check_game, []⟩,
  ⟨(HX.gA "users_of"), "users_of", "users_of", s_users_of, []⟩,
  ⟨(HX.gA "fail_options"), "fail_options", "fail_options", s_fail_options, []⟩,
  ⟨(HX.gA "ranks"), "ranks", "ranks", s_ranks, []⟩,
  ⟨(HX.gA "good_options"), "good_options", "good_options", s_good_options, []⟩,
  ⟨(HX.gA "spoiler_of"), "spoiler_of", "spoiler_of", s_spoiler_of, []⟩,
  ⟨(HX.gA "spoilers"), "spoilers", "spoilers", s_spoilers, []⟩,
  ⟨(HX.gA "_law_spoilers"), "_law_spoilers", "_law_spoilers", s_law_spoilers, []⟩,
  ⟨(HX.gA "_law_good"), "_law_good", "_law_good", s_law_good, []⟩,
  ⟨(HX.gA "_law_asked"), "_law_asked", "_law_asked", s_law_asked, []⟩,
  ⟨(HX.gA "law"), "law", "law", s_law, []⟩]
def ds : List HX.Df := ds0
def names0 : List Str := ["WaterError", "BadNumber", "TooMany", "is_integer", "check_number", "MOST_NODES", "check_game", "users_of", "fail_options", "ranks", "good_options", "spoiler_of", "spoilers", "_law_start", "_law_draw", "_law_target", "_law_game", "_law_copy", "_law_good", "_law_spoilers", "_law_asked"]
def names : List Str := names0
abbrev rowR : PySem.W.OpenRow := PySem.W.OpenLaw.row PySem.Challenge.rw_waterbyturns_k22_options_that_are_good_o
abbrev hk : PySem.W.Hook := HX.hook 5 fs ds
def ob (s : PySem.W.SharedT) : HX.Al := HX.obsG 5 fs ds (HandSHeadRun.getT s)
theorem ob_eq (s : PySem.W.SharedT) : ob s = hk.obs s.abs := HX.obsG_eq (HandSHeadRun.getT_eq s)
set_option maxHeartbeats 0 in
theorem run (w : World) : HandSHeadRun.RunEq rowR (PySem.W.view rowR.prog [25]) hk ob 100000 names w := by
  intro os
  kernel_rfl
end K22
namespace DL
open PySem L2
inductive D where
  | non | bl (b : Bool) | int (i : Int) | str (s : Str)
  | tup (l : List D) | lst (l : List D)
  | obj (c : Nat) (ns : List Str) (l : List D)
  | exc (c : Nat) (ns : List Str) (l : List D)
  | loc (n : Nat)
  /-- the script -/
  | scr (l : List Int)
inductive M where
  | val (d : D) | lst (l : List M) | tup (l : List M) | obj (c : Nat) (ns : List Str) (l : List M)
  /-- .. whose value is told by G -/
  | pin (n : Nat) (m : M)
structure Gx where
  K : PySem.W.Frag
  T : Nat → Addr
  /-- the values that are pinned -/
  P : Nat → V → Prop
def ExV (cls : Value) (dd : Option Addr) (a : Addr) : HO := .ext fun h => ∃ (oe : Obj) (vs : Array Value), h.get? a = some oe ∧ Zc cls dd oe ∧ oe.data = .fields vs
mutual
def Rep (G : Gx) (B : Hp) (ρ : List Addr) : D → V → Prop
  | .non, v => v = .non
  | .bl b, v => v = .bl b
  | .int i, v => v = .int i
  | .str s, v => v = .str s
  | .tup ds, v => ∃ p xs, v = .ref p ∧ SqT G.K B p xs ∧ Reps G B ρ ds xs
  | .lst ds, v => ∃ p xs, v = .ref p ∧ B p = some (.lst xs) ∧ Reps G B ρ ds xs
  | .obj c ns ds, v => ∃ p dx xs, v = .ref p ∧ B p = some (.ins (G.T c) dx (ns.zip xs)) ∧ ns.length = xs.length ∧ Reps G B ρ ds xs
  | .exc c ns ds, v => ∃ p dd, v = .ref p ∧ B p = some (ExV (.ref (G.T c)) dd p) ∧ ((ns = [] ∧ ds = [] ∧ dd = none) ∨ ∃ d xs, dd = some d ∧ B d = some (.xd (ns.zip xs)) ∧ ns.length = xs.length ∧ Reps G B ρ ds xs)
  | .loc n, v => ∃ p, ρ[n]? = some p ∧ v = .ref p
  | .scr l, v => ∃ p, v = .ref p ∧ SqL G.K B p (l.map V.int)
def Reps (G : Gx) (B : Hp) (ρ : List Addr) : List D → List V → Prop
  | [], xs => xs = []
  | d :: ds, xs => ∃ x r, xs = x :: r ∧ Rep G B ρ d x ∧ Reps G B ρ ds r
end
mutual
theorem Rep.mono {G : Gx} {B B' : Hp} {ρ : List Addr} (e : Same B B') : ∀ (d : D) (v : V), Rep G B ρ d v → Rep G B' ρ d v
  | .non, v, h => h
  | .bl b, v, h => h
  | .int i, v, h => h
  | .str s, v, h => h
  | .tup ds, v, h => by
    obtain ⟨p, xs, h1, h2, h3⟩ := h
    refine ⟨p, xs, h1, ?_, Reps.mono e ds xs h3⟩
    rcases h2 with (h2 | ⟨o, h2⟩) | h2
    · exact .inl (.inl (e _ _ h2))
    · exact .inl (.inr ⟨o, e _ _ h2⟩)
    · exact .inr h2
  | .lst ds, v, h => by
    obtain ⟨p, xs, h1, h2, h3⟩ := h
    exact ⟨p, xs, h1, e _ _ h2, Reps.mono e ds xs h3⟩
  | .obj c ns ds, v, h => by
    obtain ⟨p, dx, xs, h1, h2, h4, h3⟩ := h
    exact ⟨p, dx, xs, h1, e _ _ h2, h4, Reps.mono e ds xs h3⟩
  | .exc c ns ds, v, h => by
    obtain ⟨p, dd, h1, h2, h3⟩ := h
    refine ⟨p, dd, h1, e _ _ h2, ?_⟩
    rcases h3 with h3 | ⟨d, xs, h4, h5, h6, h7⟩
    · exact .inl h3
    · exact .inr ⟨d, xs, h4, e _ _ h5, h6, Reps.mono e ds xs h7⟩
  | .loc n, v, h => h
  | .scr l, v, h => by
    obtain ⟨p, h1, h2⟩ := h
    exact ⟨p, h1, e.seq h2⟩
theorem Reps.mono {G : Gx} {B B' : Hp} {ρ : List Addr} (e : Same B B') : ∀ (ds : List D) (xs : List V), Reps G B ρ ds xs → Reps G B' ρ ds xs
  | [], xs, h => h
  | d :: ds, xs, h => by
    obtain ⟨x, r, h1, h2, h3⟩ := h
    exact ⟨x, r, h1, Rep.mono e d x h2, Reps.mono e ds r h3⟩
end
section
variable {G : Gx} {B B' H H' : Hp} {ρ R : List Addr}
theorem Reps.nil : Reps G B ρ [] [] := rfl
theorem Reps.cons {d : D} {x : V} {ds : List D} {xs : List V} (h : Rep G B ρ d x) (t : Reps G B ρ ds xs) : Reps G B ρ (d :: ds) (x :: xs) := ⟨x, xs, rfl, h, t⟩
theorem Reps.len : ∀ {ds : List D} {xs : List V}, Reps G B ρ ds xs → ds.length = xs.length
  | [], xs, h => by
    have e : xs = [] := h
    rw [e] <;> rfl
  | d :: ds, xs, h => by
    obtain ⟨x, r, rfl, h2, h3⟩ := h
    rw [List.length_cons, List.length_cons, Reps.len h3]
theorem Reps.get : ∀ {ds : List D} {xs : List V} {i : Nat} {d : D}, Reps G B ρ ds xs → ds[i]? = some d → ∃ x, xs[i]? = some x ∧ Rep G B ρ d x
  | [], xs, i, d, h, e => by simp at e
  | d0 :: ds, xs, i, d, h, e => by
    obtain ⟨x, r, rfl, h2, h3⟩ := h
    cases i with
    | zero =>
      have e' : d0 = d := Option.some.inj (by simpa using e)
      subst e'
      exact ⟨x, rfl, h2⟩
    | succ i =>
      obtain ⟨y, h4, h5⟩ := Reps.get (i := i) h3 (by simpa using e)
      exact ⟨y, by simpa using h4, h5⟩
theorem Reps.at : ∀ {ds : List D} {xs : List V} {i : Nat} {x : V}, Reps G B ρ ds xs → xs[i]? = some x → ∃ d, ds[i]? = some d ∧ Rep G B ρ d x
  | [], xs, i, x, h, e => by
    have e' : xs = [] := h
    subst e'
    simp at e
  | d0 :: ds, xs, i, x, h, e => by
    obtain ⟨y, r, rfl, h2, h3⟩ := h
    cases i with
    | zero =>
      have e' : y = x := Option.some.inj (by simpa using e)
      subst e'
      exact ⟨d0, rfl, h2⟩
    | succ i =>
      obtain ⟨z, h4, h5⟩ := Reps.at (i := i) h3 (by simpa using e)
      exact ⟨z, by simpa using h4, h5⟩
theorem Reps.append : ∀ {ds es : List D} {xs ys : List V}, Reps G B ρ ds xs → Reps G B ρ es ys → Reps G B ρ (ds ++ es) (xs ++ ys)
  | [], es, xs, ys, h, k => by
    have e : xs = [] := h
    subst e
    exact k
  | d :: ds, es, xs, ys, h, k => by
    obtain ⟨x, r, rfl, h2, h3⟩ := h
    exact ⟨x, r ++ ys, rfl, h2, Reps.append h3 k⟩
theorem Reps.take : ∀ {ds : List D} {xs : List V} (n : Nat), Reps G B ρ ds xs → Reps G B ρ (ds.take n) (xs.take n)
  | [], xs, n, h => by
    have e : xs = [] := h
    subst e
    cases n <;> exact rfl
  | d :: ds, xs, 0, h => rfl
  | d :: ds, xs, n + 1, h => by
    obtain ⟨x, r, rfl, h2, h3⟩ := h
    exact ⟨x, r.take n, rfl, h2, Reps.take n h3⟩
theorem Reps.drop : ∀ {ds : List D} {xs : List V} (n : Nat), Reps G B ρ ds xs → Reps G B ρ (ds.drop n) (xs.drop n)
  | [], xs, n, h => by
    have e : xs = [] := h
    subst e
    cases n <;> exact rfl
  | d :: ds, xs, 0, h => h
  | d :: ds, xs, n + 1, h => by
    obtain ⟨x, r, rfl, h2, h3⟩ := h
    exact Reps.drop n h3
theorem Reps.reverse : ∀ {ds : List D} {xs : List V}, Reps G B ρ ds xs → Reps G B ρ ds.reverse xs.reverse
  | [], xs, h => by
    have e : xs = [] := h
    subst e
    exact rfl
  | d :: ds, xs, h => by
    obtain ⟨x, r, rfl, h2, h3⟩ := h
    rw [List.reverse_cons, List.reverse_cons]
    exact Reps.append (Reps.reverse h3) (Reps.cons h2 Reps.nil)
theorem Reps.set : ∀ {ds : List D} {xs : List V} {d : D} {x : V} (n : Nat), Reps G B ρ ds xs → Rep G B ρ d x → Reps G B ρ (ds.set n d) (xs.set n x)
  | [], xs, d, x, n, h, k => by
    have e : xs = [] := h
    subst e
    exact rfl
  | d0 :: ds, xs, d, x, 0, h, k => by
    obtain ⟨y, r, rfl, h2, h3⟩ := h
    exact ⟨x, r, rfl, k, h3⟩
  | d0 :: ds, xs, d, x, n + 1, h, k => by
    obtain ⟨y, r, rfl, h2, h3⟩ := h
    exact ⟨y, r.set n x, rfl, h2, Reps.set n h3 k⟩
theorem Reps.ints : ∀ {ns : List Int} {xs : List V}, Reps G B ρ (ns.map D.int) xs ↔ xs = ns.map V.int
  | [], xs => Iff.rfl
  | n :: ns, xs => by
    constructor
    · rintro ⟨x, r, rfl, h2, h3⟩
      rw [Reps.ints.mp h3]
      have e : x = V.int n := h2
      rw [e] <;> rfl
    · rintro rfl
      exact ⟨V.int n, _, rfl, rfl, Reps.ints.mpr rfl⟩
theorem Reps.bls : ∀ {ns : List Bool} {xs : List V}, Reps G B ρ (ns.map D.bl) xs ↔ xs = ns.map V.bl
  | [], xs => Iff.rfl
  | n :: ns, xs => by
    constructor
    · rintro ⟨x, r, rfl, h2, h3⟩
      rw [Reps.bls.mp h3]
      have e : x = V.bl n := h2
      rw [e] <;> rfl
    · rintro rfl
      exact ⟨V.bl n, _, rfl, rfl, Reps.bls.mpr rfl⟩
end
mutual
def freeze : M → D
  | .val d => d
  | .lst ms => .lst (freezes ms)
  | .tup ms => .tup (freezes ms)
  | .obj c ns ms => .obj c ns (freezes ms)
  | .pin _ m => freeze m
def freezes : List M → List D
  | [] => []
  | m :: ms => freeze m :: freezes ms
end
theorem freezes_map : ∀ ms : List M, freezes ms = ms.map freeze
  | [] => rfl
  | m :: ms => by
    show freeze m :: freezes ms = _
    rw [freezes_map ms] <;> rfl
mutual
def Own (G : Gx) (B H : Hp) (ρ : List Addr) : M → V → List Addr → Prop
  | .val d, v, F => F = [] ∧ Rep G B ρ d v
  | .lst ms, v, F => ∃ p xs F', v = .ref p ∧ H p = some (.lst xs) ∧ F = p :: F' ∧ Owns G B H ρ ms xs F'
  | .tup ms, v, F => ∃ p xs F', v = .ref p ∧ H p = some (.tup xs) ∧ F = p :: F' ∧ Owns G B H ρ ms xs F'
  | .obj c ns ms, v, F => ∃ p dx xs F', v = .ref p ∧ H p = some (.ins (G.T c) dx (ns.zip xs)) ∧ H dx = some (.own p) ∧ ns.length = xs.length ∧ F = p :: dx :: F' ∧ Owns G B H ρ ms xs F'
  | .pin n m, v, F => G.P n v ∧ Own G B H ρ m v F
def Owns (G : Gx) (B H : Hp) (ρ : List Addr) : List M → List V → List Addr → Prop
  | [], xs, F => xs = [] ∧ F = []
  | m :: ms, xs, F => ∃ x r F1 F2, xs = x :: r ∧ F = F1 ++ F2 ∧ Own G B H ρ m x F1 ∧ Owns G B H ρ ms r F2
end
mutual
theorem Own.mono {G : Gx} {B B' H H' : Hp} {ρ : List Addr} (e : Same B B') : ∀ (m : M) (v : V) (F : List Addr), (∀ p ∈ F, H' p = H p) → Own G B H ρ m v F → Own G B' H' ρ m v F
  | .val d, v, F, k, h => ⟨h.1, Rep.mono e d v h.2⟩
  | .lst ms, v, F, k, h => by
    obtain ⟨p, xs, F', h1, h2, rfl, h4⟩ := h
    exact ⟨p, xs, F', h1, (k p List.mem_cons_self).trans h2, rfl, Owns.mono e ms xs F' (fun q hq => k q (List.mem_cons_of_mem _ hq)) h4⟩
  | .tup ms, v, F, k, h => by
    obtain ⟨p, xs, F', h1, h2, rfl, h4⟩ := h
    exact ⟨p, xs, F', h1, (k p List.mem_cons_self).trans h2, rfl, Owns.mono e ms xs F' (fun q hq => k q (List.mem_cons_of_mem _ hq)) h4⟩
  | .obj c ns ms, v, F, k, h => by
    obtain ⟨p, dx, xs, F', h1, h2, h3, hl, rfl, h4⟩ := h
    exact ⟨p, dx, xs, F', h1, (k p List.mem_cons_self).trans h2, (k dx (List.mem_cons_of_mem _ List.mem_cons_self)).trans h3, hl, rfl, Owns.mono e ms xs F' (fun q hq => k q (List.mem_cons_of_mem _ (List.mem_cons_of_mem _ hq))) h4⟩
  | .pin n m, v, F, k, h => ⟨h.1, Own.mono e m v F k h.2⟩
theorem Owns.mono {G : Gx} {B B' H H' : Hp} {ρ : List Addr} (e : Same B B') : ∀ (ms : List M) (xs : List V) (F : List Addr), (∀ p ∈ F, H' p = H p) → Owns G B H ρ ms xs F → Owns G B' H' ρ ms xs F
  | [], xs, F, k, h => h
  | m :: ms, xs, F, k, h => by
    obtain ⟨x, r, F1, F2, h1, rfl, h3, h4⟩ := h
    exact ⟨x, r, F1, F2, h1, rfl, Own.mono e m x F1 (fun q hq => k q (List.mem_append_left _ hq)) h3, Owns.mono e ms r F2 (fun q hq => k q (List.mem_append_right _ hq)) h4⟩
end
mutual
/-- what is owned, given to the ground -/
theorem Own.froze {G : Gx} {B B1 H : Hp} {ρ : List Addr} (e : Same B B1) : ∀ (m : M) (v : V) (F : List Addr), (∀ p ∈ F, B1 p = H p) → Own G B H ρ m v F → Rep G B1 ρ (freeze m) v
  | .val d, v, F, k, h => Rep.mono e d v h.2
  | .lst ms, v, F, k, h => by
    obtain ⟨p, xs, F', h1, h2, rfl, h4⟩ := h
    exact ⟨p, xs, h1, (k p List.mem_cons_self).trans h2, Owns.froze e ms xs F' (fun q hq => k q (List.mem_cons_of_mem _ hq)) h4⟩
  | .tup ms, v, F, k, h => by
    obtain ⟨p, xs, F', h1, h2, rfl, h4⟩ := h
    exact ⟨p, xs, h1, SqT.of ((k p List.mem_cons_self).trans h2), Owns.froze e ms xs F' (fun q hq => k q (List.mem_cons_of_mem _ hq)) h4⟩
  | .obj c ns ms, v, F, k, h => by
    obtain ⟨p, dx, xs, F', h1, h2, h3, hl, rfl, h4⟩ := h
    exact ⟨p, dx, xs, h1, (k p List.mem_cons_self).trans h2, hl, Owns.froze e ms xs F' (fun q hq => k q (List.mem_cons_of_mem _ (List.mem_cons_of_mem _ hq))) h4⟩
  | .pin n m, v, F, k, h => Own.froze e m v F k h.2
theorem Owns.froze {G : Gx} {B B1 H : Hp} {ρ : List Addr} (e : Same B B1) : ∀ (ms : List M) (xs : List V) (F : List Addr), (∀ p ∈ F, B1 p = H p) → Owns G B H ρ ms xs F → Reps G B1 ρ (freezes ms) xs
  | [], xs, F, k, h => h.1
  | m :: ms, xs, F, k, h => by
    obtain ⟨x, r, F1, F2, h1, rfl, h3, h4⟩ := h
    exact ⟨x, r, h1, Own.froze e m x F1 (fun q hq => k q (List.mem_append_left _ hq)) h3, Owns.froze e ms r F2 (fun q hq => k q (List.mem_append_right _ hq)) h4⟩
end
mutual
/-- what is owned stands -/
theorem Own.there {G : Gx} {B H : Hp} {ρ : List Addr} : ∀ (m : M) (v : V) (F : List Addr), Own G B H ρ m v F → ∀ p ∈ F, (H p).isSome = true
  | .val d, v, F, h, p, hp => by
    rw [h.1] at hp
    cases hp
  | .lst ms, v, F, h, p, hp => by
    obtain ⟨q, xs, F', h1, h2, rfl, h4⟩ := h
    rcases List.mem_cons.mp hp with rfl | hp
    · rw [h2] <;> rfl
    · exact Owns.there ms xs F' h4 p hp
  | .tup ms, v, F, h, p, hp => by
    obtain ⟨q, xs, F', h1, h2, rfl, h4⟩ := h
    rcases List.mem_cons.mp hp with rfl | hp
    · rw [h2] <;> rfl
    · exact Owns.there ms xs F' h4 p hp
  | .obj c ns ms, v, F, h, p, hp => by
    obtain ⟨q, dx, xs, F', h1, h2, h3, hl, rfl, h4⟩ := h
    rcases List.mem_cons.mp hp with rfl | hp
    · rw [h2] <;> rfl
    · rcases List.mem_cons.mp hp with rfl | hp
      · rw [h3] <;> rfl
      · exact Owns.there ms xs F' h4 p hp
  | .pin n m, v, F, h, p, hp => Own.there m v F h.2 p hp
theorem Owns.there {G : Gx} {B H : Hp} {ρ : List Addr} : ∀ (ms : List M) (xs : List V) (F : List Addr), Owns G B H ρ ms xs F → ∀ p ∈ F, (H p).isSome = true
  | [], xs, F, h, p, hp => by
    rw [h.2] at hp
    cases hp
  | m :: ms, xs, F, h, p, hp => by
    obtain ⟨x, r, F1, F2, h1, rfl, h3, h4⟩ := h
    rcases List.mem_append.mp hp with hp | hp
    · exact Own.there m x F1 h3 p hp
    · exact Owns.there ms r F2 h4 p hp
end
theorem Owns.vals {G : Gx} {B H : Hp} {ρ : List Addr} : ∀ {ds : List D} {xs : List V}, Reps G B ρ ds xs → Owns G B H ρ (ds.map M.val) xs []
  | [], xs, h => ⟨h, rfl⟩
  | d :: ds, xs, h => by
    obtain ⟨x, r, h1, h2, h3⟩ := h
    exact ⟨x, r, [], [], h1, rfl, ⟨rfl, h2⟩, Owns.vals h3⟩
theorem Owns.append {G : Gx} {B H : Hp} {ρ : List Addr} : ∀ {ms ns : List M} {xs ys : List V} {F F' : List Addr}, Owns G B H ρ ms xs F → Owns G B H ρ ns ys F' → Owns G B H ρ (ms ++ ns) (xs ++ ys) (F ++ F')
  | [], ns, xs, ys, F, F', h, k => by
    obtain ⟨rfl, rfl⟩ := h
    exact k
  | m :: ms, ns, xs, ys, F, F', h, k => by
    obtain ⟨x, r, F1, F2, rfl, rfl, h3, h4⟩ := h
    exact ⟨x, r ++ ys, F1, F2 ++ F', rfl, by rw [List.append_assoc], h3, Owns.append h4 k⟩
theorem Owns.len {G : Gx} {B H : Hp} {ρ : List Addr} : ∀ {ms : List M} {xs : List V} {F : List Addr}, Owns G B H ρ ms xs F → ms.length = xs.length
  | [], xs, F, h => by
    obtain ⟨rfl, _⟩ := h
    rfl
  | m :: ms, xs, F, h => by
    obtain ⟨x, r, F1, F2, rfl, rfl, h3, h4⟩ := h
    rw [List.length_cons, List.length_cons, Owns.len h4]
mutual
theorem Rep.ext {G : Gx} {B : Hp} {ρ : List Addr} (e : List Addr) : ∀ (d : D) (v : V), Rep G B ρ d v → Rep G B (ρ ++ e) d v
  | .non, v, h => h
  | .bl b, v, h => h
  | .int i, v, h => h
  | .str s, v, h => h
  | .tup ds, v, h => by
    obtain ⟨p, xs, h1, h2, h3⟩ := h
    exact ⟨p, xs, h1, h2, Reps.ext e ds xs h3⟩
  | .lst ds, v, h => by
    obtain ⟨p, xs, h1, h2, h3⟩ := h
    exact ⟨p, xs, h1, h2, Reps.ext e ds xs h3⟩
  | .obj c ns ds, v, h => by
    obtain ⟨p, dx, xs, h1, h2, h4, h3⟩ := h
    exact ⟨p, dx, xs, h1, h2, h4, Reps.ext e ds xs h3⟩
  | .exc c ns ds, v, h => by
    obtain ⟨p, dd, h1, h2, h3⟩ := h
    refine ⟨p, dd, h1, h2, ?_⟩
    rcases h3 with h3 | ⟨d, xs, h4, h5, h6, h7⟩
    · exact .inl h3
    · exact .inr ⟨d, xs, h4, h5, h6, Reps.ext e ds xs h7⟩
  | .loc n, v, h => by
    obtain ⟨p, h1, h2⟩ := h
    have hn : n < ρ.length := (List.getElem?_eq_some_iff.mp h1).1
    exact ⟨p, by rw [List.getElem?_append_left hn]; exact h1, h2⟩
  | .scr l, v, h => h
theorem Reps.ext {G : Gx} {B : Hp} {ρ : List Addr} (e : List Addr) : ∀ (ds : List D) (xs : List V), Reps G B ρ ds xs → Reps G B (ρ ++ e) ds xs
  | [], xs, h => h
  | d :: ds, xs, h => by
    obtain ⟨x, r, h1, h2, h3⟩ := h
    exact ⟨x, r, h1, Rep.ext e d x h2, Reps.ext e ds r h3⟩
end
mutual
/-- the datum does not name the place n -/
def noLoc (n : Nat) : D → Bool
  | .tup l => noLocs n l
  | .lst l => noLocs n l
  | .obj _ _ l => noLocs n l
  | .exc _ _ l => noLocs n l
  | .loc m => decide (m ≠ n)
  | _ => true
def noLocs (n : Nat) : List D → Bool
  | [] => true
  | d :: ds => noLoc n d && noLocs n ds
end
mutual
theorem Rep.less {G : Gx} {B : Hp} {ρ : List Addr} {x : Addr} : ∀ (d : D) (v : V), noLoc ρ.length d = true → Rep G B (ρ ++ [x]) d v → Rep G B ρ d v
  | .non, v, c, h => h
  | .bl b, v, c, h => h
  | .int i, v, c, h => h
  | .str s, v, c, h => h
  | .tup ds, v, c, h => by
    obtain ⟨p, xs, h1, h2, h3⟩ := h
    exact ⟨p, xs, h1, h2, Reps.less ds xs c h3⟩
  | .lst ds, v, c, h => by
    obtain ⟨p, xs, h1, h2, h3⟩ := h
    exact ⟨p, xs, h1, h2, Reps.less ds xs c h3⟩
  | .obj _ ns ds, v, c, h => by
    obtain ⟨p, dx, xs, h1, h2, h4, h3⟩ := h
    exact ⟨p, dx, xs, h1, h2, h4, Reps.less ds xs c h3⟩
  | .exc _ ns ds, v, c, h => by
    obtain ⟨p, dd, h1, h2, h3⟩ := h
    refine ⟨p, dd, h1, h2, ?_⟩
    rcases h3 with h3 | ⟨d, xs, h4, h5, h6, h7⟩
    · exact .inl h3
    · exact .inr ⟨d, xs, h4, h5, h6, Reps.less ds xs c h7⟩
  | .loc n, v, c, h => by
    obtain ⟨p, h1, h2⟩ := h
    have hn : n < (ρ ++ [x]).length := (List.getElem?_eq_some_iff.mp h1).1
    rw [List.length_append, List.length_singleton] at hn
    have hc : n ≠ ρ.length := of_decide_eq_true c
    exact ⟨p, by rw [List.getElem?_append_left (by omega)] at h1; exact h1, h2⟩
  | .scr l, v, c, h => h
theorem Reps.less {G : Gx} {B : Hp} {ρ : List Addr} {x : Addr} : ∀ (ds : List D) (xs : List V), noLocs ρ.length ds = true → Reps G B (ρ ++ [x]) ds xs → Reps G B ρ ds xs
  | [], xs, c, h => h
  | d :: ds, xs, c, h => by
    obtain ⟨y, r, h1, h2, h3⟩ := h
    have c' : (noLoc ρ.length d && noLocs ρ.length ds) = true := c
    obtain ⟨c1, c2⟩ := Bool.and_eq_true_iff.mp c'
    exact ⟨y, r, h1, Rep.less d y c1 h2, Reps.less ds r c2 h3⟩
end
inductive Cell where
  | nums (l : List Int)
  | obj (c : Nat) (ns : List Str) (ds : List D)
  /-- a list of data -/
  | vals (ds : List D)
abbrev Sto := List Cell
def CellAt (G : Gx) (B H : Hp) (ρ R : List Addr) (p : Addr) : Cell → Prop
  | .nums l => H p = some (.lst (l.map V.int))
  | .obj c ns ds => ∃ dx xs, H p = some (.ins (G.T c) dx (ns.zip xs)) ∧ H dx = some (.own p) ∧ ns.length = xs.length ∧ Reps G B ρ ds xs ∧ dx ∉ ρ ++ R ∧ B dx = none
  | .vals ds => ∃ xs, H p = some (.lst xs) ∧ Reps G B ρ ds xs
structure Wd (G : Gx) (B H : Hp) (ρ : List Addr) (a : Sto) (R : List Addr) : Prop where
  ex : Same B H
  len : ρ.length = a.length
  sto : ∀ (n : Nat) (p : Addr) (c : Cell), ρ[n]? = some p → a[n]? = some c → CellAt G B H ρ R p c
  nd : (ρ ++ R).Nodup
  bn : ∀ p ∈ ρ ++ R, B p = none
  has : ∀ p ∈ ρ ++ R, (H p).isSome = true
theorem Wd.ints {G : Gx} {B H : Hp} {ρ R : List Addr} {a : Sto} (w : Wd G B H ρ a R) {n : Nat} {p : Addr} {l : List Int} (h1 : ρ[n]? = some p) (h2 : a[n]? = some (.nums l)) : H p = some (.lst (l.map V.int)) := w.sto n p _ h1 h2
theorem CellAt.there {G : Gx} {B H : Hp} {ρ R : List Addr} {p : Addr} {c : Cell} (h : CellAt G B H ρ R p c) : ∃ o, H p = some o := by
  cases c with
  | nums l => exact ⟨_, h⟩
  | obj c ns ds =>
    obtain ⟨dx, xs, h1, _⟩ := h
    exact ⟨_, h1⟩
  | vals ds =>
    obtain ⟨xs, h1, _⟩ := h
    exact ⟨_, h1⟩
theorem CellAt.move {G : Gx} {B B' H H' : Hp} {ρ R R' : List Addr} {p : Addr} {c : Cell} (h : CellAt G B H ρ R p c) (e : Same B B') (k : H' p = H p)
    (m : ∀ dx, H dx = some (.own p) → B dx = none → dx ∉ ρ ++ R → H' dx = H dx ∧ B' dx = none ∧ dx ∉ ρ ++ R') : CellAt G B' H' ρ R' p c := by
  cases c with
  | nums l => exact k.trans h
  | obj c ns ds =>
    obtain ⟨dx, xs, h1, h2, h3, h4, h5, h6⟩ := h
    obtain ⟨m1, m2, m3⟩ := m dx h2 h6 h5
    exact ⟨dx, xs, k.trans h1, m1.trans h2, h3, Reps.mono e ds xs h4, m3, m2⟩
  | vals ds =>
    obtain ⟨xs, h1, h4⟩ := h
    exact ⟨xs, k.trans h1, Reps.mono e ds xs h4⟩
def Kp (R : List Addr) (H H' : Hp) : Prop := ∀ p ∈ R, H' p = H p
theorem Kp.refl {R : List Addr} {H : Hp} : Kp R H H := fun _ _ => rfl
theorem Kp.trans {R : List Addr} {H H1 H2 : Hp} (a : Kp R H H1) (b : Kp R H1 H2) : Kp R H H2 := fun p hp => (b p hp).trans (a p hp)
theorem Kp.left {R F : List Addr} {H H' : Hp} (a : Kp (F ++ R) H H') : Kp F H H' := fun p hp => a p (List.mem_append_left _ hp)
theorem Kp.right {R F : List Addr} {H H' : Hp} (a : Kp (F ++ R) H H') : Kp R H H' := fun p hp => a p (List.mem_append_right _ hp)
section
variable {G : Gx} {B B' H H' : Hp} {ρ R F : List Addr} {a : Sto}
theorem same_new {H : Hp} {p : Addr} {o : HO} (h : H p = none) : Same H (upd H p o) := fun b x e => by
  rw [upd_ne (ne_of_none e h)]
  exact e
theorem Wd.noneB (w : Wd G B H ρ a R) {p : Addr} (hp : H p = none) : B p = none := w.ex.free hp
theorem Wd.ne (w : Wd G B H ρ a R) {p q : Addr} (hp : H p = none) (hq : q ∈ ρ ++ R) : q ≠ p := fun e => by
  have z := w.has q hq
  rw [e, hp] at z
  cases z
theorem Wd.new (w : Wd G B H ρ a R) {p : Addr} {o : HO} (hp : H p = none) : Wd G (upd B p o) (upd H p o) ρ a R where
  ex := fun b x e => by
    by_cases hb : b = p
    · subst hb
      rw [upd_same] at e ⊢
      exact e
    · rw [upd_ne hb] at e ⊢
      exact w.ex b x e
  len := w.len
  sto := fun n q c h1 h2 => by
    have h3 := w.sto n q c h1 h2
    obtain ⟨o', ho⟩ := h3.there
    refine h3.move (fun b x e => ?_) (upd_ne (ne_of_none ho hp)) fun dx g1 g2 g3 => ?_
    · have hb : b ≠ p := fun z => by
        rw [z, w.ex.free hp] at e
        cases e
      rw [upd_ne hb]
      exact e
    · have hd : dx ≠ p := ne_of_none g1 hp
      exact ⟨upd_ne hd, by rw [upd_ne hd]; exact g2, g3⟩
  nd := w.nd
  bn := fun q hq => by
    rw [upd_ne (w.ne hp hq)]
    exact w.bn q hq
  has := fun q hq => by
    rw [upd_ne (w.ne hp hq)]
    exact w.has q hq
theorem Wd.newOwn (w : Wd G B H ρ a R) {p : Addr} {o : HO} (hp : H p = none) : Wd G B (upd H p o) ρ a (p :: R) where
  ex := fun b x e => by
    rw [upd_ne (ne_of_none (w.ex b x e) hp)]
    exact w.ex b x e
  len := w.len
  sto := fun n q c h1 h2 => by
    have h3 := w.sto n q c h1 h2
    obtain ⟨o', ho⟩ := h3.there
    refine h3.move (Same.refl _) (upd_ne (ne_of_none ho hp)) fun dx g1 g2 g3 => ?_
    have hd : dx ≠ p := ne_of_none g1 hp
    refine ⟨upd_ne hd, g2, fun z => ?_⟩
    rcases List.mem_append.mp z with z | z
    · exact g3 (List.mem_append_left _ z)
    · rcases List.mem_cons.mp z with z | z
      · exact hd z
      · exact g3 (List.mem_append_right _ z)
  nd := by
    have h := w.nd
    have hp' : p ∉ ρ ++ R := fun z => w.ne hp z rfl
    have e : List.Perm (ρ ++ p :: R) (p :: (ρ ++ R)) := List.perm_middle
    exact e.nodup_iff.mpr (List.nodup_cons.mpr ⟨hp', h⟩)
  bn := fun q hq => by
    rcases List.mem_append.mp hq with h | h
    · exact w.bn q (List.mem_append_left _ h)
    · rcases List.mem_cons.mp h with rfl | h
      · exact w.noneB hp
      · exact w.bn q (List.mem_append_right _ h)
  has := fun q hq => by
    by_cases e : q = p
    · rw [e, upd_same] <;> rfl
    · rw [upd_ne e]
      rcases List.mem_append.mp hq with h | h
      · exact w.has q (List.mem_append_left _ h)
      · rcases List.mem_cons.mp h with h | h
        · exact absurd h e
        · exact w.has q (List.mem_append_right _ h)
theorem kp_new {p : Addr} {o : HO} (w : Wd G B H ρ a R) (hp : H p = none) : Kp R H (upd H p o) := fun q hq => by rw [upd_ne (w.ne hp (List.mem_append_right _ hq))]
def ov (B H : Hp) (F : List Addr) : Hp := fun p => if p ∈ F then H p else B p
theorem ov_in {p : Addr} (h : p ∈ F) : ov B H F p = H p := by
  unfold ov
  rw [if_pos h]
theorem ov_out {p : Addr} (h : p ∉ F) : ov B H F p = B p := by
  unfold ov
  rw [if_neg h]
theorem ov_same (h : ∀ p ∈ F, B p = none) : Same B (ov B H F) := fun p o e => by
  rw [ov_out (fun z => by rw [h p z] at e; cases e)]
  exact e
theorem Wd.absorb (w : Wd G B H ρ a (F ++ R)) : Wd G (ov B H F) H ρ a R := by
  have hF : ∀ p ∈ F, B p = none := fun p hp => w.bn p (List.mem_append_right _ (List.mem_append_left _ hp))
  have nd := w.nd
  have out : ∀ p ∈ ρ ++ R, p ∉ F := fun p hp hq => by
    have h1 : List.Perm (ρ ++ (F ++ R)) (F ++ (ρ ++ R)) := by
      rw [← List.append_assoc, ← List.append_assoc]
      exact List.Perm.append_right R List.perm_append_comm
    have h2 := h1.nodup_iff.mp nd
    exact (List.nodup_append.mp h2).2.2 p hq p hp rfl
  have sub : ∀ p ∈ ρ ++ R, p ∈ ρ ++ (F ++ R) := fun p hp => by
    rcases List.mem_append.mp hp with h | h
    · exact List.mem_append_left _ h
    · exact List.mem_append_right _ (List.mem_append_right _ h)
  refine ⟨fun p o e => ?_, w.len, fun n q c h1 h2 => (w.sto n q c h1 h2).move (ov_same hF) rfl fun dx g1 g2 g3 => ⟨rfl, ?_, fun z => g3 (sub dx z)⟩, ?_, fun p hp => ?_, fun p hp => ?_⟩
  · by_cases hp : p ∈ F
    · rw [ov_in hp] at e
      exact e
    · rw [ov_out hp] at e
      exact w.ex p o e
  · rw [ov_out (fun z => g3 (List.mem_append_right _ (List.mem_append_left _ z)))]
    exact g2
  · have h1 : List.Sublist (ρ ++ R) (ρ ++ (F ++ R)) := List.Sublist.append_left (List.sublist_append_right F R) ρ
    exact nd.sublist h1
  · rw [ov_out (out p hp)]
    exact w.bn p (by
      rcases List.mem_append.mp hp with h | h
      · exact List.mem_append_left _ h
      · exact List.mem_append_right _ (List.mem_append_right _ h))
  · exact w.has p (by
      rcases List.mem_append.mp hp with h | h
      · exact List.mem_append_left _ h
      · exact List.mem_append_right _ (List.mem_append_right _ h))
theorem Wd.sameOv (w : Wd G B H ρ a (F ++ R)) : Same B (ov B H F) := ov_same fun p hp => w.bn p (List.mem_append_right _ (List.mem_append_left _ hp))
theorem Wd.drop (w : Wd G B H ρ a (F ++ R)) : Wd G B H ρ a R where
  ex := w.ex
  len := w.len
  sto := fun n q c h1 h2 => (w.sto n q c h1 h2).move (Same.refl _) rfl fun dx g1 g2 g3 => ⟨rfl, g2, fun z => g3 (by
    rcases List.mem_append.mp z with h | h
    · exact List.mem_append_left _ h
    · exact List.mem_append_right _ (List.mem_append_right _ h))⟩
  nd := w.nd.sublist (List.Sublist.append_left (List.sublist_append_right F R) ρ)
  bn := fun p hp => w.bn p (by
    rcases List.mem_append.mp hp with h | h
    · exact List.mem_append_left _ h
    · exact List.mem_append_right _ (List.mem_append_right _ h))
  has := fun p hp => w.has p (by
    rcases List.mem_append.mp hp with h | h
    · exact List.mem_append_left _ h
    · exact List.mem_append_right _ (List.mem_append_right _ h))
theorem Wd.perm (w : Wd G B H ρ a R) {R' : List Addr} (h : List.Perm R R') : Wd G B H ρ a R' where
  ex := w.ex
  len := w.len
  sto := fun n q c h1 h2 => (w.sto n q c h1 h2).move (Same.refl _) rfl fun dx g1 g2 g3 => ⟨rfl, g2, fun z => g3 ((List.Perm.append_left ρ h).mem_iff.mpr z)⟩
  nd := (List.Perm.append_left ρ h).nodup_iff.mp w.nd
  bn := fun p hp => w.bn p ((List.Perm.append_left ρ h).mem_iff.mpr hp)
  has := fun p hp => w.has p ((List.Perm.append_left ρ h).mem_iff.mpr hp)
theorem Wd.nofr (w : Wd G B H ρ a (F ++ R)) : ∀ p ∈ F, B p = none := fun p hp => w.bn p (List.mem_append_right _ (List.mem_append_left _ hp))
end
end DL
namespace DL
open PySem L2
inductive Out (β : Type) where
  | ok (b : β) (a : Sto)
  | exc (c : Nat) (ns : List Str) (ds : List D) (a : Sto)
  | stuck
def Out.bind {β γ : Type} (o : Out β) (f : β → Sto → Out γ) : Out γ := match o with
  | .ok b a => f b a
  | .exc c ns ds a => .exc c ns ds a
  | .stuck => .stuck
def Out.map {β γ : Type} (g : β → γ) (o : Out β) : Out γ := o.bind fun b a => .ok (g b) a
def Out.opt {β γ : Type} (g : β → Option γ) (o : Out β) : Out γ := o.bind fun b a => match g b with | some r => .ok r a | none => .stuck
def Out.calm {β : Type} : Out β → Out β
  | .ok b a => .ok b a
  | _ => .stuck
@[simp] theorem bind_ok {β γ : Type} (b : β) (a : Sto) (f : β → Sto → Out γ) : (Out.ok b a).bind f = f b a := rfl
@[simp] theorem bind_exc {β γ : Type} (c : Nat) (ns : List Str) (ds : List D) (a : Sto) (f : β → Sto → Out γ) : (Out.exc c ns ds a : Out β).bind f = .exc c ns ds a := rfl
@[simp] theorem bind_stuck {β γ : Type} (f : β → Sto → Out γ) : (Out.stuck : Out β).bind f = .stuck := rfl
@[simp] theorem map_ok {β γ : Type} (b : β) (a : Sto) (g : β → γ) : (Out.ok b a).map g = .ok (g b) a := rfl
@[simp] theorem map_exc {β γ : Type} (c : Nat) (ns : List Str) (ds : List D) (a : Sto) (g : β → γ) : (Out.exc c ns ds a : Out β).map g = .exc c ns ds a := rfl
@[simp] theorem map_stuck {β γ : Type} (g : β → γ) : (Out.stuck : Out β).map g = .stuck := rfl
@[simp] theorem calm_ok {β : Type} (b : β) (a : Sto) : (Out.ok b a).calm = .ok b a := rfl
@[simp] theorem opt_exc {β γ : Type} (c : Nat) (ns : List Str) (ds : List D) (a : Sto) (g : β → Option γ) : (Out.exc c ns ds a : Out β).opt g = .exc c ns ds a := rfl
theorem opt_ok {β γ : Type} (b : β) (a : Sto) (g : β → Option γ) : (Out.ok b a).opt g = match g b with | some r => .ok r a | none => .stuck := rfl
def XdO (G : Gx) (B : Hp) (ρ : List Addr) (ns : List Str) (ds : List D) (dd : Option Addr) : Prop :=
  (ns = [] ∧ ds = [] ∧ dd = none) ∨ ∃ d xs, dd = some d ∧ B d = some (.xd (ns.zip xs)) ∧ ns.length = xs.length ∧ Reps G B ρ ds xs
def Fin {β : Type} (G : Gx) (W : WX) (ρ R : List Addr) (B H : Hp) (σ : St) (o : Out β) (k : β → Sto → Hp → Hp → Prop) : Prop := match o with
  | .ok b a => ∀ B' H', Wd G B' H' ρ a R → Same B B' → Kp R H H' → k b a B' H'
  | .exc c ns ds a => ∀ B' H' dd, Wd G B' H' ρ a R → Same B B' → Kp R H H' → XdO G B' ρ ns ds dd → W (.ref (G.T c)) dd σ H'
  | .stuck => False
def FinM (G : Gx) (W : WX) (ρ R : List Addr) (B H : Hp) (σ : St) (o : Out M) (k : M → Sto → Hp → Hp → V → List Addr → Prop) : Prop := match o with
  | .ok m a => ∀ B' H' v F, Wd G B' H' ρ a (F ++ R) → Same B B' → Kp R H H' → Own G B' H' ρ m v F → k m a B' H' v F
  | .exc c ns ds a => ∀ B' H' dd, Wd G B' H' ρ a R → Same B B' → Kp R H H' → XdO G B' ρ ns ds dd → W (.ref (G.T c)) dd σ H'
  | .stuck => False
def FinL (G : Gx) (W : WX) (ρ R : List Addr) (B H : Hp) (σ : St) (o : Out (List M)) (k : List M → Sto → Hp → Hp → List V → List Addr → Prop) : Prop := match o with
  | .ok m a => ∀ B' H' v F, Wd G B' H' ρ a (F ++ R) → Same B B' → Kp R H H' → Owns G B' H' ρ m v F → k m a B' H' v F
  | .exc c ns ds a => ∀ B' H' dd, Wd G B' H' ρ a R → Same B B' → Kp R H H' → XdO G B' ρ ns ds dd → W (.ref (G.T c)) dd σ H'
  | .stuck => False
section
variable {β γ : Type} {G : Gx} {W : WX} {ρ R : List Addr} {B B1 H H1 : Hp} {σ : St}
theorem Fin.base {o : Out β} {k : β → Sto → Hp → Hp → Prop} (h : Fin G W ρ R B H σ o k) (s : Same B B1) (kp : Kp R H H1) : Fin G W ρ R B1 H1 σ o k := by
  cases o with
  | ok b a => exact fun B' H' w s' k' => h B' H' w (s.trans s') (kp.trans k')
  | exc c ns ds a => exact fun B' H' dd w s' k' x => h B' H' dd w (s.trans s') (kp.trans k') x
  | stuck => exact h
theorem FinM.base {o : Out M} {k : M → Sto → Hp → Hp → V → List Addr → Prop} (h : FinM G W ρ R B H σ o k) (s : Same B B1) (kp : Kp R H H1) : FinM G W ρ R B1 H1 σ o k := by
  cases o with
  | ok b a => exact fun B' H' v F w s' k' => h B' H' v F w (s.trans s') (kp.trans k')
  | exc c ns ds a => exact fun B' H' dd w s' k' x => h B' H' dd w (s.trans s') (kp.trans k') x
  | stuck => exact h
theorem FinL.base {o : Out (List M)} {k : List M → Sto → Hp → Hp → List V → List Addr → Prop} (h : FinL G W ρ R B H σ o k) (s : Same B B1) (kp : Kp R H H1) : FinL G W ρ R B1 H1 σ o k := by
  cases o with
  | ok b a => exact fun B' H' v F w s' k' => h B' H' v F w (s.trans s') (kp.trans k')
  | exc c ns ds a => exact fun B' H' dd w s' k' x => h B' H' dd w (s.trans s') (kp.trans k') x
  | stuck => exact h
theorem Fin.imp {o : Out β} {k k' : β → Sto → Hp → Hp → Prop} (h : Fin G W ρ R B H σ o k) (i : ∀ b a B' H', Wd G B' H' ρ a R → Same B B' → Kp R H H' → k b a B' H' → k' b a B' H') : Fin G W ρ R B H σ o k' := by
  cases o with
  | ok b a => exact fun B' H' w s kp => i b a B' H' w s kp (h B' H' w s kp)
  | exc c ns ds a => exact h
  | stuck => exact h
theorem Fin.seq {o : Out β} {f : β → Sto → Out γ} {k : γ → Sto → Hp → Hp → Prop} (h : Fin G W ρ R B H σ (o.bind f) k) : Fin G W ρ R B H σ o (fun b a B' H' => Fin G W ρ R B' H' σ (f b a) k) := by
  cases o with
  | ok b a => exact fun B' H' w s kp => Fin.base (show Fin G W ρ R B H σ (f b a) k from h) s kp
  | exc c ns ds a => exact h
  | stuck => exact h
theorem Fin.seqM {o : Out β} {f : β → Sto → Out M} {k : M → Sto → Hp → Hp → V → List Addr → Prop} (h : FinM G W ρ R B H σ (o.bind f) k) : Fin G W ρ R B H σ o (fun b a B' H' => FinM G W ρ R B' H' σ (f b a) k) := by
  cases o with
  | ok b a => exact fun B' H' w s kp => FinM.base (show FinM G W ρ R B H σ (f b a) k from h) s kp
  | exc c ns ds a => exact h
  | stuck => exact h
theorem Fin.seqo {o : Out β} {g : β → Option γ} {k : γ → Sto → Hp → Hp → Prop} (h : Fin G W ρ R B H σ (o.opt g) k) : Fin G W ρ R B H σ o (fun b a B' H' => ∃ r, g b = some r ∧ k r a B' H') := by
  refine Fin.imp (Fin.seq h) fun b a B' H' w s kp q => ?_
  cases e : g b with
  | none =>
    rw [e] at q
    exact q.elim
  | some r =>
    rw [e] at q
    exact ⟨r, rfl, q B' H' w (Same.refl _) Kp.refl⟩
theorem Fin.here {b : β} {a : Sto} {k : β → Sto → Hp → Hp → Prop} (h : Fin G W ρ R B H σ (.ok b a) k) (w : Wd G B H ρ a R) : k b a B H := h B H w (Same.refl _) Kp.refl
end
abbrev Sw := List (Option D)
def Sls (G : Gx) (B : Hp) (ρ : List Addr) (δ : Sw) (σ : St) : Prop := δ.length = σ.length ∧ ∀ (i : Nat) (d : D), δ[i]? = some (some d) → ∃ v, σ[i]? = some (some v) ∧ Rep G B ρ d v
theorem Sls.mono {G : Gx} {B B' : Hp} {ρ : List Addr} {δ : Sw} {σ : St} (h : Sls G B ρ δ σ) (s : Same B B') : Sls G B' ρ δ σ := ⟨h.1, fun i d e => by
  obtain ⟨v, h1, h2⟩ := h.2 i d e
  exact ⟨v, h1, Rep.mono s d v h2⟩⟩
theorem Sls.set {G : Gx} {B : Hp} {ρ : List Addr} {δ : Sw} {σ : St} {i : Nat} {d : D} {v : V} (h : Sls G B ρ δ σ) (r : Rep G B ρ d v) : Sls G B ρ (δ.set i (some d)) (σ.set i (some v)) := by
  refine ⟨by rw [List.length_set, List.length_set]; exact h.1, fun j d' e => ?_⟩
  by_cases hj : i = j
  · subst hj
    have hl : i < δ.length := by
      have z := (List.getElem?_eq_some_iff.mp e).1
      rw [List.length_set] at z
      exact z
    rw [List.getElem?_set_self hl] at e
    have e' : d = d' := Option.some.inj (Option.some.inj e)
    subst e'
    exact ⟨v, List.getElem?_set_self (by rw [← h.1]; exact hl), r⟩
  · rw [List.getElem?_set_ne hj] at e
    obtain ⟨v', h1, h2⟩ := h.2 j d' e
    exact ⟨v', by rw [List.getElem?_set_ne hj]; exact h1, h2⟩
theorem Sls.none {G : Gx} {B : Hp} {ρ : List Addr} {δ : Sw} {σ : St} {i : Nat} (h : Sls G B ρ δ σ) : Sls G B ρ (δ.set i Option.none) (σ.set i Option.none) := by
  refine ⟨by rw [List.length_set, List.length_set]; exact h.1, fun j d' e => ?_⟩
  by_cases hj : i = j
  · subst hj
    have hl : i < δ.length := by
      have z := (List.getElem?_eq_some_iff.mp e).1
      rw [List.length_set] at z
      exact z
    rw [List.getElem?_set_self hl] at e
    cases e
  · rw [List.getElem?_set_ne hj] at e
    obtain ⟨v', h1, h2⟩ := h.2 j d' e
    exact ⟨v', by rw [List.getElem?_set_ne hj]; exact h1, h2⟩
abbrev EV := Sw → Sto → Out D
abbrev EM := Sw → Sto → Out M
abbrev ET := Sw → Sto → Out Bool
abbrev EA := Sw → Sto → Out (List D)
abbrev EL := Sw → Sto → Out (List M)
section
variable (G : Gx) (W : WX)
def VOk (t : TE) (f : EV) : Prop := ∀ (ρ R : List Addr) (B H : Hp) (σ : St) (δ : Sw) (a : Sto) (Q : VK), Wd G B H ρ a R → Sls G B ρ δ σ →
  Fin G W ρ R B H σ (f δ a) (fun d _ B' H' => ∀ v, Rep G B' ρ d v → Q v H') → t σ H Q
def MOk (t : TE) (f : EM) : Prop := ∀ (ρ R : List Addr) (B H : Hp) (σ : St) (δ : Sw) (a : Sto) (Q : VK), Wd G B H ρ a R → Sls G B ρ δ σ →
  FinM G W ρ R B H σ (f δ a) (fun _ _ _ H' v _ => Q v H') → t σ H Q
def TOk (t : TT) (f : ET) : Prop := ∀ (ρ R : List Addr) (B H : Hp) (σ : St) (δ : Sw) (a : Sto) (Q : Bool → Hp → Prop), Wd G B H ρ a R → Sls G B ρ δ σ →
  Fin G W ρ R B H σ (f δ a) (fun b _ _ H' => Q b H') → t σ H Q
def AOk (t : TA) (f : EA) : Prop := ∀ (ρ R : List Addr) (B H : Hp) (σ : St) (δ : Sw) (a : Sto) (Q : List V → Hp → Prop), Wd G B H ρ a R → Sls G B ρ δ σ →
  Fin G W ρ R B H σ (f δ a) (fun ds _ B' H' => ∀ vs, Reps G B' ρ ds vs → Q vs H') → t σ H Q
def LOk (t : TA) (f : EL) : Prop := ∀ (ρ R : List Addr) (B H : Hp) (σ : St) (δ : Sw) (a : Sto) (Q : List V → Hp → Prop), Wd G B H ρ a R → Sls G B ρ δ σ →
  FinL G W ρ R B H σ (f δ a) (fun _ _ _ H' vs _ => Q vs H') → t σ H Q
end
structure DV (X : Cx) (G : Gx) (W : WX) (e : Expr) (f : EV) : Prop where
  ex : ∃ t, PE X e t ∧ VOk G W t f
structure DM (X : Cx) (G : Gx) (W : WX) (e : Expr) (f : EM) : Prop where
  ex : ∃ t, PE X e t ∧ MOk G W t f
structure DT (X : Cx) (G : Gx) (W : WX) (e : Expr) (f : ET) : Prop where
  ex : ∃ t, PT X e t ∧ TOk G W t f
structure DW (X : Cx) (G : Gx) (W : WX) (e : Expr) (f : ET) : Prop where
  ex : ∃ t, PW X e t ∧ TOk G W t f
structure DA (X : Cx) (G : Gx) (W : WX) (es : List Expr) (f : EA) : Prop where
  ex : ∃ t, PA X es t ∧ AOk G W t f
structure DL (X : Cx) (G : Gx) (W : WX) (es : List Expr) (f : EL) : Prop where
  ex : ∃ t, PA X es t ∧ LOk G W t f
section
variable {X : Cx} {G : Gx} {W : WX} {e e1 e2 : Expr} {f g : EV}
def mV (f : EV) : EM := fun δ a => (f δ a).map M.val
theorem dm_v (h : DV X G W e f) : DM X G W e (mV f) := by
  obtain ⟨t, p, s⟩ := h.ex
  refine ⟨t, p, fun ρ R B H σ δ a Q w sl q => s ρ R B H σ δ a Q w sl ?_⟩
  unfold mV at q
  cases e : f δ a with
  | ok d a' =>
    rw [e] at q
    exact fun B' H' w' s' k' v r => q B' H' v [] w' s' k' ⟨rfl, r⟩
  | exc c ns ds a' =>
    rw [e] at q
    exact q
  | stuck =>
    rw [e] at q
    exact q
def vM (f : EM) : EV := fun δ a => (f δ a).map freeze
theorem dv_m {f : EM} (h : DM X G W e f) : DV X G W e (vM f) := by
  obtain ⟨t, p, s⟩ := h.ex
  refine ⟨t, p, fun ρ R B H σ δ a Q w sl q => s ρ R B H σ δ a Q w sl ?_⟩
  unfold vM at q
  cases e : f δ a with
  | ok m a' =>
    rw [e] at q
    exact fun B' H' v F w' s' k' o => q (ov B' H' F) H' w'.absorb (s'.trans w'.sameOv) k' v (Own.froze w'.sameOv m v F (fun p hp => ov_in hp) o)
  | exc c ns ds a' =>
    rw [e] at q
    exact q
  | stuck =>
    rw [e] at q
    exact q
def eVar (i : Nat) : EV := fun δ a => match δ[i]? with
  | some (some d) => .ok d a
  | _ => .stuck
theorem dv_var {i : Nat} {x : Str} {pos : Pos} (hN : X.N[i]? = some x) (hv : Vis X.env.scope x) (hd : (x == ("__debug__" : Str)) = false := by decide) (hcd : (x == ("__classdict__" : Str)) = false := by decide) : DV X G W (.Name x pos) (eVar i) := by
  refine ⟨tVar i, pe_var hN hv hd hcd, fun ρ R B H σ δ a Q w sl q => ?_⟩
  unfold eVar at q
  cases e : δ[i]? with
  | none =>
    rw [e] at q
    exact q.elim
  | some o =>
    cases o with
    | none =>
      rw [e] at q
      exact q.elim
    | some d =>
      rw [e] at q
      obtain ⟨v, h1, h2⟩ := sl.2 i d e
      exact ⟨v, h1, q B H w (Same.refl _) Kp.refl v h2⟩
def eC (d : D) : EV := fun _ a => .ok d a
theorem VOk.c {d : D} {v : V} (h : ∀ B ρ, Rep G B ρ d v) : VOk G W (tC v) (eC d) := fun ρ R B H σ δ a Q w sl q => q B H w (Same.refl _) Kp.refl v (h B ρ)
theorem dv_int {i j pos} : DV X G W (.Constant (.int i) j pos) (eC (.int i)) := ⟨_, pe_int, VOk.c fun _ _ => rfl⟩
theorem dv_bl {b j pos} : DV X G W (.Constant (.bool b) j pos) (eC (.bl b)) := ⟨_, pe_bl, VOk.c fun _ _ => rfl⟩
theorem dv_non {j pos} : DV X G W (.Constant .none j pos) (eC .non) := ⟨_, pe_non, VOk.c fun _ _ => rfl⟩
theorem dv_str {x j pos} : DV X G W (.Constant (.str x) j pos) (eC (.str x)) := ⟨_, pe_str, VOk.c fun _ _ => rfl⟩
theorem dv_glob {x : Str} {v : V} {u : Value} {d : D} {pos : Pos} (hg : Gl X x) (hm : X.mg x = some u) (r : RelV v u) (h : ∀ B ρ, Rep G B ρ d v) (hd : (x == ("__debug__" : Str)) = false := by decide) : DV X G W (.Name x pos) (eC d) :=
  ⟨_, pe_glob hg hm r hd, VOk.c h⟩
def ev1 (g : D → Option D) (f : EV) : EV := fun δ a => (f δ a).opt g
def ev2 (g : D → D → Option D) (f1 f2 : EV) : EV := fun δ a => (f1 δ a).bind fun d a' => (f2 δ a').opt (g d)
def Op2 (G : Gx) (r : R2) (g : D → D → Option D) : Prop := ∀ (B H : Hp) (ρ : List Addr) (d1 d2 d : D) (x y : V) (Q : VK), Same B H → Rep G B ρ d1 x → Rep G B ρ d2 y → g d1 d2 = some d → (∀ v, Rep G B ρ d v → Q v H) → r x y H Q
theorem VOk.op {r : R2} {g : D → D → Option D} {ta tb : TE} {fa fb : EV} (o : Op2 G r g) (ha : VOk G W ta fa) (hb : VOk G W tb fb) : VOk G W (tOp r ta tb) (ev2 g fa fb) := fun ρ R B H σ δ a Q w sl q =>
  ha ρ R B H σ δ a _ w sl (Fin.imp (Fin.seq q) fun d1 a1 B1 H1 w1 s1 k1 q1 x r1 =>
    hb ρ R B1 H1 σ δ a1 _ w1 (sl.mono s1) (Fin.imp (Fin.seqo q1) fun d2 a2 B2 H2 w2 s2 k2 q2 y r2 => by
      obtain ⟨d, e, q3⟩ := q2
      exact o B2 H2 ρ d1 d2 d x y Q w2.ex (Rep.mono s2 d1 x r1) r2 e q3))
theorem dv_bin {op : Operator} {r : R2} {g : D → D → Option D} {pos : Pos} {fa fb : EV} (ho : OpR X (binaryOp op) r) (o : Op2 G r g) (ha : DV X G W e1 fa) (hb : DV X G W e2 fb) : DV X G W (.BinOp e1 op e2 pos) (ev2 g fa fb) := by
  obtain ⟨ta, pa, sa⟩ := ha.ex
  obtain ⟨tb, pb, sb⟩ := hb.ex
  exact ⟨_, pe_op ho pa pb, VOk.op o sa sb⟩
theorem dv_cmp {op : CmpOp} {r : R2} {g : D → D → Option D} {pos : Pos} {fa fb : EV} (ho : OpR X (compareOp op) r) (o : Op2 G r g) (ha : DV X G W e1 fa) (hb : DV X G W e2 fb) (hm : behindInMarks op e2 = false) : DV X G W (.Compare e1 [op] [e2] pos) (ev2 g fa fb) := by
  obtain ⟨ta, pa, sa⟩ := ha.ex
  obtain ⟨tb, pb, sb⟩ := hb.ex
  exact ⟨_, pe_cmpR ho pa pb hm, VOk.op o sa sb⟩
def asB : D → Option Bool
  | .bl b => some b
  | _ => none
def tV (f : EV) : ET := fun δ a => (f δ a).opt asB
theorem TOk.ofV {t : TE} {f : EV} (h : VOk G W t f) : TOk G W (tB t) (tV f) := fun ρ R B H σ δ a Q w sl q =>
  h ρ R B H σ δ a _ w sl (Fin.imp (Fin.seqo q) fun d a1 B1 H1 w1 s1 k1 q1 x r1 => by
    obtain ⟨b, e, q2⟩ := q1
    cases d with
    | bl b' =>
      have e' : b' = b := Option.some.inj e
      subst e'
      exact ⟨b', r1, q2⟩
    | _ => cases e)
theorem dt_val {f : EV} (h : DV X G W e f) (he : ∀ whole, isTrue e X.env whole = (do let v ← whole; standAt e.pos; holding [v] (truthy v)) := by intro _; rfl) : DT X G W e (tV f) := by
  obtain ⟨t, p, s⟩ := h.ex
  exact ⟨_, pt_val p he, TOk.ofV s⟩
theorem dt_cmp {op : CmpOp} {r : R2} {g : D → D → Option D} {pos : Pos} {fa fb : EV} (ho : OpR X (compareOp op) r) (o : Op2 G r g) (ha : DV X G W e1 fa) (hb : DV X G W e2 fb) (hm : behindInMarks op e2 = false) : DT X G W (.Compare e1 [op] [e2] pos) (tV (ev2 g fa fb)) := by
  obtain ⟨ta, pa, sa⟩ := ha.ex
  obtain ⟨tb, pb, sb⟩ := hb.ex
  exact ⟨_, pt_cmpR ho pa pb hm, TOk.ofV (VOk.op o sa sb)⟩
def tN (f : ET) : ET := fun δ a => (f δ a).map not
theorem dt_not {f : ET} {pos : Pos} (h : DT X G W e f) : DT X G W (.UnaryOp .Not e pos) (tN f) := by
  obtain ⟨t, p, s⟩ := h.ex
  exact ⟨_, pt_not p, fun ρ R B H σ δ a Q w sl q => s ρ R B H σ δ a _ w sl (Fin.imp (Fin.seq q) fun b a1 B1 H1 w1 s1 k1 q1 => q1.here w1)⟩
def tAn (f g : ET) : ET := fun δ a => (f δ a).bind fun b a1 => if b = true then g δ a1 else .ok false a1
def tOn (f g : ET) : ET := fun δ a => (f δ a).bind fun b a1 => if b = true then .ok true a1 else g δ a1
theorem TOk.and {t u : TT} {f g : ET} (h1 : TOk G W t f) (h2 : TOk G W u g) : TOk G W (tAnd t u) (tAn f g) := fun ρ R B H σ δ a Q w sl q =>
  h1 ρ R B H σ δ a _ w sl (Fin.imp (Fin.seq q) fun b a1 B1 H1 w1 s1 k1 q1 => by
    cases b with
    | true => exact h2 ρ R B1 H1 σ δ a1 _ w1 (sl.mono s1) q1
    | false => exact q1.here w1)
theorem TOk.or {t u : TT} {f g : ET} (h1 : TOk G W t f) (h2 : TOk G W u g) : TOk G W (tOr t u) (tOn f g) := fun ρ R B H σ δ a Q w sl q =>
  h1 ρ R B H σ δ a _ w sl (Fin.imp (Fin.seq q) fun b a1 B1 H1 w1 s1 k1 q1 => by
    cases b with
    | true => exact q1.here w1
    | false => exact h2 ρ R B1 H1 σ δ a1 _ w1 (sl.mono s1) q1)
theorem dw_and1 {f : ET} {pos : Pos} (h : DT X G W e f) : DW X G W (.BoolOp .And [e] pos) f := by
  obtain ⟨t, p, s⟩ := h.ex
  exact ⟨_, pw_and1 p, s⟩
theorem dw_or1 {f : ET} {pos : Pos} (h : DT X G W e f) : DW X G W (.BoolOp .Or [e] pos) f := by
  obtain ⟨t, p, s⟩ := h.ex
  exact ⟨_, pw_or1 p, s⟩
theorem dw_and {f g : ET} {rest : List Expr} {pos : Pos} (h : DT X G W e f) (k : DW X G W (.BoolOp .And (e1 :: rest) pos) g) : DW X G W (.BoolOp .And (e :: e1 :: rest) pos) (tAn f g) := by
  obtain ⟨t, p, s⟩ := h.ex
  obtain ⟨u, p2, s2⟩ := k.ex
  exact ⟨_, pw_and p p2, TOk.and s s2⟩
theorem dw_or {f g : ET} {rest : List Expr} {pos : Pos} (h : DT X G W e f) (k : DW X G W (.BoolOp .Or (e1 :: rest) pos) g) : DW X G W (.BoolOp .Or (e :: e1 :: rest) pos) (tOn f g) := by
  obtain ⟨t, p, s⟩ := h.ex
  obtain ⟨u, p2, s2⟩ := k.ex
  exact ⟨_, pw_or p p2, TOk.or s s2⟩
theorem dt_w {f : ET} (h : DW X G W e f) : DT X G W e f := by
  obtain ⟨t, p, s⟩ := h.ex
  exact ⟨_, p.pt, s⟩
def vAn (f g : EV) : EV := fun δ a => ((f δ a).opt asB).bind fun b a1 => if b = true then g δ a1 else .ok (.bl false) a1
def vOn (f g : EV) : EV := fun δ a => ((f δ a).opt asB).bind fun b a1 => if b = true then .ok (.bl true) a1 else g δ a1
def vN (f : EV) : EV := fun δ a => ((f δ a).opt asB).map fun b => .bl (!b)
theorem asB_rep {d : D} {b : Bool} {B : Hp} {ρ : List Addr} {x : V} (e : asB d = some b) (r : Rep G B ρ d x) : x = .bl b := by
  cases d with
  | bl b' =>
    have e' : b' = b := Option.some.inj e
    subst e'
    exact r
  | _ => cases e
theorem dv_one {op} {pos : Pos} (h : DV X G W e f) : DV X G W (.BoolOp op [e] pos) f := by
  obtain ⟨t, p, s⟩ := h.ex
  exact ⟨_, pe_one p, s⟩
theorem dv_and {rest : List Expr} {pos : Pos} (h : DV X G W e f) (k : DV X G W (.BoolOp .And (e1 :: rest) pos) g) : DV X G W (.BoolOp .And (e :: e1 :: rest) pos) (vAn f g) := by
  obtain ⟨t, p, s⟩ := h.ex
  obtain ⟨u, p2, s2⟩ := k.ex
  refine ⟨_, pe_and p p2, fun ρ R B H σ δ a Q w sl q => s ρ R B H σ δ a _ w sl (Fin.imp (Fin.seqo (Fin.seq q)) fun d a1 B1 H1 w1 s1 k1 q1 x r => ?_)⟩
  obtain ⟨b, e, q2⟩ := q1
  refine ⟨b, asB_rep e r, ?_⟩
  cases b with
  | true => exact s2 ρ R B1 H1 σ δ a1 _ w1 (sl.mono s1) q2
  | false => exact q2.here w1 _ rfl
theorem dv_not {pos : Pos} (h : DV X G W e f) : DV X G W (.UnaryOp .Not e pos) (vN f) := by
  obtain ⟨t, p, s⟩ := h.ex
  refine ⟨_, pe_not p, fun ρ R B H σ δ a Q w sl q => s ρ R B H σ δ a _ w sl (Fin.imp (Fin.seqo (Fin.seq q)) fun d a1 B1 H1 w1 s1 k1 q1 x r => ?_)⟩
  obtain ⟨b, e, q2⟩ := q1
  exact ⟨b, asB_rep e r, q2.here w1 _ rfl⟩
def eIf (t : ET) (f g : EM) : EM := fun δ a => (t δ a).bind fun b a1 => if b = true then f δ a1 else g δ a1
theorem dm_if {t : ET} {f g : EM} {pos : Pos} (h : DT X G W e t) (h1 : DM X G W e1 f) (h2 : DM X G W e2 g) : DM X G W (.IfExp e e1 e2 pos) (eIf t f g) := by
  obtain ⟨u, p, s⟩ := h.ex
  obtain ⟨u1, p1, s1⟩ := h1.ex
  obtain ⟨u2, p2, s2⟩ := h2.ex
  refine ⟨_, pe_ifExp p p1 p2, fun ρ R B H σ δ a Q w sl q => s ρ R B H σ δ a _ w sl (Fin.imp (Fin.seqM q) fun b a1 B1 H1 w1 s1' k1 q1 => ?_)⟩
  cases b with
  | true => exact s1 ρ R B1 H1 σ δ a1 _ w1 (sl.mono s1') q1
  | false => exact s2 ρ R B1 H1 σ δ a1 _ w1 (sl.mono s1') q1
def aNil : EA := fun _ a => .ok [] a
def aCons (f : EV) (g : EA) : EA := fun δ a => (f δ a).bind fun d a1 => (g δ a1).map fun ds => d :: ds
theorem da_nil : DA X G W [] aNil := ⟨tNil, pa_nil, fun ρ R B H σ δ a Q w sl q => q.here w _ Reps.nil⟩
theorem da_cons {es : List Expr} {g : EA} (h : DV X G W e f) (k : DA X G W es g) (hs : starEach (e :: es) X.env = (false, eval e X.env) :: starEach es X.env := by rfl) : DA X G W (e :: es) (aCons f g) := by
  obtain ⟨t, p, s⟩ := h.ex
  obtain ⟨u, p2, s2⟩ := k.ex
  exact ⟨_, pa_cons p p2 hs, fun ρ R B H σ δ a Q w sl q => s ρ R B H σ δ a _ w sl (Fin.imp (Fin.seq q) fun d a1 B1 H1 w1 s1 k1 q1 x r1 =>
    s2 ρ R B1 H1 σ δ a1 _ w1 (sl.mono s1) (Fin.imp (Fin.seq q1) fun ds a2 B2 H2 w2 s2 k2 q2 vs r2 => q2.here w2 _ (Reps.cons (Rep.mono s2 d x r1) r2)))⟩
end
end DL
namespace DL
open PySem L2
theorem lim {n : Nat} (h : n ≤ 100000) : n ≤ sizeLine := Nat.le_trans h (by rw [sizeLine_eq]; decide)
inductive New where
  | val (d : D) | lst (l : List D) | tup (l : List D)
def New.m : New → M
  | .val d => .val d
  | .lst l => .lst (l.map M.val)
  | .tup l => .val (.tup l)
def New.d : New → D
  | .val d => d
  | .lst l => .lst l
  | .tup l => .tup l
def NewK (G : Gx) (B H : Hp) (ρ : List Addr) (nw : New) (Q : VK) : Prop := match nw with
  | .val d => ∀ v, Rep G B ρ d v → Q v H
  | .lst l => ∀ p xs, H p = none → Reps G B ρ l xs → Q (.ref p) (upd H p (.lst xs))
  | .tup l => ∀ p xs, H p = none → Reps G B ρ l xs → Q (.ref p) (upd H p (.tup xs))
section
variable {G : Gx} {W : WX} {ρ R : List Addr} {B H : Hp} {σ : St} {a : Sto} {nw : New}
theorem FinM.new {Q : VK} (w : Wd G B H ρ a R) (h : FinM G W ρ R B H σ (.ok nw.m a) (fun _ _ _ H' v _ => Q v H')) : NewK G B H ρ nw Q := by
  cases nw with
  | val d => exact fun v r => h B H v [] w (Same.refl _) Kp.refl ⟨rfl, r⟩
  | lst l => exact fun p xs hp r => h B (upd H p (.lst xs)) (.ref p) [p] (w.newOwn hp) (Same.refl _) (kp_new w hp) ⟨p, xs, [], rfl, upd_same, rfl, Owns.vals r⟩
  | tup l => exact fun p xs hp r => h (upd B p (.tup xs)) (upd H p (.tup xs)) (.ref p) [] (w.new hp) (same_new (w.noneB hp)) (kp_new w hp) ⟨rfl, p, xs, rfl, SqT.of upd_same, Reps.mono (same_new (w.noneB hp)) l xs r⟩
theorem Fin.new {Q : VK} (w : Wd G B H ρ a R) (h : Fin G W ρ R B H σ (.ok nw.d a) (fun d _ B' H' => ∀ v, Rep G B' ρ d v → Q v H')) : NewK G B H ρ nw Q := by
  cases nw with
  | val d => exact fun v r => h B H w (Same.refl _) Kp.refl v r
  | lst l => exact fun p xs hp r => h (upd B p (.lst xs)) (upd H p (.lst xs)) (w.new hp) (same_new (w.noneB hp)) (kp_new w hp) (.ref p) ⟨p, xs, rfl, upd_same, Reps.mono (same_new (w.noneB hp)) l xs r⟩
  | tup l => exact fun p xs hp r => h (upd B p (.tup xs)) (upd H p (.tup xs)) (w.new hp) (same_new (w.noneB hp)) (kp_new w hp) (.ref p) ⟨p, xs, rfl, SqT.of upd_same, Reps.mono (same_new (w.noneB hp)) l xs r⟩
end
def OpN (G : Gx) (r : R2) (g : D → D → Option New) : Prop := ∀ (ρ R : List Addr) (B H : Hp) (a : Sto) (d1 d2 : D) (nw : New) (x y : V) (Q : VK), Wd G B H ρ a R → Rep G B ρ d1 x → Rep G B ρ d2 y → g d1 d2 = some nw → NewK G B H ρ nw Q → r x y H Q
def OpS (G : Gx) (r : R2) (g : Sto → D → D → Option New) : Prop := ∀ (ρ R : List Addr) (B H : Hp) (a : Sto) (d1 d2 : D) (nw : New) (x y : V) (Q : VK), Wd G B H ρ a R → Rep G B ρ d1 x → Rep G B ρ d2 y → g a d1 d2 = some nw → NewK G B H ρ nw Q → r x y H Q
def eN (g : D → D → Option New) (f1 f2 : EV) : EM := fun δ a => (f1 δ a).bind fun d a1 => (f2 δ a1).bind fun e a2 => match g d e with | some nw => .ok nw.m a2 | none => .stuck
def vNw (g : D → D → Option New) (f1 f2 : EV) : EV := fun δ a => (f1 δ a).bind fun d a1 => (f2 δ a1).bind fun e a2 => match g d e with | some nw => .ok nw.d a2 | none => .stuck
def vS (g : Sto → D → D → Option New) (f1 f2 : EV) : EV := fun δ a => (f1 δ a).bind fun d a1 => (f2 δ a1).bind fun e a2 => match g a2 d e with | some nw => .ok nw.d a2 | none => .stuck
section
variable {X : Cx} {G : Gx} {W : WX} {e1 e2 : Expr} {fa fb : EV} {pos : Pos} {r : R2}
theorem MOk.opN {g : D → D → Option New} {ta tb : TE} (o : OpN G r g) (ha : VOk G W ta fa) (hb : VOk G W tb fb) : MOk G W (tOp r ta tb) (eN g fa fb) := fun ρ R B H σ δ a Q w sl q =>
  ha ρ R B H σ δ a _ w sl (Fin.imp (Fin.seqM q) fun d1 a1 B1 H1 w1 s1 k1 q1 x r1 =>
    hb ρ R B1 H1 σ δ a1 _ w1 (sl.mono s1) (Fin.imp (Fin.seqM q1) fun d2 a2 B2 H2 w2 s2 k2 q2 y r2 => by
      cases e : g d1 d2 with
      | none =>
        rw [e] at q2
        exact q2.elim
      | some nw =>
        rw [e] at q2
        exact o ρ R B2 H2 a2 d1 d2 nw x y Q w2 (Rep.mono s2 d1 x r1) r2 e (FinM.new w2 q2)))
theorem VOk.opN {g : D → D → Option New} {ta tb : TE} (o : OpN G r g) (ha : VOk G W ta fa) (hb : VOk G W tb fb) : VOk G W (tOp r ta tb) (vNw g fa fb) := fun ρ R B H σ δ a Q w sl q =>
  ha ρ R B H σ δ a _ w sl (Fin.imp (Fin.seq q) fun d1 a1 B1 H1 w1 s1 k1 q1 x r1 =>
    hb ρ R B1 H1 σ δ a1 _ w1 (sl.mono s1) (Fin.imp (Fin.seq q1) fun d2 a2 B2 H2 w2 s2 k2 q2 y r2 => by
      cases e : g d1 d2 with
      | none =>
        rw [e] at q2
        exact q2.elim
      | some nw =>
        rw [e] at q2
        exact o ρ R B2 H2 a2 d1 d2 nw x y Q w2 (Rep.mono s2 d1 x r1) r2 e (Fin.new w2 q2)))
theorem VOk.opS {g : Sto → D → D → Option New} {ta tb : TE} (o : OpS G r g) (ha : VOk G W ta fa) (hb : VOk G W tb fb) : VOk G W (tOp r ta tb) (vS g fa fb) := fun ρ R B H σ δ a Q w sl q =>
  ha ρ R B H σ δ a _ w sl (Fin.imp (Fin.seq q) fun d1 a1 B1 H1 w1 s1 k1 q1 x r1 =>
    hb ρ R B1 H1 σ δ a1 _ w1 (sl.mono s1) (Fin.imp (Fin.seq q1) fun d2 a2 B2 H2 w2 s2 k2 q2 y r2 => by
      cases e : g a2 d1 d2 with
      | none =>
        rw [e] at q2
        exact q2.elim
      | some nw =>
        rw [e] at q2
        exact o ρ R B2 H2 a2 d1 d2 nw x y Q w2 (Rep.mono s2 d1 x r1) r2 e (Fin.new w2 q2)))
theorem dv_binN {op : Operator} {g : D → D → Option New} (ho : OpR X (binaryOp op) r) (o : OpN G r g) (ha : DV X G W e1 fa) (hb : DV X G W e2 fb) : DV X G W (.BinOp e1 op e2 pos) (vNw g fa fb) := by
  obtain ⟨ta, pa, sa⟩ := ha.ex
  obtain ⟨tb, pb, sb⟩ := hb.ex
  exact ⟨_, pe_op ho pa pb, VOk.opN o sa sb⟩
end
def dI (g : Int → Int → Option D) : D → D → Option D
  | .int i, .int j => g i j
  | _, _ => none
theorem op_I {G : Gx} {C : Int → Int → Prop} {f : Int → Int → V} {g : Int → Int → Option D} (h : ∀ i j d, g i j = some d → C i j ∧ ∀ B ρ, Rep G B ρ d (f i j)) : Op2 G (rI C f) (dI g) := fun B H ρ d1 d2 d x y Q s r1 r2 e q => by
  cases d1 with
  | int i =>
    cases d2 with
    | int j =>
      obtain ⟨h1, h2⟩ := h i j d e
      exact ⟨i, j, r1, r2, h1, q _ (h2 B ρ)⟩
    | _ => cases e
  | _ => cases e
theorem op_I0 {G : Gx} {f : Int → Int → V} {g : Int → Int → Option D} (h : ∀ i j d, g i j = some d → ∀ B ρ, Rep G B ρ d (f i j)) : Op2 G (rI0 f) (dI g) := fun B H ρ d1 d2 d x y Q s r1 r2 e q => by
  cases d1 with
  | int i =>
    cases d2 with
    | int j => exact ⟨i, j, r1, r2, q _ (h i j d e B ρ)⟩
    | _ => cases e
  | _ => cases e
def gSub (i j : Int) : Option D := some (.int (i - j))
def gMod (i j : Int) : Option D := if 0 < j then some (.int (i % j)) else none
def gDiv (i j : Int) : Option D := if 0 < j ∧ j < 18446744073709551616 then some (.int (i / j)) else none
def gPow (i j : Int) : Option D := if 0 ≤ j ∧ j ≤ 1000000 ∧ i.natAbs < 2 ^ 64 then some (.int (i ^ j.toNat)) else none
def gLt (i j : Int) : Option D := some (.bl (decide (i < j)))
def gLe (i j : Int) : Option D := some (.bl (decide (i ≤ j)))
def gGt (i j : Int) : Option D := some (.bl (decide (j < i)))
def gGe (i j : Int) : Option D := some (.bl (decide (j ≤ i)))
theorem some_rep {G : Gx} {B : Hp} {ρ : List Addr} {d d' : D} {v : V} (h : some d = some d') (r : Rep G B ρ d v) : Rep G B ρ d' v := by
  rw [← Option.some.inj h]
  exact r
theorem o_sub {G : Gx} : Op2 G (rI0 fun i j => .int (i - j)) (dI gSub) := op_I0 fun i j d e B ρ => some_rep e rfl
theorem o_mod {G : Gx} : Op2 G (rI (fun _ j => 0 < j) fun i j => .int (i % j)) (dI gMod) := op_I fun i j d e => by
  dsimp only [gMod] at e
  by_cases c : 0 < j
  · rw [if_pos c] at e
    exact ⟨c, fun B ρ => some_rep e rfl⟩
  · rw [if_neg c] at e
    cases e
theorem o_div {G : Gx} : Op2 G (rI CDivW fun i j => .int (i / j)) (dI gDiv) := op_I fun i j d e => by
  dsimp only [gDiv] at e
  by_cases c : 0 < j ∧ j < 18446744073709551616
  · rw [if_pos c] at e
    exact ⟨wide_div (b := 64) c.1 (by omega) (by decide) (by decide), fun B ρ => some_rep e rfl⟩
  · rw [if_neg c] at e
    cases e
theorem o_pow {G : Gx} : Op2 G (rI CPow fun i j => .int (i ^ j.toNat)) (dI gPow) := op_I fun i j d e => by
  dsimp only [gPow] at e
  by_cases c : 0 ≤ j ∧ j ≤ 1000000 ∧ i.natAbs < 2 ^ 64
  · rw [if_pos c] at e
    exact ⟨c, fun B ρ => some_rep e rfl⟩
  · rw [if_neg c] at e
    cases e
theorem o_lt {G : Gx} : Op2 G (rI0 fun i j => .bl (decide (i < j))) (dI gLt) := op_I0 fun i j d e B ρ => some_rep e rfl
theorem o_gt {G : Gx} : Op2 G (rI0 fun i j => .bl (decide (j < i))) (dI gGt) := op_I0 fun i j d e B ρ => some_rep e rfl
theorem o_ge {G : Gx} : Op2 G (rI0 fun i j => .bl (decide (j ≤ i))) (dI gGe) := op_I0 fun i j d e B ρ => some_rep e rfl
def dAdd : D → D → Option New
  | .int i, .int j => some (.val (.int (i + j)))
  | .str x, .str y => if x.length + y.length ≤ 100000 then some (.val (.str (x ++ y))) else none
  | .lst xs, .lst ys => if xs.length + ys.length ≤ 100000 then some (.lst (xs ++ ys)) else none
  | .tup xs, .tup ys => if xs.length + ys.length ≤ 100000 then some (if xs.isEmpty then .val (.tup ys) else if ys.isEmpty then .val (.tup xs) else .tup (xs ++ ys)) else none
  | _, _ => none
def rAddA (K : PySem.W.Frag) : R2 := fun x y H Q => rI0 (fun i j => .int (i + j)) x y H Q ∨ (fun x y H Q => ∃ i j, x = V.str i ∧ y = V.str j ∧ i.length + j.length ≤ sizeLine ∧ Q (.str (i ++ j)) H) x y H Q ∨ rCat x y H Q ∨ rCatA K x y H Q
theorem op_addA {X : Cx} : OpR X (binaryOp .Add) (rAddA X.K) := op_add.or (op_add_str.or (op_cat.or op_catA))
theorem Reps.empty {G : Gx} {B : Hp} {ρ : List Addr} {ds : List D} {xs : List V} (h : Reps G B ρ ds xs) : xs = [] ↔ ds.isEmpty = true := by
  have e := h.len
  cases ds with
  | nil =>
    have z : xs = [] := h
    subst z
    exact ⟨fun _ => rfl, fun _ => rfl⟩
  | cons d ds =>
    obtain ⟨x, r, rfl, _⟩ := h
    constructor
    · intro z
      cases z
    · intro z
      cases z
theorem o_add {G : Gx} : OpN G (rAddA G.K) dAdd := fun ρ R B H a d1 d2 nw x y Q w r1 r2 e q => by
  cases d1 with
  | int i =>
    cases d2 with
    | int j =>
      cases e
      exact .inl ⟨i, j, r1, r2, q _ rfl⟩
    | _ => cases e
  | str i =>
    cases d2 with
    | str j =>
      dsimp only [dAdd] at e
      by_cases c : i.length + j.length ≤ 100000
      · rw [if_pos c] at e
        cases e
        exact .inr (.inl ⟨i, j, r1, r2, lim c, q _ rfl⟩)
      · rw [if_neg c] at e
        cases e
    | _ => cases e
  | lst i =>
    cases d2 with
    | lst j =>
      dsimp only [dAdd] at e
      by_cases c : i.length + j.length ≤ 100000
      · rw [if_pos c] at e
        cases e
        obtain ⟨p, xs, rfl, h1, h2⟩ := r1
        obtain ⟨p', xs', rfl, h1', h2'⟩ := r2
        exact .inr (.inr (.inl ⟨p, p', xs, xs', rfl, rfl, w.ex _ _ h1, w.ex _ _ h1', lim (by rw [← h2.len, ← h2'.len]; exact c), fun o ho => q o _ ho (h2.append h2')⟩))
      · rw [if_neg c] at e
        cases e
    | _ => cases e
  | tup i =>
    cases d2 with
    | tup j =>
      dsimp only [dAdd] at e
      by_cases c : i.length + j.length ≤ 100000
      · rw [if_pos c] at e
        obtain ⟨p, xs, rfl, h1, h2⟩ := r1
        obtain ⟨p', xs', rfl, h1', h2'⟩ := r2
        have t1 : SqT G.K H p xs := by
          rcases h1 with (h | ⟨o, h⟩) | h
          · exact .inl (.inl (w.ex _ _ h))
          · exact .inl (.inr ⟨o, w.ex _ _ h⟩)
          · exact .inr h
        have t2 : SqT G.K H p' xs' := by
          rcases h1' with (h | ⟨o, h⟩) | h
          · exact .inl (.inl (w.ex _ _ h))
          · exact .inl (.inr ⟨o, w.ex _ _ h⟩)
          · exact .inr h
        refine .inr (.inr (.inr ⟨p, p', xs, xs', rfl, rfl, t1, t2, lim (by rw [← h2.len, ← h2'.len]; exact c), fun z => ?_, fun z z' => ?_, fun z z' => ?_⟩))
        · rw [if_pos (h2.empty.mp z)] at e
          cases e
          exact q _ ⟨p', xs', rfl, h1', h2'⟩
        · rw [if_neg (fun u => z (h2.empty.mpr u)), if_pos (h2'.empty.mp z')] at e
          cases e
          exact q _ ⟨p, xs, rfl, h1, h2⟩
        · rw [if_neg (fun u => z (h2.empty.mpr u)), if_neg (fun u => z' (h2'.empty.mpr u))] at e
          cases e
          exact fun o ho => q o _ ho (h2.append h2')
      · rw [if_neg c] at e
        cases e
    | _ => cases e
  | _ => cases e
theorem sqt_same {K : PySem.W.Frag} {B H : Hp} {p : Addr} {xs : List V} (s : Same B H) (h : SqT K B p xs) : SqT K H p xs := by
  rcases h with (h | ⟨o, h⟩) | h
  · exact .inl (.inl (s _ _ h))
  · exact .inl (.inr ⟨o, s _ _ h⟩)
  · exact .inr h
def dMul : D → D → Option New
  | .int i, .int j => if (-(2 ^ 64) < i ∧ i < 2 ^ 64) ∨ (-(2 ^ 64) < j ∧ j < 2 ^ 64) then some (.val (.int (i * j))) else none
  | .lst xs, .int k => if 0 ≤ k ∧ k ≤ 1000 ∧ xs.length ≤ 100 then some (.lst (List.replicate k.toNat xs).flatten) else none
  | _, _ => none
def rMulA : R2 := fun x y H Q => rI CMul (fun i j => .int (i * j)) x y H Q ∨ rRep x y H Q
theorem op_mulA {X : Cx} : OpR X (binaryOp .Mult) rMulA := op_mul.or op_rep
theorem Reps.rep {G : Gx} {B : Hp} {ρ : List Addr} {ds : List D} {xs : List V} (h : Reps G B ρ ds xs) : ∀ k : Nat, Reps G B ρ (List.replicate k ds).flatten (List.replicate k xs).flatten
  | 0 => rfl
  | k + 1 => by
    rw [List.replicate_succ, List.replicate_succ, List.flatten_cons, List.flatten_cons]
    exact h.append (Reps.rep h k)
theorem o_mul {G : Gx} : OpN G rMulA dMul := fun ρ R B H a d1 d2 nw x y Q w r1 r2 e q => by
  cases d1 with
  | int i =>
    cases d2 with
    | int j =>
      dsimp only [dMul] at e
      by_cases c : (-(2 ^ 64) < i ∧ i < 2 ^ 64) ∨ (-(2 ^ 64) < j ∧ j < 2 ^ 64)
      · rw [if_pos c] at e
        cases e
        exact .inl ⟨i, j, r1, r2, c, q _ rfl⟩
      · rw [if_neg c] at e
        cases e
    | _ => cases e
  | lst i =>
    cases d2 with
    | int j =>
      dsimp only [dMul] at e
      by_cases c : 0 ≤ j ∧ j ≤ 1000 ∧ i.length ≤ 100
      · rw [if_pos c] at e
        cases e
        obtain ⟨p, xs, rfl, h1, h2⟩ := r1
        obtain ⟨c1, c2, c3⟩ := c
        have hl := h2.len
        have c4 : j.toNat ≤ 1000 := by omega
        have c5 : xs.length * j.toNat ≤ 100 * 1000 := Nat.mul_le_mul (by omega) c4
        exact .inr ⟨p, j, xs, rfl, r2, w.ex _ _ h1, by omega, by omega, lim (by omega), fun o ho => q o _ ho (h2.rep _)⟩
      · rw [if_neg c] at e
        cases e
    | _ => cases e
  | _ => cases e
def dd : Nat → D → Bool
  | _, .non => true
  | _, .bl _ => true
  | _, .int _ => true
  | _, .str s => PySem.PyData.strOk s
  | n + 1, .tup l => l.all (dd n)
  | n + 1, .lst l => l.all (dd n)
  | _, _ => false
mutual
def eqvD : D → D → Bool
  | .non, .non => true
  | .bl a, .bl b => a == b
  | .bl a, .int j => (if a then 1 else 0) == j
  | .int i, .bl b => i == (if b then 1 else 0)
  | .int i, .int j => i == j
  | .str x, .str y => x == y
  | .lst xs, .lst ys => eqvDs xs ys
  | .tup xs, .tup ys => eqvDs xs ys
  | _, _ => false
def eqvDs : List D → List D → Bool
  | [], [] => true
  | x :: xs, y :: ys => eqvD x y && eqvDs xs ys
  | _, _ => false
end
mutual
def pd : D → PyData
  | .non => .none
  | .bl b => .bool b
  | .int i => .int i
  | .str s => .str s
  | .tup l => .tuple (pds l)
  | .lst l => .list (pds l)
  | _ => .none
def pds : List D → List PyData
  | [] => []
  | d :: ds => pd d :: pds ds
end
section
variable {G : Gx} {B : Hp} {ρ : List Addr}
theorem dp_of (H : Hp) (s : Same B H) : ∀ (n : Nat) (d : D) (v : V), dd n d = true → Rep G B ρ d v → Dp G.K H v (pd d)
  | n, .non, v, h, r => by
    have e : v = .non := r
    rw [e]
    exact .non
  | n, .bl b, v, h, r => by
    have e : v = .bl b := r
    rw [e]
    exact .bl b
  | n, .int b, v, h, r => by
    have e : v = .int b := r
    rw [e]
    exact .int b
  | n, .str b, v, h, r => by
    have e : v = .str b := r
    rw [e]
    exact .str b
  | 0, .tup l, v, h, r => by cases h
  | 0, .lst l, v, h, r => by cases h
  | n + 1, .tup l, v, h, r => by
    obtain ⟨p, xs, rfl, h1, h2⟩ := r
    have all : ∀ (l : List D) (xs : List V), l.all (dd n) = true → Reps G B ρ l xs → DpAll G.K H xs (pds l) := by
      intro l
      induction l with
      | nil =>
        intro xs _ r
        have e : xs = [] := r
        rw [e]
        exact .nil
      | cons d ds ih =>
        intro xs hl r
        obtain ⟨x, r', rfl, h3, h4⟩ := r
        rw [List.all_cons, Bool.and_eq_true] at hl
        exact .cons (dp_of H s n d x hl.1 h3) (ih r' hl.2 h4)
    exact .tup (sqt_same s h1) (all l xs h h2)
  | n + 1, .lst l, v, h, r => by
    obtain ⟨p, xs, rfl, h1, h2⟩ := r
    have all : ∀ (l : List D) (xs : List V), l.all (dd n) = true → Reps G B ρ l xs → DpAll G.K H xs (pds l) := by
      intro l
      induction l with
      | nil =>
        intro xs _ r
        have e : xs = [] := r
        rw [e]
        exact .nil
      | cons d ds ih =>
        intro xs hl r
        obtain ⟨x, r', rfl, h3, h4⟩ := r
        rw [List.all_cons, Bool.and_eq_true] at hl
        exact .cons (dp_of H s n d x hl.1 h3) (ih r' hl.2 h4)
    exact .lst (SqL.of (s _ _ h1)) (all l xs h h2)
  | n, .obj _ _ _, v, h, r => by cases n <;> cases h
  | n, .exc _ _ _, v, h, r => by cases n <;> cases h
  | n, .loc _, v, h, r => by cases n <;> cases h
  | n, .scr _, v, h, r => by cases n <;> cases h
end
theorem canLay_pd : ∀ (n : Nat) (d : D), dd n d = true → (pd d).canLay0 = true ∧ (pd d).depth ≤ n + 1
  | n, .non, h => by
    refine ⟨by unfold pd; rfl, ?_⟩
    unfold pd PyData.depth
    omega
  | n, .bl b, h => by
    refine ⟨by unfold pd; rfl, ?_⟩
    unfold pd PyData.depth
    omega
  | n, .int b, h => by
    refine ⟨by unfold pd; rfl, ?_⟩
    unfold pd PyData.depth
    omega
  | n, .str b, h => by
    have h' : PySem.PyData.strOk b = true := by
      cases n <;> exact h
    refine ⟨?_, ?_⟩
    · show PyData.canLay0 (.str b) = true
      simp only [PyData.canLay0]
      exact h'
    · unfold pd PyData.depth
      omega
  | 0, .tup l, h => by cases h
  | 0, .lst l, h => by cases h
  | n + 1, .tup l, h => by
    have all : ∀ (l : List D), l.all (dd n) = true → PyData.canLayAll0 (pds l) = true ∧ PyData.depthAll (pds l) ≤ n + 1 := by
      intro l
      induction l with
      | nil => intro _; exact ⟨rfl, Nat.zero_le _⟩
      | cons d ds ih =>
        intro hl
        rw [List.all_cons, Bool.and_eq_true] at hl
        have h1 := canLay_pd n d hl.1
        have h2 := ih hl.2
        refine ⟨?_, ?_⟩
        · show PyData.canLayAll0 (pd d :: pds ds) = true
          simp [PyData.canLayAll0, h1.1, h2.1]
        · show PyData.depthAll (pd d :: pds ds) ≤ n + 1
          simp only [PyData.depthAll]
          omega
    have q := all l h
    refine ⟨?_, ?_⟩
    · show PyData.canLay0 (.tuple (pds l)) = true
      simp [PyData.canLay0, q.1]
    · show PyData.depth (.tuple (pds l)) ≤ n + 1 + 1
      simp only [PyData.depth]
      omega
  | n + 1, .lst l, h => by
    have all : ∀ (l : List D), l.all (dd n) = true → PyData.canLayAll0 (pds l) = true ∧ PyData.depthAll (pds l) ≤ n + 1 := by
      intro l
      induction l with
      | nil => intro _; exact ⟨rfl, Nat.zero_le _⟩
      | cons d ds ih =>
        intro hl
        rw [List.all_cons, Bool.and_eq_true] at hl
        have h1 := canLay_pd n d hl.1
        have h2 := ih hl.2
        refine ⟨?_, ?_⟩
        · show PyData.canLayAll0 (pd d :: pds ds) = true
          simp [PyData.canLayAll0, h1.1, h2.1]
        · show PyData.depthAll (pd d :: pds ds) ≤ n + 1
          simp only [PyData.depthAll]
          omega
    have q := all l h
    refine ⟨?_, ?_⟩
    · show PyData.canLay0 (.list (pds l)) = true
      simp [PyData.canLay0, q.1]
    · show PyData.depth (.list (pds l)) ≤ n + 1 + 1
      simp only [PyData.depth]
      omega
  | n, .obj _ _ _, h => by cases n <;> cases h
  | n, .exc _ _ _, h => by cases n <;> cases h
  | n, .loc _, h => by cases n <;> cases h
  | n, .scr _, h => by cases n <;> cases h
theorem eqv_pd : ∀ (n : Nat) (d e : D), dd n d = true → dd n e = true → PyData.eqv (pd d) (pd e) = eqvD d e := by
  intro n
  induction n with
  | zero =>
    intro d e h1 h2
    cases d <;> first | (cases h1; done) | (cases e <;> first | (cases h2; done) | (unfold pd eqvD PyData.eqv; rfl))
  | succ n ih =>
    have all : ∀ (l m : List D), l.all (dd n) = true → m.all (dd n) = true → PyData.eqvAll (pds l) (pds m) = eqvDs l m := by
      intro l
      induction l with
      | nil =>
        intro m _ _
        cases m with
        | nil => rfl
        | cons y ys => rfl
      | cons x xs ih2 =>
        intro m h1 h2
        cases m with
        | nil => rfl
        | cons y ys =>
          rw [List.all_cons, Bool.and_eq_true] at h1 h2
          show PyData.eqvAll (pd x :: pds xs) (pd y :: pds ys) = (eqvD x y && eqvDs xs ys)
          rw [← ih x y h1.1 h2.1, ← ih2 ys h1.2 h2.2]
          rfl
    intro d e h1 h2
    cases d with
    | tup l =>
      cases e with
      | tup m =>
        show PyData.eqvAll (pds l) (pds m) = eqvDs l m
        exact all l m h1 h2
      | _ => first | (cases h2; done) | rfl
    | lst l =>
      cases e with
      | lst m =>
        show PyData.eqvAll (pds l) (pds m) = eqvDs l m
        exact all l m h1 h2
      | _ => first | (cases h2; done) | rfl
    | _ => first | (cases h1; done) | (cases e <;> first | (cases h2; done) | (unfold pd eqvD PyData.eqv; rfl) | rfl)
def scE : D → D → Option Bool
  | .str x, .str y => some (x == y)
  | .int x, .int y => some (x == y)
  | .bl x, .bl y => some (x == y)
  | .non, .non => some true
  | .non, .str _ => some false | .str _, .non => some false
  | .non, .int _ => some false | .int _, .non => some false
  | .non, .bl _ => some false | .bl _, .non => some false
  | .int _, .str _ => some false | .str _, .int _ => some false
  | .bl _, .str _ => some false | .str _, .bl _ => some false
  | _, _ => none
def dEqB (d e : D) : Option Bool := match scE d e with
  | some b => some b
  | none => if dd 8 d = true ∧ dd 8 e = true then some (eqvD d e) else none
def dEq (d e : D) : Option D := (dEqB d e).map D.bl
def dNe (d e : D) : Option D := (dEqB d e).map fun b => D.bl (!b)
theorem shaped_pd {d : D} (h : dd 8 d = true) : SeqAt.shaped (pd d) = true := by
  obtain ⟨h1, h2⟩ := canLay_pd 8 d h
  unfold SeqAt.shaped
  rw [h1]
  exact decide_eq_true (by omega)
def rEqA (K : PySem.W.Frag) : R2 := fun x y H Q => rEq x y H Q ∨ rEqD K x y H Q
def rNeA (K : PySem.W.Frag) : R2 := fun x y H Q => rNe x y H Q ∨ rNeD K x y H Q
theorem op_eqA {X : Cx} (hu : X.A.units + 64 < cLine) : OpR X (compareOp .Eq) (rEqA X.K) := op_eq.or (op_eqD hu)
theorem op_neA {X : Cx} (hu : X.A.units + 64 < cLine) : OpR X (compareOp .NotEq) (rNeA X.K) := op_ne.or (op_neD hu)
theorem sc_rep {G : Gx} {B : Hp} {ρ : List Addr} {d e : D} {b : Bool} {x y : V} (h : scE d e = some b) (r1 : Rep G B ρ d x) (r2 : Rep G B ρ e y) : scal x y = true ∧ decide (x = y) = b := by
  cases d <;> cases e <;> first
    | (cases h; done)
    | (cases (show x = _ from r1); cases (show y = _ from r2); refine ⟨rfl, ?_⟩; cases h; first | rfl | exact dec_int | exact dec_bl | exact dec_str)
theorem o_eq {G : Gx} : Op2 G (rEqA G.K) dEq := fun B H ρ d1 d2 d x y Q s r1 r2 e q => by
  unfold dEq dEqB at e
  cases c : scE d1 d2 with
  | some b =>
    rw [c] at e
    obtain ⟨h1, h2⟩ := sc_rep c r1 r2
    refine .inl ⟨h1, ?_⟩
    rw [h2]
    exact q _ (some_rep e rfl)
  | none =>
    rw [c] at e
    dsimp only at e
    by_cases c : dd 8 d1 = true ∧ dd 8 d2 = true
    · rw [if_pos c] at e
      refine .inr ⟨pd d1, pd d2, dp_of H s 8 d1 x c.1 r1, dp_of H s 8 d2 y c.2 r2, shaped_pd c.1, shaped_pd c.2, ?_⟩
      rw [eqv_pd 8 d1 d2 c.1 c.2]
      exact q _ (some_rep e rfl)
    · rw [if_neg c] at e
      cases e
theorem o_ne {G : Gx} : Op2 G (rNeA G.K) dNe := fun B H ρ d1 d2 d x y Q s r1 r2 e q => by
  unfold dNe dEqB at e
  cases c : scE d1 d2 with
  | some b =>
    rw [c] at e
    obtain ⟨h1, h2⟩ := sc_rep c r1 r2
    refine .inl ⟨h1, ?_⟩
    rw [h2]
    exact q _ (some_rep e rfl)
  | none =>
    rw [c] at e
    dsimp only at e
    by_cases c : dd 8 d1 = true ∧ dd 8 d2 = true
    · rw [if_pos c] at e
      refine .inr ⟨pd d1, pd d2, dp_of H s 8 d1 x c.1 r1, dp_of H s 8 d2 y c.2 r2, shaped_pd c.1, shaped_pd c.2, ?_⟩
      rw [eqv_pd 8 d1 d2 c.1 c.2]
      exact q _ (some_rep e rfl)
    · rw [if_neg c] at e
      cases e
def isNonD : D → Bool
  | .non => true
  | _ => false
def dIs (d e : D) : Option D := match e with
  | .non => some (.bl (isNonD d))
  | _ => none
def dIsNot (d e : D) : Option D := match e with
  | .non => some (.bl (!isNonD d))
  | _ => none
theorem isNon_rep {G : Gx} {B : Hp} {ρ : List Addr} {d : D} {x : V} (r : Rep G B ρ d x) : decide (x = .non) = isNonD d := by
  cases d with
  | non =>
    have e : x = .non := r
    rw [e]
    rfl
  | bl b =>
    have e : x = .bl b := r
    rw [e]
    rfl
  | int b =>
    have e : x = .int b := r
    rw [e]
    rfl
  | str b =>
    have e : x = .str b := r
    rw [e]
    rfl
  | tup l =>
    obtain ⟨p, _, rfl, _⟩ := r
    rfl
  | lst l =>
    obtain ⟨p, _, rfl, _⟩ := r
    rfl
  | obj c ns l =>
    obtain ⟨p, _, _, rfl, _⟩ := r
    rfl
  | exc c ns l =>
    obtain ⟨p, _, rfl, _⟩ := r
    rfl
  | loc n =>
    obtain ⟨p, _, rfl⟩ := r
    rfl
  | scr n =>
    obtain ⟨p, rfl, _⟩ := r
    rfl
theorem o_is {G : Gx} : Op2 G (fun x y H Q => y = .non ∧ Q (.bl (decide (x = .non))) H) dIs := fun B H ρ d1 d2 d x y Q s r1 r2 e q => by
  cases d2 with
  | non =>
    refine ⟨r2, ?_⟩
    rw [isNon_rep r1]
    exact q _ (some_rep e rfl)
  | _ => cases e
theorem o_isNot {G : Gx} : Op2 G (fun x y H Q => y = .non ∧ Q (.bl (!decide (x = .non))) H) dIsNot := fun B H ρ d1 d2 d x y Q s r1 r2 e q => by
  cases d2 with
  | non =>
    refine ⟨r2, ?_⟩
    rw [isNon_rep r1]
    exact q _ (some_rep e rfl)
  | _ => cases e
end DL
namespace DL
open PySem L2
def CallN (G : Gx) (r : List V → Hp → VK → Prop) (g : Sto → List D → Option New) : Prop := ∀ (ρ R : List Addr) (B H : Hp) (a : Sto) (ds : List D) (nw : New) (vs : List V) (Q : VK), Wd G B H ρ a R → Reps G B ρ ds vs → g a ds = some nw → NewK G B H ρ nw Q → r vs H Q
def cN (g : Sto → List D → Option New) (f : EA) : EM := fun δ a => (f δ a).bind fun ds a1 => match g a1 ds with | some nw => .ok nw.m a1 | none => .stuck
def cV (g : Sto → List D → Option New) (f : EA) : EV := fun δ a => (f δ a).bind fun ds a1 => match g a1 ds with | some nw => .ok nw.d a1 | none => .stuck
section
variable {X : Cx} {G : Gx} {W : WX} {e : Expr} {es : List Expr} {fa : EA} {p pos : Pos} {r : List V → Hp → VK → Prop} {g : Sto → List D → Option New} {id T : String} {x : Str}
theorem MOk.callN {ta : TA} (o : CallN G r g) (ha : AOk G W ta fa) : MOk G W (fun σ H Q => ta σ H fun vs H1 => r vs H1 Q) (cN g fa) := fun ρ R B H σ δ a Q w sl q =>
  ha ρ R B H σ δ a _ w sl (Fin.imp (Fin.seqM q) fun ds a1 B1 H1 w1 s1 k1 q1 vs r1 => by
    cases e : g a1 ds with
    | none =>
      rw [e] at q1
      exact q1.elim
    | some nw =>
      rw [e] at q1
      exact o ρ R B1 H1 a1 ds nw vs Q w1 r1 e (FinM.new w1 q1))
theorem VOk.callN {ta : TA} (o : CallN G r g) (ha : AOk G W ta fa) : VOk G W (fun σ H Q => ta σ H fun vs H1 => r vs H1 Q) (cV g fa) := fun ρ R B H σ δ a Q w sl q =>
  ha ρ R B H σ δ a _ w sl (Fin.imp (Fin.seq q) fun ds a1 B1 H1 w1 s1 k1 q1 vs r1 => by
    cases e : g a1 ds with
    | none =>
      rw [e] at q1
      exact q1.elim
    | some nw =>
      rw [e] at q1
      exact o ρ R B1 H1 a1 ds nw vs Q w1 r1 e (Fin.new w1 q1))
theorem dv_callB (hc : CallR X (.builtin id) r) (o : CallN G r g) (hg : Gl X x) (hm : X.mg x = none) (hv : bootBuiltins x = some (.builtin id)) (ha : DA X G W (e :: es) fa) (hn : x ≠ "__name__" := by decide) (hdb : (x == ("__debug__" : Str)) = false := by decide)
    (hs : starEach (e :: es) X.env = (false, eval e X.env) :: starEach es X.env := by rfl) (hp : (backTo pos (starEach es X.env)).any (·.1) = false := by rfl) : DV X G W (.Call (.Name x p) (e :: es) [] pos) (cV g fa) := by
  obtain ⟨ta, pa, sa⟩ := ha.ex
  exact ⟨_, pe_callB hc hg hm hv pa hn hdb hs hp, VOk.callN o sa⟩
theorem dm_callT (hc : CallR X (.type T) r) (o : CallN G r g) (hg : Gl X x) (hm : X.mg x = none) (hv : bootBuiltins x = some (.type T)) (ha : DA X G W (e :: es) fa) (hn : x ≠ "__name__" := by decide) (hdb : (x == ("__debug__" : Str)) = false := by decide)
    (hs : starEach (e :: es) X.env = (false, eval e X.env) :: starEach es X.env := by rfl) (hp : (backTo pos (starEach es X.env)).any (·.1) = false := by rfl) : DM X G W (.Call (.Name x p) (e :: es) [] pos) (cN g fa) := by
  obtain ⟨ta, pa, sa⟩ := ha.ex
  exact ⟨_, pe_callTy hc hg hm hv pa hn hdb hs hp, MOk.callN o sa⟩
theorem dv_callT (hc : CallR X (.type T) r) (o : CallN G r g) (hg : Gl X x) (hm : X.mg x = none) (hv : bootBuiltins x = some (.type T)) (ha : DA X G W (e :: es) fa) (hn : x ≠ "__name__" := by decide) (hdb : (x == ("__debug__" : Str)) = false := by decide)
    (hs : starEach (e :: es) X.env = (false, eval e X.env) :: starEach es X.env := by rfl) (hp : (backTo pos (starEach es X.env)).any (·.1) = false := by rfl) : DV X G W (.Call (.Name x p) (e :: es) [] pos) (cV g fa) := by
  obtain ⟨ta, pa, sa⟩ := ha.ex
  exact ⟨_, pe_callTy hc hg hm hv pa hn hdb hs hp, VOk.callN o sa⟩
end
theorem Reps.one {G : Gx} {B : Hp} {ρ : List Addr} {d : D} {vs : List V} (h : Reps G B ρ [d] vs) : ∃ x, vs = [x] ∧ Rep G B ρ d x := by
  obtain ⟨x, r, rfl, h2, h3⟩ := h
  have e : r = [] := h3
  subst e
  exact ⟨x, rfl, h2⟩
theorem Reps.two {G : Gx} {B : Hp} {ρ : List Addr} {d e : D} {vs : List V} (h : Reps G B ρ [d, e] vs) : ∃ x y, vs = [x, y] ∧ Rep G B ρ d x ∧ Rep G B ρ e y := by
  obtain ⟨x, r, rfl, h2, h3⟩ := h
  obtain ⟨y, rfl, h4⟩ := Reps.one h3
  exact ⟨x, y, rfl, h2, h4⟩
def un1 (g : Sto → D → Option New) (a : Sto) : List D → Option New
  | [d] => g a d
  | _ => none
def bi2 (g : Sto → D → D → Option New) (a : Sto) : List D → Option New
  | [d, e] => g a d e
  | _ => none
theorem CallN.un {G : Gx} {r : List V → Hp → VK → Prop} {g : Sto → D → Option New} (h : ∀ (ρ R : List Addr) (B H : Hp) (a : Sto) (d : D) (nw : New) (x : V) (Q : VK), Wd G B H ρ a R → Rep G B ρ d x → g a d = some nw → NewK G B H ρ nw Q → r [x] H Q) : CallN G r (un1 g) :=
  fun ρ R B H a ds nw vs Q w rs e q => by
    match ds, e, rs with
    | [], e, rs => cases e
    | [d], e, rs =>
      obtain ⟨x, rfl, r1⟩ := rs.one
      exact h ρ R B H a d nw x Q w r1 e q
    | _ :: _ :: _, e, rs => cases e
theorem CallN.bi {G : Gx} {r : List V → Hp → VK → Prop} {g : Sto → D → D → Option New} (h : ∀ (ρ R : List Addr) (B H : Hp) (a : Sto) (d d' : D) (nw : New) (x y : V) (Q : VK), Wd G B H ρ a R → Rep G B ρ d x → Rep G B ρ d' y → g a d d' = some nw → NewK G B H ρ nw Q → r [x, y] H Q) : CallN G r (bi2 g) :=
  fun ρ R B H a ds nw vs Q w rs e q => by
    match ds, e, rs with
    | [], e, rs => cases e
    | [d], e, rs => cases e
    | [d, d'], e, rs =>
      obtain ⟨x, y, rfl, r1, r2⟩ := rs.two
      exact h ρ R B H a d d' nw x y Q w r1 r2 e q
    | _ :: _ :: _ :: _, e, rs => cases e
theorem Wd.loc {G : Gx} {B H : Hp} {ρ R : List Addr} {a : Sto} {n : Nat} {l : List Int} {x : V} (w : Wd G B H ρ a R) (h : a[n]? = some (.nums l)) (r : Rep G B ρ (.loc n) x) : ∃ p, x = .ref p ∧ ρ[n]? = some p ∧ H p = some (.lst (l.map V.int)) := by
  obtain ⟨p, h1, rfl⟩ := r
  exact ⟨p, rfl, h1, w.ints h1 h⟩
theorem Wd.locV {G : Gx} {B H : Hp} {ρ R : List Addr} {a : Sto} {n : Nat} {l : List D} {x : V} (w : Wd G B H ρ a R) (h : a[n]? = some (.vals l)) (r : Rep G B ρ (.loc n) x) : ∃ p xs, x = .ref p ∧ ρ[n]? = some p ∧ H p = some (.lst xs) ∧ Reps G B ρ l xs := by
  obtain ⟨p, hp, rfl⟩ := r
  obtain ⟨xs, h1, h2⟩ := w.sto n p _ hp h
  exact ⟨p, xs, rfl, hp, h1, h2⟩
def gLen (a : Sto) : D → Option New
  | .str s => if s.length ≤ 100000 then some (.val (.int s.length)) else none
  | .tup l => some (.val (.int l.length))
  | .lst l => some (.val (.int l.length))
  | .scr l => some (.val (.int l.length))
  | .loc n => match a[n]? with
    | some (.nums l) => some (.val (.int l.length))
    | some (.vals l) => some (.val (.int l.length))
    | _ => none
  | _ => none
theorem c_len {G : Gx} : CallN G (fun xs H Q => ∃ x n, xs = [x] ∧ LenV G.K x H n ∧ Q (.int n) H) (un1 gLen) := .un fun ρ R B H a d nw x Q w r e q => by
  cases d with
  | str s =>
    dsimp only [gLen] at e
    by_cases c : s.length ≤ 100000
    · rw [if_pos c] at e
      cases e
      have e' : x = .str s := r
      subst e'
      exact ⟨_, s.length, rfl, ⟨lim c, rfl⟩, q _ rfl⟩
    · rw [if_neg c] at e
      cases e
  | tup l =>
    cases e
    obtain ⟨p, xs, rfl, h1, h2⟩ := r
    exact ⟨_, l.length, rfl, .inr ⟨xs, sqt_same w.ex h1, h2.len⟩, q _ rfl⟩
  | lst l =>
    cases e
    obtain ⟨p, xs, rfl, h1, h2⟩ := r
    exact ⟨_, l.length, rfl, .inl ⟨xs, SqL.of (w.ex _ _ h1), h2.len⟩, q _ rfl⟩
  | scr l =>
    cases e
    obtain ⟨p, rfl, h1⟩ := r
    exact ⟨_, l.length, rfl, .inl ⟨_, w.ex.seq h1, by rw [List.length_map]⟩, q _ rfl⟩
  | loc n =>
    dsimp only [gLen] at e
    cases c : a[n]? with
    | none =>
      rw [c] at e
      cases e
    | some cl =>
      rw [c] at e
      cases cl with
      | obj _ _ _ => cases e
      | nums l =>
        cases e
        obtain ⟨p, rfl, _, h2⟩ := w.loc c r
        exact ⟨_, l.length, rfl, .inl ⟨_, SqL.of h2, by rw [List.length_map]⟩, q _ rfl⟩
      | vals l =>
        cases e
        obtain ⟨p, xs, rfl, _, h2, h3⟩ := w.locV c r
        exact ⟨_, l.length, rfl, .inl ⟨xs, SqL.of h2, h3.len⟩, q _ rfl⟩
  | _ => cases e
def gInt (_ : Sto) : D → Option New
  | .int i => some (.val (.int i))
  | .bl b => some (.val (.int (if b then 1 else 0)))
  | .str s => if s.length ≤ 640 then (PySem.intText? s).map fun n => .val (.int n) else none
  | _ => none
def rIntA : List V → Hp → VK → Prop := fun xs H Q => (fun xs H Q => (∃ i, xs = [V.int i] ∧ Q (.int i) H) ∨ ∃ k, xs = [V.bl k] ∧ Q (.int (if k then 1 else 0)) H) xs H Q ∨ (fun xs H Q => ∃ a n, xs = [V.str a] ∧ PySem.intText? a = some n ∧ a.length ≤ 640 ∧ Q (.int n) H) xs H Q
theorem call_intA {X : Cx} : CallR X (.type "int") rIntA := call_int1.or call_int_str
theorem c_int {G : Gx} : CallN G rIntA (un1 gInt) := .un fun ρ R B H a d nw x Q w r e q => by
  cases d with
  | int i =>
    cases e
    have e' : x = .int i := r
    subst e'
    exact .inl (.inl ⟨i, rfl, q _ rfl⟩)
  | bl b =>
    cases e
    have e' : x = .bl b := r
    subst e'
    exact .inl (.inr ⟨b, rfl, q _ rfl⟩)
  | str s =>
    dsimp only [gInt] at e
    by_cases c : s.length ≤ 640
    · rw [if_pos c] at e
      cases c2 : PySem.intText? s with
      | none =>
        rw [c2] at e
        cases e
      | some n =>
        rw [c2] at e
        cases e
        have e' : x = .str s := r
        subst e'
        exact .inr ⟨s, n, rfl, c2, c, q _ rfl⟩
    · rw [if_neg c] at e
      cases e
  | _ => cases e
def gAbs (_ : Sto) : D → Option New
  | .int i => some (.val (.int (if i < 0 then -i else i)))
  | _ => none
theorem c_abs {G : Gx} : CallN G (fun xs H Q => ∃ i, xs = [.int i] ∧ Q (.int (if i < 0 then -i else i)) H) (un1 gAbs) := .un fun ρ R B H a d nw x Q w r e q => by
  cases d with
  | int i =>
    cases e
    have e' : x = .int i := r
    subst e'
    exact ⟨i, rfl, q _ rfl⟩
  | _ => cases e
def gMin2 (_ : Sto) : D → D → Option New
  | .int i, .int j => some (.val (.int (if j < i then j else i)))
  | _, _ => none
theorem c_min2 {G : Gx} : CallN G (fun xs H Q => ∃ i j, xs = [.int i, .int j] ∧ Q (.int (if j < i then j else i)) H) (bi2 gMin2) := .bi fun ρ R B H a d d2 nw x y Q w r1 r2 e q => by
  cases d with
  | int i =>
    cases d2 with
    | int j =>
      cases e
      have e1 : x = .int i := r1
      have e2 : y = .int j := r2
      subst e1 e2
      exact ⟨i, j, rfl, q _ rfl⟩
    | _ => cases e
  | _ => cases e
def gList (_ : Sto) : D → Option New
  | .tup l => some (.lst l)
  | .lst l => some (.lst l)
  | .scr l => some (.lst (l.map D.int))
  | _ => none
theorem c_list {G : Gx} : CallN G (fun xs H Q => ∃ p ys, xs = [.ref p] ∧ (SqL G.K H p ys ∨ SqT G.K H p ys) ∧ ∀ l, H l = none → Q (.ref l) (upd H l (.lst ys))) (un1 gList) := .un fun ρ R B H a d nw x Q w r e q => by
  cases d with
  | tup l =>
    cases e
    obtain ⟨p, xs, rfl, h1, h2⟩ := r
    exact ⟨p, xs, rfl, .inr (sqt_same w.ex h1), fun o ho => q o xs ho h2⟩
  | lst l =>
    cases e
    obtain ⟨p, xs, rfl, h1, h2⟩ := r
    exact ⟨p, xs, rfl, .inl (SqL.of (w.ex _ _ h1)), fun o ho => q o xs ho h2⟩
  | scr l =>
    cases e
    obtain ⟨p, rfl, h1⟩ := r
    exact ⟨p, _, rfl, .inl (w.ex.seq h1), fun o ho => q o _ ho (Reps.ints.mpr rfl)⟩
  | _ => cases e
def dIx (a : Sto) : D → D → Option New
  | .tup l, .int i => (atI l i).map New.val
  | .lst l, .int i => (atI l i).map New.val
  | .scr l, .int i => (atI l i).map fun n => .val (.int n)
  | .loc n, .int i => match a[n]? with
    | some (.nums l) => (atI l i).map fun n => .val (.int n)
    | some (.vals l) => (atI l i).map New.val
    | _ => none
  | .str z, .int i => if z.length ≤ 100000 then (atI z.cps.toList i).map fun c => .val (.str ⟨#[c]⟩) else none
  | _, _ => none
theorem Reps.atI {G : Gx} {B : Hp} {ρ : List Addr} {l : List D} {xs : List V} {i : Int} {d : D} (h : Reps G B ρ l xs) (e : L2.atI l i = some d) : ∃ x, L2.atI xs i = some x ∧ Rep G B ρ d x := by
  unfold L2.atI at e ⊢
  rw [← h.len]
  cases c : ixN l.length i with
  | none =>
    rw [c] at e
    cases e
  | some j =>
    rw [c] at e
    exact h.get e
theorem atI_map {α β : Type} {f : α → β} {l : List α} {i : Int} {x : α} (c : L2.atI l i = some x) : L2.atI (l.map f) i = some (f x) := by
  unfold L2.atI at c ⊢
  rw [List.length_map]
  cases c2 : ixN l.length i with
  | none =>
    rw [c2] at c
    cases c
  | some j =>
    rw [c2] at c
    show (l.map f)[j]? = some (f x)
    rw [List.getElem?_map, show l[j]? = some x from c] <;> rfl
theorem o_ix {G : Gx} : OpS G (rIx G.K) dIx := fun ρ R B H a d1 d2 nw x y Q w r1 r2 e q => by
  cases d2 with
  | int i =>
    have e2 : y = .int i := r2
    subst e2
    cases d1 with
    | tup l =>
      dsimp only [dIx] at e
      cases c : L2.atI l i with
      | none =>
        rw [c] at e
        cases e
      | some d =>
        rw [c] at e
        cases e
        obtain ⟨p, xs, rfl, h1, h2⟩ := r1
        obtain ⟨v, h3, h4⟩ := h2.atI c
        exact .inr (.inl ⟨p, xs, i, v, rfl, rfl, sqt_same w.ex h1, h3, q v h4⟩)
    | lst l =>
      dsimp only [dIx] at e
      cases c : L2.atI l i with
      | none =>
        rw [c] at e
        cases e
      | some d =>
        rw [c] at e
        cases e
        obtain ⟨p, xs, rfl, h1, h2⟩ := r1
        obtain ⟨v, h3, h4⟩ := h2.atI c
        exact .inl ⟨p, xs, i, v, rfl, rfl, SqL.of (w.ex _ _ h1), h3, q v h4⟩
    | scr l =>
      dsimp only [dIx] at e
      cases c : L2.atI l i with
      | none =>
        rw [c] at e
        cases e
      | some n =>
        rw [c] at e
        cases e
        obtain ⟨p, rfl, h1⟩ := r1
        exact .inl ⟨p, _, i, .int n, rfl, rfl, w.ex.seq h1, atI_map c, q _ rfl⟩
    | loc n =>
      dsimp only [dIx] at e
      cases c0 : a[n]? with
      | none =>
        rw [c0] at e
        cases e
      | some cl =>
        rw [c0] at e
        cases cl with
        | obj _ _ _ => cases e
        | nums l =>
          dsimp only at e
          cases c : L2.atI l i with
          | none =>
            rw [c] at e
            cases e
          | some k =>
            rw [c] at e
            cases e
            obtain ⟨p, rfl, _, h1⟩ := w.loc c0 r1
            exact .inl ⟨p, _, i, .int k, rfl, rfl, SqL.of h1, atI_map c, q _ rfl⟩
        | vals l =>
          dsimp only at e
          cases c : L2.atI l i with
          | none =>
            rw [c] at e
            cases e
          | some d =>
            rw [c] at e
            cases e
            obtain ⟨p, xs, rfl, _, h1, h2⟩ := w.locV c0 r1
            obtain ⟨y, h3, h4⟩ := h2.atI c
            exact .inl ⟨p, xs, i, y, rfl, rfl, SqL.of h1, h3, q _ h4⟩
    | str z =>
      dsimp only [dIx] at e
      by_cases c0 : z.length ≤ 100000
      · rw [if_pos c0] at e
        cases c : L2.atI z.cps.toList i with
        | none =>
          rw [c] at e
          cases e
        | some k =>
          rw [c] at e
          cases e
          exact .inr (.inr ⟨z, i, k, r1, rfl, lim c0, c, q _ rfl⟩)
      · rw [if_neg c0] at e
        cases e
    | _ => cases e
  | _ => cases d1 <;> cases e
section
variable {X : Cx} {G : Gx} {W : WX} {e1 e2 : Expr} {fa fb : EV} {pos : Pos}
theorem dv_ix (hK : G.K = X.K) (ha : DV X G W e1 fa) (hb : DV X G W e2 fb) (hs : PlainIx e2) : DV X G W (.Subscript e1 e2 pos) (vS dIx fa fb) := by
  obtain ⟨ta, pa, sa⟩ := ha.ex
  obtain ⟨tb, pb, sb⟩ := hb.ex
  exact ⟨_, pe_ix ix_seq pa pb hs, VOk.opS (by rw [← hK]; exact o_ix) sa sb⟩
end
def cutG {α : Type} (xs : List α) (lo hi : Option Int) : List α := (xs.drop (HT.sIx xs.length 0 lo)).take (HT.sIx xs.length xs.length hi - HT.sIx xs.length 0 lo)
def dSl (d : D) (lo hi : Option Int) : Option New := match d with
  | .lst l => some (.lst (cutG l lo hi))
  | .tup l => if HT.sIx l.length 0 lo = 0 ∧ HT.sIx l.length l.length hi = l.length then some (.val (.tup l)) else some (.tup (cutG l lo hi))
  | .str z => if z.length ≤ 100000 then some (.val (.str (cutS z lo hi))) else none
  | _ => none
theorem Reps.cut {G : Gx} {B : Hp} {ρ : List Addr} {l : List D} {xs : List V} (h : Reps G B ρ l xs) (lo hi : Option Int) : Reps G B ρ (cutG l lo hi) (cutV xs lo hi) := by
  unfold cutG cutV
  rw [← h.len]
  exact (h.drop _).take _
def rSlA3 (K : PySem.W.Frag) : V → Option Int → Option Int → Hp → VK → Prop := fun x lo hi H Q => rSlL K x lo hi H Q ∨ rSlA K x lo hi H Q ∨ rSlS x lo hi H Q
theorem sl_all {X : Cx} : SlR X (rSlA3 X.K) := sl_list.or (sl_tupA.or sl_str)
abbrev EO := Sw → Sto → Out (Option Int)
structure DO (X : Cx) (G : Gx) (W : WX) (e : Option Expr) (f : EO) : Prop where
  ex : ∃ t, PO X e t ∧ ∀ (ρ R : List Addr) (B H : Hp) (σ : St) (δ : Sw) (a : Sto) (Q : Option Int → Hp → Prop), Wd G B H ρ a R → Sls G B ρ δ σ → Fin G W ρ R B H σ (f δ a) (fun o _ _ H' => Q o H') → t σ H Q
def asI : D → Option (Option Int)
  | .int i => some (some i)
  | _ => none
def oNo : EO := fun _ a => .ok none a
def oSome (f : EV) : EO := fun δ a => (f δ a).opt asI
section
variable {X : Cx} {G : Gx} {W : WX} {e : Expr} {f : EV}
theorem do_no : DO X G W none oNo := ⟨_, po_none, fun ρ R B H σ δ a Q w sl q => q.here w⟩
theorem do_some (h : DV X G W e f) : DO X G W (some e) (oSome f) := by
  obtain ⟨t, p, s⟩ := h.ex
  refine ⟨_, po_some p, fun ρ R B H σ δ a Q w sl q => s ρ R B H σ δ a _ w sl (Fin.imp (Fin.seqo q) fun d a1 B1 H1 w1 s1 k1 q1 x r => ?_)⟩
  obtain ⟨o, e, q2⟩ := q1
  cases d with
  | int i =>
    cases e
    exact ⟨i, r, q2⟩
  | _ => cases e
def slN (fe : EV) (fl fh : EO) : EM := fun δ a => (fe δ a).bind fun d a1 => (fl δ a1).bind fun lo a2 => (fh δ a2).bind fun hi a3 => match dSl d lo hi with | some nw => .ok nw.m a3 | none => .stuck
theorem sl_ok {B H : Hp} {ρ R : List Addr} {a : Sto} {d : D} {lo hi : Option Int} {nw : New} {x : V} {Q : VK} (w : Wd G B H ρ a R) (r : Rep G B ρ d x) (e : dSl d lo hi = some nw) (q : NewK G B H ρ nw Q) : rSlA3 G.K x lo hi H Q := by
  cases d with
  | lst l =>
    cases e
    obtain ⟨p, xs, rfl, h1, h2⟩ := r
    exact .inl ⟨p, xs, rfl, SqL.of (w.ex _ _ h1), fun o ho => q o _ ho (h2.cut lo hi)⟩
  | tup l =>
    dsimp only [dSl] at e
    obtain ⟨p, xs, rfl, h1, h2⟩ := r
    have hl := h2.len
    refine .inr (.inl ⟨p, xs, rfl, sqt_same w.ex h1, fun c => ?_, fun c o ho => ?_⟩)
    · rw [← hl] at c
      rw [if_pos c] at e
      cases e
      exact q _ ⟨p, xs, rfl, h1, h2⟩
    · rw [← hl] at c
      rw [if_neg c] at e
      cases e
      exact q o _ ho (h2.cut lo hi)
  | str z =>
    dsimp only [dSl] at e
    by_cases c : z.length ≤ 100000
    · rw [if_pos c] at e
      cases e
      exact .inr (.inr ⟨z, r, lim c, q _ rfl⟩)
    · rw [if_neg c] at e
      cases e
  | _ => cases e
theorem dm_slice {lo hi : Option Expr} {fl fh : EO} {p2 pos : Pos} (hK : G.K = X.K) (he : DV X G W e f) (hl : DO X G W lo fl) (hh : DO X G W hi fh) : DM X G W (.Subscript e (.Slice lo hi none p2) pos) (slN f fl fh) := by
  obtain ⟨t, p, s⟩ := he.ex
  obtain ⟨t1, p1, s1⟩ := hl.ex
  obtain ⟨t2, p3, s2⟩ := hh.ex
  refine ⟨_, pe_slice sl_all p p1 p3, fun ρ R B H σ δ a Q w sl q => s ρ R B H σ δ a _ w sl (Fin.imp (Fin.seqM q) fun d a1 B1 H1 w1 sm1 k1 q1 x r => ?_)⟩
  refine s1 ρ R B1 H1 σ δ a1 _ w1 (sl.mono sm1) (Fin.imp (Fin.seqM q1) fun lo a2 B2 H2 w2 sm2 k2 q2 => ?_)
  refine s2 ρ R B2 H2 σ δ a2 _ w2 ((sl.mono sm1).mono sm2) (Fin.imp (Fin.seqM q2) fun hi a3 B3 H3 w3 sm3 k3 q3 => ?_)
  rw [← hK]
  cases e : dSl d lo hi with
  | none =>
    rw [e] at q3
    exact q3.elim
  | some nw =>
    rw [e] at q3
    exact sl_ok w3 (Rep.mono (sm2.trans sm3) d x r) e (FinM.new w3 q3)
end
def lNil : EL := fun _ a => .ok [] a
def lCons (f : EM) (g : EL) : EL := fun δ a => (f δ a).bind fun m a1 => (g δ a1).map fun ms => m :: ms
section
variable {X : Cx} {G : Gx} {W : WX} {e : Expr} {es : List Expr} {pos : Pos}
theorem dl_nil : DL X G W [] lNil := ⟨tNil, pa_nil, fun ρ R B H σ δ a Q w sl q => q B H [] [] w (Same.refl _) Kp.refl ⟨rfl, rfl⟩⟩
theorem dl_cons {f : EM} {g : EL} (h : DM X G W e f) (k : DL X G W es g) (hs : starEach (e :: es) X.env = (false, eval e X.env) :: starEach es X.env := by rfl) : DL X G W (e :: es) (lCons f g) := by
  obtain ⟨t, p, s⟩ := h.ex
  obtain ⟨u, p2, s2⟩ := k.ex
  refine ⟨_, pa_cons p p2 hs, fun ρ R B H σ δ a Q w sl q => s ρ R B H σ δ a _ w sl ?_⟩
  unfold lCons at q
  cases c : f δ a with
  | stuck =>
    rw [c] at q
    exact q
  | exc cc ns ds a' =>
    rw [c] at q
    exact q
  | ok m a1 =>
    rw [c] at q
    intro B1 H1 v F w1 s1 k1 o1
    refine s2 ρ (F ++ R) B1 H1 σ δ a1 _ w1 (sl.mono s1) ?_
    dsimp only [Out.bind] at q
    cases c2 : g δ a1 with
    | stuck =>
      rw [c2] at q
      exact q
    | exc cc ns ds a' =>
      rw [c2] at q
      exact fun B' H' dd w' s' k' x => q B' H' dd w'.drop (s1.trans s') (k1.trans k'.right) x
    | ok ms a2 =>
      rw [c2] at q
      intro B2 H2 vs F2 w2 s2' k2 o2
      refine q B2 H2 (v :: vs) (F ++ F2) (w2.perm ?_) (s1.trans s2') (k1.trans k2.right) ⟨v, vs, F, F2, rfl, rfl, Own.mono s2' m v F k2.left o1, o2⟩
      rw [← List.append_assoc]
      exact List.Perm.append_right R List.perm_append_comm
def mLst (f : EL) : EM := fun δ a => (f δ a).bind fun ms a1 => if ms.length ≤ 100000 then .ok (.lst ms) a1 else .stuck
theorem dm_lst {f : EL} (h : DL X G W es f) : DM X G W (.List es pos) (mLst f) := by
  obtain ⟨t, p, s⟩ := h.ex
  refine ⟨_, pe_lst p, fun ρ R B H σ δ a Q w sl q => s ρ R B H σ δ a _ w sl ?_⟩
  unfold mLst at q
  cases c : f δ a with
  | stuck =>
    rw [c] at q
    exact q
  | exc cc ns ds a' =>
    rw [c] at q
    exact q
  | ok ms a1 =>
    rw [c] at q
    intro B1 H1 vs F w1 s1 k1 o1
    dsimp only [Out.bind] at q
    by_cases hz : ms.length ≤ 100000
    · rw [if_pos hz] at q
      refine ⟨lim (by rw [← o1.len]; exact hz), fun l hl => ?_⟩
      exact q B1 (upd H1 l (.lst vs)) (.ref l) (l :: F) (w1.newOwn hl) s1 (k1.trans (fun q' hq => kp_new w1 hl q' (List.mem_append_right _ hq))) ⟨l, vs, F, rfl, upd_same, rfl, Owns.mono (Same.refl _) ms vs F (fun q' hq => kp_new w1 hl q' (List.mem_append_left _ hq)) o1⟩
    · rw [if_neg hz] at q
      exact q.elim
def allV : List M → Option (List D)
  | [] => some []
  | .val d :: r => (allV r).map fun ds => d :: ds
  | _ :: _ => none
theorem allV_eq : ∀ {ms : List M} {ds : List D}, allV ms = some ds → ms = ds.map M.val
  | [], ds, h => by
    cases h
    rfl
  | m :: r, ds, h => by
    cases m with
    | val d =>
      have h' : (allV r).map (fun es => d :: es) = some ds := h
      cases c : allV r with
      | none =>
        rw [c] at h'
        cases h'
      | some es =>
        rw [c] at h'
        cases h'
        rw [allV_eq c] <;> rfl
    | _ => cases h
def mkTup (ms : List M) : M := match allV ms with
  | some ds => .val (.tup ds)
  | none => .tup ms
def mTup (f : EL) : EM := fun δ a => (f δ a).bind fun ms a1 => if ms.length ≤ 100000 then .ok (mkTup ms) a1 else .stuck
theorem owns_vals {B H : Hp} {ρ : List Addr} : ∀ {ds : List D} {xs : List V} {F : List Addr}, Owns G B H ρ (ds.map M.val) xs F → F = [] ∧ Reps G B ρ ds xs
  | [], xs, F, h => ⟨h.2, h.1⟩
  | d :: ds, xs, F, h => by
    obtain ⟨x, r, F1, F2, rfl, rfl, ⟨rfl, h3⟩, h4⟩ := h
    obtain ⟨rfl, h5⟩ := owns_vals h4
    exact ⟨rfl, x, r, rfl, h3, h5⟩
theorem dm_tup {f : EL} {x1} (h : DL X G W es f) : DM X G W (.Tuple es x1 pos) (mTup f) := by
  obtain ⟨t, p, s⟩ := h.ex
  refine ⟨_, pe_tup p, fun ρ R B H σ δ a Q w sl q => s ρ R B H σ δ a _ w sl ?_⟩
  unfold mTup at q
  cases c : f δ a with
  | stuck =>
    rw [c] at q
    exact q
  | exc cc ns ds a' =>
    rw [c] at q
    exact q
  | ok ms a1 =>
    rw [c] at q
    intro B1 H1 vs F w1 s1 k1 o1
    dsimp only [Out.bind] at q
    by_cases hz : ms.length ≤ 100000
    · rw [if_pos hz] at q
      refine ⟨lim (by rw [← o1.len]; exact hz), fun l hl => ?_⟩
      unfold mkTup at q
      cases c2 : allV ms with
      | none =>
        rw [c2] at q
        exact q B1 (upd H1 l (.tup vs)) (.ref l) (l :: F) (w1.newOwn hl) s1 (k1.trans (fun q' hq => kp_new w1 hl q' (List.mem_append_right _ hq))) ⟨l, vs, F, rfl, upd_same, rfl, Owns.mono (Same.refl _) ms vs F (fun q' hq => kp_new w1 hl q' (List.mem_append_left _ hq)) o1⟩
      | some ds =>
        rw [c2] at q
        have e2 := allV_eq c2
        subst e2
        obtain ⟨rfl, o2⟩ := owns_vals o1
        exact q (upd B1 l (.tup vs)) (upd H1 l (.tup vs)) (.ref l) [] (w1.new hl) (s1.trans (same_new (w1.noneB hl))) (k1.trans (kp_new w1 hl)) ⟨rfl, l, vs, rfl, SqT.of upd_same, Reps.mono (same_new (w1.noneB hl)) ds vs o2⟩
    · rw [if_neg hz] at q
      exact q.elim
end
def dFld (cs xs : List Nat) (f : Str) : D → Option D
  | .obj c ns ds => if c ∈ cs then (ns.zip ds).lookup f else none
  | .exc c ns ds => if c ∈ xs then (ns.zip ds).lookup f else none
  | _ => none
section
variable {X : Cx} {G : Gx} {W : WX} {e : Expr} {pos : Pos} {fe : EV} {f : Str} {cs xs : List Nat}
end
end DL
namespace DL
open PySem L2
abbrev SlM := List (Option M)
def OwnS (G : Gx) (B H : Hp) (ρ : List Addr) : SlM → St → List Addr → Prop
  | [], σ, F => σ = [] ∧ F = []
  | none :: δ, σ, F => ∃ o r, σ = o :: r ∧ OwnS G B H ρ δ r F
  | some m :: δ, σ, F => ∃ v r F1 F2, σ = some v :: r ∧ F = F1 ++ F2 ∧ Own G B H ρ m v F1 ∧ OwnS G B H ρ δ r F2
section
variable {G : Gx} {B B' H H' : Hp} {ρ : List Addr}
theorem OwnS.mono (e : Same B B') : ∀ (δ : SlM) (σ : St) (F : List Addr), (∀ p ∈ F, H' p = H p) → OwnS G B H ρ δ σ F → OwnS G B' H' ρ δ σ F
  | [], σ, F, k, h => h
  | none :: δ, σ, F, k, h => by
    obtain ⟨o, r, h1, h2⟩ := h
    exact ⟨o, r, h1, OwnS.mono e δ r F k h2⟩
  | some m :: δ, σ, F, k, h => by
    obtain ⟨v, r, F1, F2, h1, rfl, h2, h3⟩ := h
    exact ⟨v, r, F1, F2, h1, rfl, Own.mono e m v F1 (fun p hp => k p (List.mem_append_left _ hp)) h2, OwnS.mono e δ r F2 (fun p hp => k p (List.mem_append_right _ hp)) h3⟩
theorem OwnS.len : ∀ {δ : SlM} {σ : St} {F : List Addr}, OwnS G B H ρ δ σ F → δ.length = σ.length
  | [], σ, F, h => by
    obtain ⟨rfl, _⟩ := h
    rfl
  | none :: δ, σ, F, h => by
    obtain ⟨o, r, rfl, h2⟩ := h
    rw [List.length_cons, List.length_cons, OwnS.len h2]
  | some m :: δ, σ, F, h => by
    obtain ⟨v, r, F1, F2, rfl, rfl, h2, h3⟩ := h
    rw [List.length_cons, List.length_cons, OwnS.len h3]
theorem OwnS.there : ∀ {δ : SlM} {σ : St} {F : List Addr}, OwnS G B H ρ δ σ F → ∀ p ∈ F, (H p).isSome = true
  | [], σ, F, h, p, hp => by
    rw [h.2] at hp
    cases hp
  | none :: δ, σ, F, h, p, hp => by
    obtain ⟨o, r, rfl, h2⟩ := h
    exact OwnS.there h2 p hp
  | some m :: δ, σ, F, h, p, hp => by
    obtain ⟨v, r, F1, F2, rfl, rfl, h2, h3⟩ := h
    rcases List.mem_append.mp hp with hp | hp
    · exact Own.there m v F1 h2 p hp
    · exact OwnS.there h3 p hp
theorem OwnS.set {m : M} {v : V} {Fm : List Addr} (hm : Own G B H ρ m v Fm) : ∀ {δ : SlM} {σ : St} {F : List Addr} {i : Nat}, OwnS G B H ρ δ σ F → i < δ.length →
    ∃ Fi Fr F', F.Perm (Fi ++ Fr) ∧ F'.Perm (Fm ++ Fr) ∧ OwnS G B H ρ (δ.set i (some m)) (σ.set i (some v)) F'
  | [], σ, F, i, h, hi => absurd hi (Nat.not_lt_zero _)
  | none :: δ, σ, F, 0, h, hi => by
    obtain ⟨o, r, rfl, h2⟩ := h
    exact ⟨[], F, Fm ++ F, List.Perm.refl _, List.Perm.refl _, v, r, Fm, F, rfl, rfl, hm, h2⟩
  | some m0 :: δ, σ, F, 0, h, hi => by
    obtain ⟨v0, r, F1, F2, rfl, rfl, h2, h3⟩ := h
    exact ⟨F1, F2, Fm ++ F2, List.Perm.refl _, List.Perm.refl _, v, r, Fm, F2, rfl, rfl, hm, h3⟩
  | none :: δ, σ, F, i + 1, h, hi => by
    obtain ⟨o, r, rfl, h2⟩ := h
    obtain ⟨Fi, Fr, F', p1, p2, h4⟩ := OwnS.set hm h2 (Nat.lt_of_succ_lt_succ hi)
    exact ⟨Fi, Fr, F', p1, p2, o, _, rfl, h4⟩
  | some m0 :: δ, σ, F, i + 1, h, hi => by
    obtain ⟨v0, r, F1, F2, rfl, rfl, h2, h3⟩ := h
    obtain ⟨Fi, Fr, F', p1, p2, h4⟩ := OwnS.set hm h3 (Nat.lt_of_succ_lt_succ hi)
    refine ⟨Fi, F1 ++ Fr, F1 ++ F', ?_, ?_, v0, _, F1, F', rfl, rfl, h2, h4⟩
    · refine (List.Perm.append_left F1 p1).trans ?_
      rw [← List.append_assoc, ← List.append_assoc]
      exact List.Perm.append_right Fr List.perm_append_comm
    · refine (List.Perm.append_left F1 p2).trans ?_
      rw [← List.append_assoc, ← List.append_assoc]
      exact List.Perm.append_right Fr List.perm_append_comm
theorem OwnS.take {m : M} : ∀ {δ : SlM} {σ : St} {F : List Addr} {i : Nat}, OwnS G B H ρ δ σ F → δ[i]? = some (some m) →
    ∃ v Fi Fr, F.Perm (Fi ++ Fr) ∧ σ[i]? = some (some v) ∧ Own G B H ρ m v Fi ∧ OwnS G B H ρ (δ.set i none) σ Fr
  | [], σ, F, i, h, e => by simp at e
  | none :: δ, σ, F, 0, h, e => by simp at e
  | some m0 :: δ, σ, F, 0, h, e => by
    obtain ⟨v0, r, F1, F2, rfl, rfl, h2, h3⟩ := h
    have e' : m0 = m := by simpa using e
    subst e'
    exact ⟨v0, F1, F2, List.Perm.refl _, rfl, h2, some v0, r, rfl, h3⟩
  | none :: δ, σ, F, i + 1, h, e => by
    obtain ⟨o, r, rfl, h2⟩ := h
    obtain ⟨v, Fi, Fr, p1, e1, h3, h4⟩ := OwnS.take (i := i) h2 (by simpa using e)
    exact ⟨v, Fi, Fr, p1, by simpa using e1, h3, o, r, rfl, h4⟩
  | some m0 :: δ, σ, F, i + 1, h, e => by
    obtain ⟨v0, r, F1, F2, rfl, rfl, h2, h3⟩ := h
    obtain ⟨v, Fi, Fr, p1, e1, h4, h5⟩ := OwnS.take (i := i) h3 (by simpa using e)
    refine ⟨v, Fi, F1 ++ Fr, ?_, by simpa using e1, h4, v0, r, F1, Fr, rfl, rfl, h2, h5⟩
    refine (List.Perm.append_left F1 p1).trans ?_
    rw [← List.append_assoc, ← List.append_assoc]
    exact List.Perm.append_right Fr List.perm_append_comm
theorem OwnS.forget : ∀ {δ : SlM} {σ : St} {F : List Addr} {i : Nat}, OwnS G B H ρ δ σ F → ∃ Fi Fr, F.Perm (Fi ++ Fr) ∧ OwnS G B H ρ (δ.set i none) (σ.set i none) Fr
  | [], σ, F, i, h => by
    obtain ⟨rfl, rfl⟩ := h
    exact ⟨[], [], List.Perm.refl _, rfl, rfl⟩
  | none :: δ, σ, F, 0, h => by
    obtain ⟨o, r, rfl, h2⟩ := h
    exact ⟨[], F, List.Perm.refl _, none, r, rfl, h2⟩
  | some m0 :: δ, σ, F, 0, h => by
    obtain ⟨v0, r, F1, F2, rfl, rfl, h2, h3⟩ := h
    exact ⟨F1, F2, List.Perm.refl _, none, r, rfl, h3⟩
  | none :: δ, σ, F, i + 1, h => by
    obtain ⟨o, r, rfl, h2⟩ := h
    obtain ⟨Fi, Fr, p1, h4⟩ := OwnS.forget (i := i) h2
    exact ⟨Fi, Fr, p1, o, _, rfl, h4⟩
  | some m0 :: δ, σ, F, i + 1, h => by
    obtain ⟨v0, r, F1, F2, rfl, rfl, h2, h3⟩ := h
    obtain ⟨Fi, Fr, p1, h5⟩ := OwnS.forget (i := i) h3
    refine ⟨Fi, F1 ++ Fr, ?_, v0, _, F1, Fr, rfl, rfl, h2, h5⟩
    refine (List.Perm.append_left F1 p1).trans ?_
    rw [← List.append_assoc, ← List.append_assoc]
    exact List.Perm.append_right Fr List.perm_append_comm
end
structure Kd where
  l : Bool
  t : Bool
  o : Bool
def Kd.no : Kd := ⟨false, false, false⟩
def Kd.or (a b : Kd) : Kd := ⟨a.l || b.l, a.t || b.t, a.o || b.o⟩
mutual
def kdM : M → Kd
  | .val _ => .no
  | .lst ms => Kd.or ⟨true, false, false⟩ (kdMs ms)
  | .tup ms => Kd.or ⟨false, true, false⟩ (kdMs ms)
  | .obj _ _ ms => Kd.or ⟨false, false, true⟩ (kdMs ms)
  | .pin _ m => kdM m
def kdMs : List M → Kd
  | [] => .no
  | m :: ms => Kd.or (kdM m) (kdMs ms)
end
mutual
/-- nothing that k has -/
def cl (k : Kd) : D → Bool
  | .tup l => !k.t && cls k l
  | .lst l => !k.l && cls k l
  | .obj _ _ l => !k.o && cls k l
  | .exc _ _ l => cls k l
  | .scr _ => !k.l
  | _ => true
def cls (k : Kd) : List D → Bool
  | [] => true
  | d :: ds => cl k d && cls k ds
end
mutual
def clM (k : Kd) : M → Bool
  | .val d => cl k d
  | .lst ms => clMs k ms
  | .tup ms => clMs k ms
  | .obj _ _ ms => clMs k ms
  | .pin _ m => clM k m
def clMs (k : Kd) : List M → Bool
  | [] => true
  | m :: ms => clM k m && clMs k ms
end
mutual
theorem cl_no : ∀ d : D, cl .no d = true
  | .non => rfl
  | .bl _ => rfl
  | .int _ => rfl
  | .str _ => rfl
  | .tup l => by
    show (true && cls .no l) = true
    rw [cls_no l] <;> rfl
  | .lst l => by
    show (true && cls .no l) = true
    rw [cls_no l] <;> rfl
  | .obj _ _ l => by
    show (true && cls .no l) = true
    rw [cls_no l] <;> rfl
  | .exc _ _ l => cls_no l
  | .loc _ => rfl
  | .scr _ => rfl
theorem cls_no : ∀ l : List D, cls .no l = true
  | [] => rfl
  | d :: ds => by
    show (cl .no d && cls .no ds) = true
    rw [cl_no d, cls_no ds] <;> rfl
end
mutual
theorem clM_no : ∀ m : M, clM .no m = true
  | .val d => cl_no d
  | .lst l => clMs_no l
  | .tup l => clMs_no l
  | .obj _ _ l => clMs_no l
  | .pin _ m => clM_no m
theorem clMs_no : ∀ l : List M, clMs .no l = true
  | [] => rfl
  | d :: ds => by
    show (clM .no d && clMs .no ds) = true
    rw [clM_no d, clMs_no ds] <;> rfl
end
def clA (k : Kd) : Sto → Bool
  | [] => true
  | .nums _ :: r => clA k r
  | .obj _ _ ds :: r => cls k ds && clA k r
  | .vals ds :: r => cls k ds && clA k r
theorem clA_no : ∀ a : Sto, clA .no a = true
  | [] => rfl
  | .nums _ :: r => clA_no r
  | .obj _ _ ds :: r => by
    show (cls .no ds && clA .no r) = true
    rw [cls_no ds, clA_no r] <;> rfl
  | .vals ds :: r => by
    show (cls .no ds && clA .no r) = true
    rw [cls_no ds, clA_no r] <;> rfl
theorem clA_at {k : Kd} {c : Nat} {ns : List Str} {ds : List D} : ∀ {a : Sto} {n : Nat}, clA k a = true → a[n]? = some (.obj c ns ds) → cls k ds = true
  | [], n, h, e => by simp at e
  | .nums l :: r, 0, h, e => by simp at e
  | .obj c' ns' ds' :: r, 0, h, e => by
    have h' : (cls k ds' && clA k r) = true := h
    simp at e
    obtain ⟨_, _, rfl⟩ := e
    exact (Bool.and_eq_true_iff.mp h').1
  | .nums l :: r, n + 1, h, e => clA_at (a := r) (n := n) h (by simpa using e)
  | .obj c' ns' ds' :: r, n + 1, h, e => by
    have h' : (cls k ds' && clA k r) = true := h
    exact clA_at (a := r) (n := n) (Bool.and_eq_true_iff.mp h').2 (by simpa using e)
  | .vals l :: r, 0, h, e => by simp at e
  | .vals ds' :: r, n + 1, h, e => by
    have h' : (cls k ds' && clA k r) = true := h
    exact clA_at (a := r) (n := n) (Bool.and_eq_true_iff.mp h').2 (by simpa using e)
theorem clA_atV {k : Kd} {ds : List D} : ∀ {a : Sto} {n : Nat}, clA k a = true → a[n]? = some (.vals ds) → cls k ds = true
  | [], n, h, e => by simp at e
  | .vals ds' :: r, 0, h, e => by
    have h' : (cls k ds' && clA k r) = true := h
    simp at e
    subst e
    exact (Bool.and_eq_true_iff.mp h').1
  | .nums l :: r, 0, h, e => by simp at e
  | .obj _ _ _ :: r, 0, h, e => by simp at e
  | .nums l :: r, n + 1, h, e => clA_atV (a := r) (n := n) h (by simpa using e)
  | .obj c' ns' ds' :: r, n + 1, h, e => by
    have h' : (cls k ds' && clA k r) = true := h
    exact clA_atV (a := r) (n := n) (Bool.and_eq_true_iff.mp h').2 (by simpa using e)
  | .vals ds' :: r, n + 1, h, e => by
    have h' : (cls k ds' && clA k r) = true := h
    exact clA_atV (a := r) (n := n) (Bool.and_eq_true_iff.mp h').2 (by simpa using e)
def KdAt (H : Hp) (k : Kd) (F : List Addr) : Prop := ∀ p ∈ F, (∃ xs, H p = some (.lst xs) ∧ k.l = true) ∨ (∃ xs, H p = some (.tup xs) ∧ k.t = true) ∨ (∃ C dx fs, H p = some (.ins C dx fs) ∧ k.o = true) ∨ (∃ q, H p = some (.own q) ∧ k.o = true)
theorem KdAt.up {H : Hp} {k k' : Kd} {F : List Addr} (h : KdAt H k F) (l : k.l = true → k'.l = true) (t : k.t = true → k'.t = true) (o : k.o = true → k'.o = true) : KdAt H k' F := fun p hp => by
  rcases h p hp with ⟨xs, e, q⟩ | ⟨xs, e, q⟩ | ⟨C, dx, fs, e, q⟩ | ⟨z, e, q⟩
  · exact .inl ⟨xs, e, l q⟩
  · exact .inr (.inl ⟨xs, e, t q⟩)
  · exact .inr (.inr (.inl ⟨C, dx, fs, e, o q⟩))
  · exact .inr (.inr (.inr ⟨z, e, o q⟩))
theorem KdAt.orl {H : Hp} {k k' : Kd} {F : List Addr} (h : KdAt H k F) : KdAt H (k.or k') F := h.up (fun e => by simp [Kd.or, e]) (fun e => by simp [Kd.or, e]) fun e => by simp [Kd.or, e]
theorem KdAt.orr {H : Hp} {k k' : Kd} {F : List Addr} (h : KdAt H k F) : KdAt H (k'.or k) F := h.up (fun e => by simp [Kd.or, e]) (fun e => by simp [Kd.or, e]) fun e => by simp [Kd.or, e]
theorem KdAt.app {H : Hp} {k : Kd} {F F' : List Addr} (h : KdAt H k F) (h' : KdAt H k F') : KdAt H k (F ++ F') := fun p hp => (List.mem_append.mp hp).elim (h p) (h' p)
section
variable {G : Gx} {B H : Hp} {ρ : List Addr}
mutual
theorem Own.kd : ∀ (m : M) (v : V) (F : List Addr), Own G B H ρ m v F → KdAt H (kdM m) F
  | .val d, v, F, h, p, hp => by
    rw [h.1] at hp
    cases hp
  | .lst ms, v, F, h, p, hp => by
    obtain ⟨q, xs, F', h1, h2, rfl, h4⟩ := h
    rcases List.mem_cons.mp hp with rfl | hp
    · exact .inl ⟨xs, h2, rfl⟩
    · exact (Owns.kd ms xs F' h4).orr p hp
  | .tup ms, v, F, h, p, hp => by
    obtain ⟨q, xs, F', h1, h2, rfl, h4⟩ := h
    rcases List.mem_cons.mp hp with rfl | hp
    · exact .inr (.inl ⟨xs, h2, rfl⟩)
    · exact (Owns.kd ms xs F' h4).orr p hp
  | .obj c ns ms, v, F, h, p, hp => by
    obtain ⟨q, dx, xs, F', h1, h2, h3, hl, rfl, h4⟩ := h
    rcases List.mem_cons.mp hp with rfl | hp
    · exact .inr (.inr (.inl ⟨_, _, _, h2, rfl⟩))
    · rcases List.mem_cons.mp hp with rfl | hp
      · exact .inr (.inr (.inr ⟨_, h3, rfl⟩))
      · exact (Owns.kd ms xs F' h4).orr p hp
  | .pin _ m, v, F, h, p, hp => Own.kd m v F h.2 p hp
theorem Owns.kd : ∀ (ms : List M) (xs : List V) (F : List Addr), Owns G B H ρ ms xs F → KdAt H (kdMs ms) F
  | [], xs, F, h, p, hp => by
    rw [h.2] at hp
    cases hp
  | m :: ms, xs, F, h, p, hp => by
    obtain ⟨x, r, F1, F2, h1, rfl, h3, h4⟩ := h
    rcases List.mem_append.mp hp with hp | hp
    · exact (Own.kd m x F1 h3).orl p hp
    · exact (Owns.kd ms r F2 h4).orr p hp
end
end
def wo (B : Hp) (F : List Addr) : Hp := fun p => if p ∈ F then none else B p
theorem wo_in {B : Hp} {F : List Addr} {p : Addr} (h : p ∈ F) : wo B F p = none := by
  unfold wo
  rw [if_pos h]
theorem wo_out {B : Hp} {F : List Addr} {p : Addr} (h : p ∉ F) : wo B F p = B p := by
  unfold wo
  rw [if_neg h]
section
variable {G : Gx} {B H : Hp} {ρ F : List Addr} {k : Kd}
theorem not_at {o : HO} {p : Addr} (h : KdAt B k F) (e : B p = some o) (hl : ∀ xs, o = .lst xs → k.l = false) (ht : ∀ xs, o = .tup xs → k.t = false) (ho : ∀ C dx fs, o = .ins C dx fs → k.o = false) (hw : ∀ q, o ≠ .own q) : p ∉ F := fun hp => by
  rcases h p hp with ⟨xs, e', q⟩ | ⟨xs, e', q⟩ | ⟨C, dx, fs, e', q⟩ | ⟨z, e', q⟩
  · rw [e] at e'
    rw [hl xs (Option.some.inj e')] at q
    cases q
  · rw [e] at e'
    rw [ht xs (Option.some.inj e')] at q
    cases q
  · rw [e] at e'
    rw [ho C dx fs (Option.some.inj e')] at q
    cases q
  · rw [e] at e'
    exact hw z (Option.some.inj e')
theorem wo_at {o : HO} {p : Addr} (h : KdAt B k F) (e : B p = some o) (hl : ∀ xs, o = .lst xs → k.l = false) (ht : ∀ xs, o = .tup xs → k.t = false) (ho : ∀ C dx fs, o = .ins C dx fs → k.o = false) (hw : ∀ q, o ≠ .own q) : wo B F p = some o := by
  rw [wo_out (not_at h e hl ht ho hw)]
  exact e
mutual
/-- data that has nothing of those kinds does not lean on F -/
theorem Rep.wo (h : KdAt B k F) : ∀ (d : D) (v : V), cl k d = true → Rep G B ρ d v → Rep G (wo B F) ρ d v
  | .non, v, c, r => r
  | .bl _, v, c, r => r
  | .int _, v, c, r => r
  | .str _, v, c, r => r
  | .loc _, v, c, r => r
  | .tup l, v, c, r => by
    obtain ⟨p, xs, h1, h2, h3⟩ := r
    have c' : (!k.t && cls k l) = true := c
    rw [Bool.and_eq_true, Bool.not_eq_true'] at c'
    refine ⟨p, xs, h1, ?_, Reps.wo h l xs c'.2 h3⟩
    rcases h2 with (h2 | ⟨o, h2⟩) | h2
    · exact .inl (.inl (wo_at h h2 (fun _ z => nomatch z) (fun _ _ => c'.1) (fun _ _ _ z => nomatch z) fun _ z => nomatch z))
    · exact .inl (.inr ⟨o, wo_at h h2 (fun _ z => nomatch z) (fun _ z => nomatch z) (fun _ _ _ z => nomatch z) fun _ z => nomatch z⟩)
    · exact .inr h2
  | .lst l, v, c, r => by
    obtain ⟨p, xs, h1, h2, h3⟩ := r
    have c' : (!k.l && cls k l) = true := c
    rw [Bool.and_eq_true, Bool.not_eq_true'] at c'
    exact ⟨p, xs, h1, wo_at h h2 (fun _ _ => c'.1) (fun _ z => nomatch z) (fun _ _ _ z => nomatch z) (fun _ z => nomatch z), Reps.wo h l xs c'.2 h3⟩
  | .obj cc ns l, v, c, r => by
    obtain ⟨p, dx, xs, h1, h2, h4, h3⟩ := r
    have c' : (!k.o && cls k l) = true := c
    rw [Bool.and_eq_true, Bool.not_eq_true'] at c'
    exact ⟨p, dx, xs, h1, wo_at h h2 (fun _ z => nomatch z) (fun _ z => nomatch z) (fun _ _ _ _ => c'.1) (fun _ z => nomatch z), h4, Reps.wo h l xs c'.2 h3⟩
  | .exc cc ns l, v, c, r => by
    obtain ⟨p, dd, h1, h2, h3⟩ := r
    refine ⟨p, dd, h1, wo_at h h2 (fun _ z => nomatch z) (fun _ z => nomatch z) (fun _ _ _ z => nomatch z) (fun _ z => nomatch z), ?_⟩
    rcases h3 with h3 | ⟨d, xs, h4, h5, h6, h7⟩
    · exact .inl h3
    · exact .inr ⟨d, xs, h4, wo_at h h5 (fun _ z => nomatch z) (fun _ z => nomatch z) (fun _ _ _ z => nomatch z) (fun _ z => nomatch z), h6, Reps.wo h l xs c h7⟩
  | .scr l, v, c, r => by
    obtain ⟨p, h1, h2⟩ := r
    have c' : k.l = false := by
      have z : (!k.l) = true := c
      rw [Bool.not_eq_true'] at z
      exact z
    refine ⟨p, h1, ?_⟩
    rcases h2 with (h2 | ⟨o, h2⟩) | h2
    · exact .inl (.inl (wo_at h h2 (fun _ _ => c') (fun _ z => nomatch z) (fun _ _ _ z => nomatch z) fun _ z => nomatch z))
    · exact .inl (.inr ⟨o, wo_at h h2 (fun _ z => nomatch z) (fun _ z => nomatch z) (fun _ _ _ z => nomatch z) fun _ z => nomatch z⟩)
    · exact .inr h2
theorem Reps.wo (h : KdAt B k F) : ∀ (ds : List D) (xs : List V), cls k ds = true → Reps G B ρ ds xs → Reps G (wo B F) ρ ds xs
  | [], xs, c, r => r
  | d :: ds, xs, c, r => by
    obtain ⟨x, t, h1, h2, h3⟩ := r
    have c' : (cl k d && cls k ds) = true := c
    rw [Bool.and_eq_true] at c'
    exact ⟨x, t, h1, Rep.wo h d x c'.1 h2, Reps.wo h ds t c'.2 h3⟩
end
mutual
theorem Own.wo (h : KdAt B k F) : ∀ (m : M) (v : V) (F' : List Addr), clM k m = true → Own G B H ρ m v F' → Own G (wo B F) H ρ m v F'
  | .val d, v, F', c, r => ⟨r.1, Rep.wo h d v c r.2⟩
  | .lst l, v, F', c, r => by
    obtain ⟨p, xs, F1, h1, h2, h3, h4⟩ := r
    exact ⟨p, xs, F1, h1, h2, h3, Owns.wo h l xs F1 c h4⟩
  | .tup l, v, F', c, r => by
    obtain ⟨p, xs, F1, h1, h2, h3, h4⟩ := r
    exact ⟨p, xs, F1, h1, h2, h3, Owns.wo h l xs F1 c h4⟩
  | .obj cc ns l, v, F', c, r => by
    obtain ⟨p, dx, xs, F1, h1, h2, h3, h5, h6, h4⟩ := r
    exact ⟨p, dx, xs, F1, h1, h2, h3, h5, h6, Owns.wo h l xs F1 c h4⟩
  | .pin _ m, v, F', c, r => ⟨r.1, Own.wo h m v F' c r.2⟩
theorem Owns.wo (h : KdAt B k F) : ∀ (ms : List M) (xs : List V) (F' : List Addr), clMs k ms = true → Owns G B H ρ ms xs F' → Owns G (wo B F) H ρ ms xs F'
  | [], xs, F', c, r => r
  | m :: ms, xs, F', c, r => by
    obtain ⟨x, t, F1, F2, h1, h2, h3, h4⟩ := r
    have c' : (clM k m && clMs k ms) = true := c
    rw [Bool.and_eq_true] at c'
    exact ⟨x, t, F1, F2, h1, h2, Own.wo h m x F1 c'.1 h3, Owns.wo h ms t F2 c'.2 h4⟩
end
end
def see (I : List Nat) : Nat → SlM → Sw
  | _, [] => []
  | n, none :: r => none :: see I (n + 1) r
  | n, some (.val d) :: r => some d :: see I (n + 1) r
  | n, some (.pin _ (.val d)) :: r => some d :: see I (n + 1) r
  | n, some m :: r => (if n ∈ I then some (freeze m) else none) :: see I (n + 1) r
def kin (I : List Nat) : Nat → SlM → Kd
  | _, [] => .no
  | n, none :: r => kin I (n + 1) r
  | n, some (.val d) :: r => kin I (n + 1) r
  | n, some (.pin _ (.val _)) :: r => kin I (n + 1) r
  | n, some m :: r => if n ∈ I then Kd.or (kdM m) (kin I (n + 1) r) else kin I (n + 1) r
def frz (I : List Nat) : Nat → SlM → SlM
  | _, [] => []
  | n, none :: r => none :: frz I (n + 1) r
  | n, some (.val d) :: r => some (.val d) :: frz I (n + 1) r
  | n, some (.pin k (.val d)) :: r => some (.pin k (.val d)) :: frz I (n + 1) r
  | n, some m :: r => (if n ∈ I then some (.val (freeze m)) else some m) :: frz I (n + 1) r
structure Seen (G : Gx) (B H : Hp) (ρ : List Addr) (I : List Nat) (n : Nat) (δ : SlM) (σ : St) (F Fv Fh : List Addr) : Prop where
  perm : F.Perm (Fv ++ Fh)
  kd : KdAt H (kin I n δ) Fv
  sl : ∀ B1, Same B B1 → (∀ p ∈ Fv, B1 p = H p) → Sls G B1 ρ (see I n δ) σ
  fz : ∀ B1 H1, Same B B1 → (∀ p ∈ Fv, B1 p = H p) → (∀ p ∈ Fh, H1 p = H p) → OwnS G B1 H1 ρ (frz I n δ) σ Fh
theorem Sls.cons {G : Gx} {B : Hp} {ρ : List Addr} {o : Option D} {v : Option V} {δ : Sw} {σ : St} (h : Sls G B ρ δ σ) (h0 : ∀ d, o = some d → ∃ x, v = some x ∧ Rep G B ρ d x) : Sls G B ρ (o :: δ) (v :: σ) := by
  refine ⟨by rw [List.length_cons, List.length_cons, h.1], fun i d e => ?_⟩
  cases i with
  | zero =>
    have e' : o = some d := by simpa using e
    obtain ⟨x, h1, h2⟩ := h0 d e'
    exact ⟨x, by simp [h1], h2⟩
  | succ i =>
    obtain ⟨x, h1, h2⟩ := h.2 i d (by simpa using e)
    exact ⟨x, by simpa using h1, h2⟩
theorem seen {G : Gx} {B H : Hp} {ρ : List Addr} (I : List Nat) : ∀ (δ : SlM) (n : Nat) (σ : St) (F : List Addr), OwnS G B H ρ δ σ F → ∃ Fv Fh, Seen G B H ρ I n δ σ F Fv Fh
  | [], n, σ, F, h => by
    obtain ⟨rfl, rfl⟩ := h
    exact ⟨[], [], ⟨List.Perm.refl _, (fun p hp => nomatch hp), fun B1 _ _ => ⟨rfl, fun i d e => by simp [see] at e⟩, fun B1 H1 _ _ _ => ⟨rfl, rfl⟩⟩⟩
  | none :: δ, n, σ, F, h => by
    obtain ⟨o, r, rfl, h2⟩ := h
    obtain ⟨Fv, Fh, s⟩ := seen I δ (n + 1) r F h2
    exact ⟨Fv, Fh, ⟨s.perm, s.kd, fun B1 a b => (s.sl B1 a b).cons (fun d e => nomatch e), fun B1 H1 a b c => ⟨o, r, rfl, s.fz B1 H1 a b c⟩⟩⟩
  | some (.val d) :: δ, n, σ, F, h => by
    obtain ⟨v, r, F1, F2, rfl, rfl, ⟨rfl, h1⟩, h2⟩ := h
    obtain ⟨Fv, Fh, s⟩ := seen I δ (n + 1) r F2 h2
    refine ⟨Fv, Fh, ⟨s.perm, s.kd, fun B1 a b => (s.sl B1 a b).cons fun d' e => ?_, fun B1 H1 a b c => ⟨v, r, [], Fh, rfl, rfl, ⟨rfl, Rep.mono a d v h1⟩, s.fz B1 H1 a b c⟩⟩⟩
    cases e
    exact ⟨v, rfl, Rep.mono a d v h1⟩
  | some (.pin k (.val d)) :: δ, n, σ, F, h => by
    obtain ⟨v, r, F1, F2, rfl, rfl, ⟨h0, rfl, h1⟩, h2⟩ := h
    obtain ⟨Fv, Fh, s⟩ := seen I δ (n + 1) r F2 h2
    refine ⟨Fv, Fh, ⟨s.perm, s.kd, fun B1 a b => (s.sl B1 a b).cons fun d' e => ?_, fun B1 H1 a b c => ⟨v, r, [], Fh, rfl, rfl, ⟨h0, rfl, Rep.mono a d v h1⟩, s.fz B1 H1 a b c⟩⟩⟩
    cases e
    exact ⟨v, rfl, Rep.mono a d v h1⟩
  | some (.pin k0 (.lst l)) :: δ, n, σ, F, h => by
    obtain ⟨v, r, F1, F2, rfl, rfl, h1, h2⟩ := h
    obtain ⟨Fv, Fh, s⟩ := seen I δ (n + 1) r F2 h2
    by_cases c : n ∈ I
    · refine ⟨F1 ++ Fv, Fh, ⟨?_, ?_, fun B1 a b => ?_, fun B1 H1 a b k => ?_⟩⟩
      · rw [List.append_assoc]
        exact List.Perm.append_left F1 s.perm
      · unfold kin
        rw [if_pos c]
        exact (Own.kd _ v F1 h1).orl.app s.kd.orr
      · unfold see
        rw [if_pos c]
        refine (s.sl B1 a fun p hp => b p (List.mem_append_right _ hp)).cons fun d e => ?_
        cases e
        exact ⟨v, rfl, Own.froze a _ v F1 (fun p hp => b p (List.mem_append_left _ hp)) h1⟩
      · unfold frz
        rw [if_pos c]
        exact ⟨v, r, [], Fh, rfl, rfl, ⟨rfl, Own.froze a _ v F1 (fun p hp => b p (List.mem_append_left _ hp)) h1⟩, s.fz B1 H1 a (fun p hp => b p (List.mem_append_right _ hp)) k⟩
    · refine ⟨Fv, F1 ++ Fh, ⟨?_, ?_, fun B1 a b => ?_, fun B1 H1 a b k => ?_⟩⟩
      · refine (List.Perm.append_left F1 s.perm).trans ?_
        rw [← List.append_assoc, ← List.append_assoc]
        exact List.Perm.append_right Fh List.perm_append_comm
      · unfold kin
        rw [if_neg c]
        exact s.kd
      · unfold see
        rw [if_neg c]
        exact (s.sl B1 a b).cons fun d e => nomatch e
      · unfold frz
        rw [if_neg c]
        exact ⟨v, r, F1, Fh, rfl, rfl, Own.mono a _ v F1 (fun p hp => k p (List.mem_append_left _ hp)) h1, s.fz B1 H1 a b fun p hp => k p (List.mem_append_right _ hp)⟩
  | some (.pin k0 (.tup l)) :: δ, n, σ, F, h => by
    obtain ⟨v, r, F1, F2, rfl, rfl, h1, h2⟩ := h
    obtain ⟨Fv, Fh, s⟩ := seen I δ (n + 1) r F2 h2
    by_cases c : n ∈ I
    · refine ⟨F1 ++ Fv, Fh, ⟨?_, ?_, fun B1 a b => ?_, fun B1 H1 a b k => ?_⟩⟩
      · rw [List.append_assoc]
        exact List.Perm.append_left F1 s.perm
      · unfold kin
        rw [if_pos c]
        exact (Own.kd _ v F1 h1).orl.app s.kd.orr
      · unfold see
        rw [if_pos c]
        refine (s.sl B1 a fun p hp => b p (List.mem_append_right _ hp)).cons fun d e => ?_
        cases e
        exact ⟨v, rfl, Own.froze a _ v F1 (fun p hp => b p (List.mem_append_left _ hp)) h1⟩
      · unfold frz
        rw [if_pos c]
        exact ⟨v, r, [], Fh, rfl, rfl, ⟨rfl, Own.froze a _ v F1 (fun p hp => b p (List.mem_append_left _ hp)) h1⟩, s.fz B1 H1 a (fun p hp => b p (List.mem_append_right _ hp)) k⟩
    · refine ⟨Fv, F1 ++ Fh, ⟨?_, ?_, fun B1 a b => ?_, fun B1 H1 a b k => ?_⟩⟩
      · refine (List.Perm.append_left F1 s.perm).trans ?_
        rw [← List.append_assoc, ← List.append_assoc]
        exact List.Perm.append_right Fh List.perm_append_comm
      · unfold kin
        rw [if_neg c]
        exact s.kd
      · unfold see
        rw [if_neg c]
        exact (s.sl B1 a b).cons fun d e => nomatch e
      · unfold frz
        rw [if_neg c]
        exact ⟨v, r, F1, Fh, rfl, rfl, Own.mono a _ v F1 (fun p hp => k p (List.mem_append_left _ hp)) h1, s.fz B1 H1 a b fun p hp => k p (List.mem_append_right _ hp)⟩
  | some (.pin k0 (.obj cc ns l)) :: δ, n, σ, F, h => by
    obtain ⟨v, r, F1, F2, rfl, rfl, h1, h2⟩ := h
    obtain ⟨Fv, Fh, s⟩ := seen I δ (n + 1) r F2 h2
    by_cases c : n ∈ I
    · refine ⟨F1 ++ Fv, Fh, ⟨?_, ?_, fun B1 a b => ?_, fun B1 H1 a b k => ?_⟩⟩
      · rw [List.append_assoc]
        exact List.Perm.append_left F1 s.perm
      · unfold kin
        rw [if_pos c]
        exact (Own.kd _ v F1 h1).orl.app s.kd.orr
      · unfold see
        rw [if_pos c]
        refine (s.sl B1 a fun p hp => b p (List.mem_append_right _ hp)).cons fun d e => ?_
        cases e
        exact ⟨v, rfl, Own.froze a _ v F1 (fun p hp => b p (List.mem_append_left _ hp)) h1⟩
      · unfold frz
        rw [if_pos c]
        exact ⟨v, r, [], Fh, rfl, rfl, ⟨rfl, Own.froze a _ v F1 (fun p hp => b p (List.mem_append_left _ hp)) h1⟩, s.fz B1 H1 a (fun p hp => b p (List.mem_append_right _ hp)) k⟩
    · refine ⟨Fv, F1 ++ Fh, ⟨?_, ?_, fun B1 a b => ?_, fun B1 H1 a b k => ?_⟩⟩
      · refine (List.Perm.append_left F1 s.perm).trans ?_
        rw [← List.append_assoc, ← List.append_assoc]
        exact List.Perm.append_right Fh List.perm_append_comm
      · unfold kin
        rw [if_neg c]
        exact s.kd
      · unfold see
        rw [if_neg c]
        exact (s.sl B1 a b).cons fun d e => nomatch e
      · unfold frz
        rw [if_neg c]
        exact ⟨v, r, F1, Fh, rfl, rfl, Own.mono a _ v F1 (fun p hp => k p (List.mem_append_left _ hp)) h1, s.fz B1 H1 a b fun p hp => k p (List.mem_append_right _ hp)⟩
  | some (.pin k0 (.pin k1 m1)) :: δ, n, σ, F, h => by
    obtain ⟨v, r, F1, F2, rfl, rfl, h1, h2⟩ := h
    obtain ⟨Fv, Fh, s⟩ := seen I δ (n + 1) r F2 h2
    by_cases c : n ∈ I
    · refine ⟨F1 ++ Fv, Fh, ⟨?_, ?_, fun B1 a b => ?_, fun B1 H1 a b k => ?_⟩⟩
      · rw [List.append_assoc]
        exact List.Perm.append_left F1 s.perm
      · unfold kin
        rw [if_pos c]
        exact (Own.kd _ v F1 h1).orl.app s.kd.orr
      · unfold see
        rw [if_pos c]
        refine (s.sl B1 a fun p hp => b p (List.mem_append_right _ hp)).cons fun d e => ?_
        cases e
        exact ⟨v, rfl, Own.froze a _ v F1 (fun p hp => b p (List.mem_append_left _ hp)) h1⟩
      · unfold frz
        rw [if_pos c]
        exact ⟨v, r, [], Fh, rfl, rfl, ⟨rfl, Own.froze a _ v F1 (fun p hp => b p (List.mem_append_left _ hp)) h1⟩, s.fz B1 H1 a (fun p hp => b p (List.mem_append_right _ hp)) k⟩
    · refine ⟨Fv, F1 ++ Fh, ⟨?_, ?_, fun B1 a b => ?_, fun B1 H1 a b k => ?_⟩⟩
      · refine (List.Perm.append_left F1 s.perm).trans ?_
        rw [← List.append_assoc, ← List.append_assoc]
        exact List.Perm.append_right Fh List.perm_append_comm
      · unfold kin
        rw [if_neg c]
        exact s.kd
      · unfold see
        rw [if_neg c]
        exact (s.sl B1 a b).cons fun d e => nomatch e
      · unfold frz
        rw [if_neg c]
        exact ⟨v, r, F1, Fh, rfl, rfl, Own.mono a _ v F1 (fun p hp => k p (List.mem_append_left _ hp)) h1, s.fz B1 H1 a b fun p hp => k p (List.mem_append_right _ hp)⟩
  | some (.lst l) :: δ, n, σ, F, h => by
    obtain ⟨v, r, F1, F2, rfl, rfl, h1, h2⟩ := h
    obtain ⟨Fv, Fh, s⟩ := seen I δ (n + 1) r F2 h2
    by_cases c : n ∈ I
    · refine ⟨F1 ++ Fv, Fh, ⟨?_, ?_, fun B1 a b => ?_, fun B1 H1 a b k => ?_⟩⟩
      · rw [List.append_assoc]
        exact List.Perm.append_left F1 s.perm
      · unfold kin
        rw [if_pos c]
        exact (Own.kd _ v F1 h1).orl.app s.kd.orr
      · unfold see
        rw [if_pos c]
        refine (s.sl B1 a fun p hp => b p (List.mem_append_right _ hp)).cons fun d e => ?_
        cases e
        exact ⟨v, rfl, Own.froze a _ v F1 (fun p hp => b p (List.mem_append_left _ hp)) h1⟩
      · unfold frz
        rw [if_pos c]
        exact ⟨v, r, [], Fh, rfl, rfl, ⟨rfl, Own.froze a _ v F1 (fun p hp => b p (List.mem_append_left _ hp)) h1⟩, s.fz B1 H1 a (fun p hp => b p (List.mem_append_right _ hp)) k⟩
    · refine ⟨Fv, F1 ++ Fh, ⟨?_, ?_, fun B1 a b => ?_, fun B1 H1 a b k => ?_⟩⟩
      · refine (List.Perm.append_left F1 s.perm).trans ?_
        rw [← List.append_assoc, ← List.append_assoc]
        exact List.Perm.append_right Fh List.perm_append_comm
      · unfold kin
        rw [if_neg c]
        exact s.kd
      · unfold see
        rw [if_neg c]
        exact (s.sl B1 a b).cons fun d e => nomatch e
      · unfold frz
        rw [if_neg c]
        exact ⟨v, r, F1, Fh, rfl, rfl, Own.mono a _ v F1 (fun p hp => k p (List.mem_append_left _ hp)) h1, s.fz B1 H1 a b fun p hp => k p (List.mem_append_right _ hp)⟩
  | some (.tup l) :: δ, n, σ, F, h => by
    obtain ⟨v, r, F1, F2, rfl, rfl, h1, h2⟩ := h
    obtain ⟨Fv, Fh, s⟩ := seen I δ (n + 1) r F2 h2
    by_cases c : n ∈ I
    · refine ⟨F1 ++ Fv, Fh, ⟨?_, ?_, fun B1 a b => ?_, fun B1 H1 a b k => ?_⟩⟩
      · rw [List.append_assoc]
        exact List.Perm.append_left F1 s.perm
      · unfold kin
        rw [if_pos c]
        exact (Own.kd _ v F1 h1).orl.app s.kd.orr
      · unfold see
        rw [if_pos c]
        refine (s.sl B1 a fun p hp => b p (List.mem_append_right _ hp)).cons fun d e => ?_
        cases e
        exact ⟨v, rfl, Own.froze a _ v F1 (fun p hp => b p (List.mem_append_left _ hp)) h1⟩
      · unfold frz
        rw [if_pos c]
        exact ⟨v, r, [], Fh, rfl, rfl, ⟨rfl, Own.froze a _ v F1 (fun p hp => b p (List.mem_append_left _ hp)) h1⟩, s.fz B1 H1 a (fun p hp => b p (List.mem_append_right _ hp)) k⟩
    · refine ⟨Fv, F1 ++ Fh, ⟨?_, ?_, fun B1 a b => ?_, fun B1 H1 a b k => ?_⟩⟩
      · refine (List.Perm.append_left F1 s.perm).trans ?_
        rw [← List.append_assoc, ← List.append_assoc]
        exact List.Perm.append_right Fh List.perm_append_comm
      · unfold kin
        rw [if_neg c]
        exact s.kd
      · unfold see
        rw [if_neg c]
        exact (s.sl B1 a b).cons fun d e => nomatch e
      · unfold frz
        rw [if_neg c]
        exact ⟨v, r, F1, Fh, rfl, rfl, Own.mono a _ v F1 (fun p hp => k p (List.mem_append_left _ hp)) h1, s.fz B1 H1 a b fun p hp => k p (List.mem_append_right _ hp)⟩
  | some (.obj cc ns l) :: δ, n, σ, F, h => by
    obtain ⟨v, r, F1, F2, rfl, rfl, h1, h2⟩ := h
    obtain ⟨Fv, Fh, s⟩ := seen I δ (n + 1) r F2 h2
    by_cases c : n ∈ I
    · refine ⟨F1 ++ Fv, Fh, ⟨?_, ?_, fun B1 a b => ?_, fun B1 H1 a b k => ?_⟩⟩
      · rw [List.append_assoc]
        exact List.Perm.append_left F1 s.perm
      · unfold kin
        rw [if_pos c]
        exact (Own.kd _ v F1 h1).orl.app s.kd.orr
      · unfold see
        rw [if_pos c]
        refine (s.sl B1 a fun p hp => b p (List.mem_append_right _ hp)).cons fun d e => ?_
        cases e
        exact ⟨v, rfl, Own.froze a _ v F1 (fun p hp => b p (List.mem_append_left _ hp)) h1⟩
      · unfold frz
        rw [if_pos c]
        exact ⟨v, r, [], Fh, rfl, rfl, ⟨rfl, Own.froze a _ v F1 (fun p hp => b p (List.mem_append_left _ hp)) h1⟩, s.fz B1 H1 a (fun p hp => b p (List.mem_append_right _ hp)) k⟩
    · refine ⟨Fv, F1 ++ Fh, ⟨?_, ?_, fun B1 a b => ?_, fun B1 H1 a b k => ?_⟩⟩
      · refine (List.Perm.append_left F1 s.perm).trans ?_
        rw [← List.append_assoc, ← List.append_assoc]
        exact List.Perm.append_right Fh List.perm_append_comm
      · unfold kin
        rw [if_neg c]
        exact s.kd
      · unfold see
        rw [if_neg c]
        exact (s.sl B1 a b).cons fun d e => nomatch e
      · unfold frz
        rw [if_neg c]
        exact ⟨v, r, F1, Fh, rfl, rfl, Own.mono a _ v F1 (fun p hp => k p (List.mem_append_left _ hp)) h1, s.fz B1 H1 a b fun p hp => k p (List.mem_append_right _ hp)⟩
inductive Ox (β : Type) where
  | ok (b : β) (δ : SlM) (a : Sto)
  | exc (c : Nat) (ns : List Str) (ds : List D) (δ : SlM) (a : Sto)
  | stuck
def lift (I : List Nat) (f : EM) (δ : SlM) (a : Sto) : Ox M := match f (see I 0 δ) a with
  | .ok m a' => .ok m (if (clM (kin I 0 δ) m && clA (kin I 0 δ) a') = true then δ else frz I 0 δ) a'
  | .exc c ns ds a' => .exc c ns ds (if (cls (kin I 0 δ) ds && clA (kin I 0 δ) a') = true then δ else frz I 0 δ) a'
  | .stuck => .stuck
def liftT (I : List Nat) (f : ET) (δ : SlM) (a : Sto) : Ox Bool := match f (see I 0 δ) a with
  | .ok b a' => .ok b (if clA (kin I 0 δ) a' = true then δ else frz I 0 δ) a'
  | .exc c ns ds a' => .exc c ns ds (if (cls (kin I 0 δ) ds && clA (kin I 0 δ) a') = true then δ else frz I 0 δ) a'
  | .stuck => .stuck
def FinX (G : Gx) (W : WX) (ρ R : List Addr) (B H : Hp) (σ : St) (o : Ox M) (k : M → SlM → Sto → Hp → Hp → V → List Addr → List Addr → Prop) : Prop := match o with
  | .ok m δ a => ∀ B' H' v F F', Wd G B' H' ρ a (F' ++ (F ++ R)) → Same B B' → Kp R H H' → Own G B' H' ρ m v F' → OwnS G B' H' ρ δ σ F → k m δ a B' H' v F' F
  | .exc c ns ds δ a => ∀ B' H' dd F, Wd G B' H' ρ a (F ++ R) → Same B B' → Kp R H H' → XdO G B' ρ ns ds dd → OwnS G B' H' ρ δ σ F → W (.ref (G.T c)) dd σ H'
  | .stuck => False
def FinXT (G : Gx) (W : WX) (ρ R : List Addr) (B H : Hp) (σ : St) (o : Ox Bool) (k : Bool → SlM → Sto → Hp → Hp → List Addr → Prop) : Prop := match o with
  | .ok b δ a => ∀ B' H' F, Wd G B' H' ρ a (F ++ R) → Same B B' → Kp R H H' → OwnS G B' H' ρ δ σ F → k b δ a B' H' F
  | .exc c ns ds δ a => ∀ B' H' dd F, Wd G B' H' ρ a (F ++ R) → Same B B' → Kp R H H' → XdO G B' ρ ns ds dd → OwnS G B' H' ρ δ σ F → W (.ref (G.T c)) dd σ H'
  | .stuck => False
section
variable {G : Gx} {W : WX} {ρ R F Fv Fh : List Addr} {B H : Hp} {σ : St} {δ : SlM} {a : Sto} {I : List Nat}
theorem perm3 {A Bl C : List Addr} (h : F.Perm (A ++ Bl)) : (F ++ C).Perm (A ++ (Bl ++ C)) := by
  rw [← List.append_assoc]
  exact List.Perm.append_right C h
theorem Seen.start (s : Seen G B H ρ I 0 δ σ F Fv Fh) (w : Wd G B H ρ a (F ++ R)) : Wd G (ov B H Fv) H ρ a (Fh ++ R) := (w.perm (perm3 s.perm)).absorb
theorem Seen.sameOv (s : Seen G B H ρ I 0 δ σ F Fv Fh) (w : Wd G B H ρ a (F ++ R)) : Same B (ov B H Fv) := (w.perm (perm3 s.perm)).sameOv
section
variable {B1 H1 : Hp} {a1 : Sto} {F1 : List Addr}
theorem Seen.stays (s : Seen G B H ρ I 0 δ σ F Fv Fh) (os : OwnS G B H ρ δ σ F) (w1 : Wd G B1 H1 ρ a1 (F1 ++ (Fh ++ R))) (sm : Same (ov B H Fv) B1) : ∀ p ∈ Fv, B1 p = H p ∧ H1 p = H p := fun p hp => by
  have h1 := OwnS.there os p (s.perm.mem_iff.mpr (List.mem_append_left _ hp))
  obtain ⟨o, ho⟩ := Option.isSome_iff_exists.mp h1
  have h2 : B1 p = some o := sm p o (by rw [ov_in hp]; exact ho)
  rw [h2, ho]
  exact ⟨rfl, w1.ex p o h2⟩
theorem Seen.back (s : Seen G B H ρ I 0 δ σ F Fv Fh) (os : OwnS G B H ρ δ σ F) (w : Wd G B H ρ a (F ++ R)) (w1 : Wd G B1 H1 ρ a1 (F1 ++ (Fh ++ R))) (sm : Same (ov B H Fv) B1) (kp : Kp (Fh ++ R) H H1) (ca : clA (kin I 0 δ) a1 = true) :
    Wd G (wo B1 Fv) H1 ρ a1 (F1 ++ (F ++ R)) ∧ Same B (wo B1 Fv) ∧ OwnS G (wo B1 Fv) H1 ρ δ σ F ∧ KdAt B1 (kin I 0 δ) Fv := by
  have st := s.stays os w1 sm
  have w' := w.perm (perm3 s.perm)
  have hB : Same B (wo B1 Fv) := fun p o e => by
    have hp : p ∉ Fv := fun hp => by
      rw [w'.nofr p hp] at e
      cases e
    rw [wo_out hp]
    exact sm p o (by rw [ov_out hp]; exact e)
  have hF : ∀ p ∈ F, H1 p = H p := fun p hp => by
    rcases List.mem_append.mp (s.perm.mem_iff.mp hp) with h | h
    · exact (st p h).2
    · exact kp p (List.mem_append_left _ h)
  have vis : ∀ p ∈ Fv, (B1 p).isSome = true := fun p hp => by
    rw [(st p hp).1]
    exact OwnS.there os p (s.perm.mem_iff.mpr (List.mem_append_left _ hp))
  have kd : KdAt B1 (kin I 0 δ) Fv := fun p hp => by
    have e := (st p hp).1
    rcases s.kd p hp with ⟨xs, e', q⟩ | ⟨xs, e', q⟩ | ⟨C, dx, fs, e', q⟩ | ⟨z, e', q⟩
    · exact .inl ⟨xs, e.trans e', q⟩
    · exact .inr (.inl ⟨xs, e.trans e', q⟩)
    · exact .inr (.inr (.inl ⟨C, dx, fs, e.trans e', q⟩))
    · exact .inr (.inr (.inr ⟨z, e.trans e', q⟩))
  have cells : ∀ (n : Nat) (p : Addr) (c : Cell), ρ[n]? = some p → a1[n]? = some c → CellAt G (wo B1 Fv) H1 ρ (F1 ++ (Fv ++ (Fh ++ R))) p c := fun n p c e1 e2 => by
    have z := w1.sto n p c e1 e2
    cases c with
    | nums l => exact z
    | obj c ns ds =>
      obtain ⟨dx, xs, z1, z2, z3, z4, z5, z6⟩ := z
      have hv : dx ∉ Fv := fun y => by
        have y' := vis dx y
        rw [z6] at y'
        cases y'
      refine ⟨dx, xs, z1, z2, z3, Reps.wo kd ds xs (clA_at ca e2) z4, fun y => ?_, by rw [wo_out hv]; exact z6⟩
      rcases List.mem_append.mp y with y | y
      · exact z5 (List.mem_append_left _ y)
      · rcases List.mem_append.mp y with y | y
        · exact z5 (List.mem_append_right _ (List.mem_append_left _ y))
        · rcases List.mem_append.mp y with y | y
          · exact hv y
          · exact z5 (List.mem_append_right _ (List.mem_append_right _ y))
    | vals ds =>
      obtain ⟨xs, z1, z4⟩ := z
      exact ⟨xs, z1, Reps.wo kd ds xs (clA_atV ca e2) z4⟩
  refine ⟨?_, hB, OwnS.mono hB δ σ F hF os, kd⟩
  · have pe : (F1 ++ (F ++ R)).Perm (F1 ++ (Fv ++ (Fh ++ R))) := List.Perm.append_left F1 (perm3 s.perm)
    refine Wd.perm ?_ pe.symm
    refine ⟨fun p o e => ?_, w1.len, cells, ?_, fun p hp => ?_, fun p hp => ?_⟩
    · by_cases hp : p ∈ Fv
      · rw [wo_in hp] at e
        cases e
      · rw [wo_out hp] at e
        exact w1.ex p o e
    · have n1 := w1.nd
      have n2 := w'.nd
      have q : (ρ ++ (F1 ++ (Fv ++ (Fh ++ R)))).Perm (Fv ++ (ρ ++ (F1 ++ (Fh ++ R)))) := by
        have z : ((ρ ++ F1) ++ Fv).Perm (Fv ++ (ρ ++ F1)) := List.perm_append_comm
        have y := List.Perm.append_right (Fh ++ R) z
        simpa only [List.append_assoc] using y
      refine q.nodup_iff.mpr (List.nodup_append.mpr ⟨?_, n1, fun p hp z hz e => ?_⟩)
      · exact (List.nodup_append.mp (List.nodup_append.mp n2).2.1).1
      · subst e
        have h1 := w1.bn p hz
        have h2 := vis p hp
        rw [h1] at h2
        cases h2
    · by_cases hv : p ∈ Fv
      · exact wo_in hv
      · rw [wo_out hv]
        refine w1.bn p ?_
        rcases List.mem_append.mp hp with h | h
        · exact List.mem_append_left _ h
        · refine List.mem_append_right _ ?_
          rcases List.mem_append.mp h with h | h
          · exact List.mem_append_left _ h
          · rcases List.mem_append.mp h with h | h
            · exact absurd h hv
            · exact List.mem_append_right _ h
    · by_cases hv : p ∈ Fv
      · rw [(st p hv).2]
        exact OwnS.there os p (s.perm.mem_iff.mpr (List.mem_append_left _ hv))
      · refine w1.has p ?_
        rcases List.mem_append.mp hp with h | h
        · exact List.mem_append_left _ h
        · refine List.mem_append_right _ ?_
          rcases List.mem_append.mp h with h | h
          · exact List.mem_append_left _ h
          · rcases List.mem_append.mp h with h | h
            · exact absurd h hv
            · exact List.mem_append_right _ h
theorem Seen.gave (s : Seen G B H ρ I 0 δ σ F Fv Fh) (os : OwnS G B H ρ δ σ F) (w : Wd G B H ρ a (F ++ R)) (w1 : Wd G B1 H1 ρ a1 (F1 ++ (Fh ++ R))) (sm : Same (ov B H Fv) B1) (kp : Kp (Fh ++ R) H H1) :
    Same B B1 ∧ OwnS G B1 H1 ρ (frz I 0 δ) σ Fh :=
  ⟨(s.sameOv w).trans sm, s.fz B1 H1 ((s.sameOv w).trans sm) (fun p hp => (s.stays os w1 sm p hp).1) fun p hp => kp p (List.mem_append_left _ hp)⟩
end
theorem XdO.wo {B1 : Hp} {k : Kd} {ns : List Str} {ds : List D} {dd : Option Addr} (h : KdAt B1 k Fv) (c : cls k ds = true) (x : XdO G B1 ρ ns ds dd) : XdO G (wo B1 Fv) ρ ns ds dd := by
  rcases x with x | ⟨d, xs, h1, h2, h3, h4⟩
  · exact .inl x
  · exact .inr ⟨d, xs, h1, wo_at h h2 (fun _ z => nomatch z) (fun _ z => nomatch z) (fun _ _ _ z => nomatch z) (fun _ z => nomatch z), h3, Reps.wo h ds xs c h4⟩
theorem lift_ok {t : TE} {f : EM} (hf : MOk G W t f) (w : Wd G B H ρ a (F ++ R)) (os : OwnS G B H ρ δ σ F) {Q : VK} (q : FinX G W ρ R B H σ (lift I f δ a) (fun _ _ _ _ H' v _ _ => Q v H')) : t σ H Q := by
  obtain ⟨Fv, Fh, s⟩ := seen I δ 0 σ F os
  refine hf ρ (Fh ++ R) (ov B H Fv) H σ (see I 0 δ) a Q (s.start w) (s.sl _ (s.sameOv w) fun p hp => ov_in hp) ?_
  unfold lift at q
  cases c : f (see I 0 δ) a with
  | stuck =>
    rw [c] at q
    exact q
  | exc cc ns ds a1 =>
    rw [c] at q
    intro B1 H1 dd w1 sm kp x
    by_cases hc : (cls (kin I 0 δ) ds && clA (kin I 0 δ) a1) = true
    · dsimp only at q
      rw [if_pos hc] at q
      obtain ⟨c1, c2⟩ := Bool.and_eq_true_iff.mp hc
      obtain ⟨h1, h2, h3, h4⟩ := s.back (F1 := []) os w w1 sm kp c2
      exact q (wo B1 Fv) H1 dd F h1 h2 kp.right (XdO.wo h4 c1 x) h3
    · dsimp only at q
      rw [if_neg hc] at q
      obtain ⟨h1, h2⟩ := s.gave (F1 := []) os w w1 sm kp
      exact q B1 H1 dd Fh w1 h1 kp.right x h2
  | ok m a1 =>
    rw [c] at q
    intro B1 H1 v F1 w1 sm kp o1
    by_cases hc : (clM (kin I 0 δ) m && clA (kin I 0 δ) a1) = true
    · dsimp only at q
      rw [if_pos hc] at q
      obtain ⟨c1, c2⟩ := Bool.and_eq_true_iff.mp hc
      obtain ⟨h1, h2, h3, h4⟩ := s.back os w w1 sm kp c2
      exact q (wo B1 Fv) H1 v F F1 h1 h2 kp.right (Own.wo h4 m v F1 c1 o1) h3
    · dsimp only at q
      rw [if_neg hc] at q
      obtain ⟨h1, h2⟩ := s.gave os w w1 sm kp
      exact q B1 H1 v Fh F1 w1 h1 kp.right o1 h2
theorem liftT_ok {t : TT} {f : ET} (hf : TOk G W t f) (w : Wd G B H ρ a (F ++ R)) (os : OwnS G B H ρ δ σ F) {Q : Bool → Hp → Prop} (q : FinXT G W ρ R B H σ (liftT I f δ a) (fun b _ _ _ H' _ => Q b H')) : t σ H Q := by
  obtain ⟨Fv, Fh, s⟩ := seen I δ 0 σ F os
  refine hf ρ (Fh ++ R) (ov B H Fv) H σ (see I 0 δ) a Q (s.start w) (s.sl _ (s.sameOv w) fun p hp => ov_in hp) ?_
  unfold liftT at q
  cases c : f (see I 0 δ) a with
  | stuck =>
    rw [c] at q
    exact q
  | exc cc ns ds a1 =>
    rw [c] at q
    intro B1 H1 dd w1 sm kp x
    by_cases hc : (cls (kin I 0 δ) ds && clA (kin I 0 δ) a1) = true
    · dsimp only at q
      rw [if_pos hc] at q
      obtain ⟨c1, c2⟩ := Bool.and_eq_true_iff.mp hc
      obtain ⟨h1, h2, h3, h4⟩ := s.back (F1 := []) os w w1 sm kp c2
      exact q (wo B1 Fv) H1 dd F h1 h2 kp.right (XdO.wo h4 c1 x) h3
    · dsimp only at q
      rw [if_neg hc] at q
      obtain ⟨h1, h2⟩ := s.gave (F1 := []) os w w1 sm kp
      exact q B1 H1 dd Fh w1 h1 kp.right x h2
  | ok b a1 =>
    rw [c] at q
    intro B1 H1 w1 sm kp
    by_cases hc : clA (kin I 0 δ) a1 = true
    · dsimp only at q
      rw [if_pos hc] at q
      obtain ⟨h1, h2, h3, h4⟩ := s.back (F1 := []) os w w1 sm kp hc
      exact q (wo B1 Fv) H1 F h1 h2 kp.right h3
    · dsimp only at q
      rw [if_neg hc] at q
      obtain ⟨h1, h2⟩ := s.gave (F1 := []) os w w1 sm kp
      exact q B1 H1 Fh w1 h1 kp.right h2
end
end DL
namespace DL
open PySem L2
inductive OutS where
  | nx (δ : SlM) (a : Sto)
  | rt (m : M) (a : Sto)
  | bk (δ : SlM) (a : Sto)
  | ct (δ : SlM) (a : Sto)
  | exc (c : Nat) (ns : List Str) (ds : List D) (δ : SlM) (a : Sto)
  | stuck
def OutS.seq (o : OutS) (f : SlM → Sto → OutS) : OutS := match o with
  | .nx δ a => f δ a
  | .rt m a => .rt m a
  | .bk δ a => .bk δ a
  | .ct δ a => .ct δ a
  | .exc c ns ds δ a => .exc c ns ds δ a
  | .stuck => .stuck
@[simp] theorem seq_nx (δ : SlM) (a : Sto) (f : SlM → Sto → OutS) : (OutS.nx δ a).seq f = f δ a := rfl
@[simp] theorem seq_rt (m : M) (a : Sto) (f : SlM → Sto → OutS) : (OutS.rt m a).seq f = .rt m a := rfl
@[simp] theorem seq_bk (δ : SlM) (a : Sto) (f : SlM → Sto → OutS) : (OutS.bk δ a).seq f = .bk δ a := rfl
@[simp] theorem seq_ct (δ : SlM) (a : Sto) (f : SlM → Sto → OutS) : (OutS.ct δ a).seq f = .ct δ a := rfl
@[simp] theorem seq_exc (c : Nat) (ns : List Str) (ds : List D) (δ : SlM) (a : Sto) (f : SlM → Sto → OutS) : (OutS.exc c ns ds δ a).seq f = .exc c ns ds δ a := rfl
@[simp] theorem seq_stuck (f : SlM → Sto → OutS) : OutS.stuck.seq f = .stuck := rfl
def Ox.seq {β : Type} (o : Ox β) (f : β → SlM → Sto → OutS) : OutS := match o with
  | .ok b δ a => f b δ a
  | .exc c ns ds δ a => .exc c ns ds δ a
  | .stuck => .stuck
@[simp] theorem oseq_ok {β : Type} (b : β) (δ : SlM) (a : Sto) (f : β → SlM → Sto → OutS) : (Ox.ok b δ a).seq f = f b δ a := rfl
@[simp] theorem oseq_exc {β : Type} (c : Nat) (ns : List Str) (ds : List D) (δ : SlM) (a : Sto) (f : β → SlM → Sto → OutS) : (Ox.exc c ns ds δ a : Ox β).seq f = .exc c ns ds δ a := rfl
@[simp] theorem oseq_stuck {β : Type} (f : β → SlM → Sto → OutS) : (Ox.stuck : Ox β).seq f = .stuck := rfl
def FinS (G : Gx) (W : WX) (ρ R : List Addr) (B H : Hp) (o : OutS) (D : Ends) : Prop := match o with
  | .nx δ a => ∀ B' H' σ' F', Wd G B' H' ρ a (F' ++ R) → Same B B' → Kp R H H' → OwnS G B' H' ρ δ σ' F' → D.nx σ' H'
  | .rt m a => ∀ B' H' v F', Wd G B' H' ρ a (F' ++ R) → Same B B' → Kp R H H' → Own G B' H' ρ m v F' → D.rt v H'
  | .bk δ a => ∀ B' H' σ' F', Wd G B' H' ρ a (F' ++ R) → Same B B' → Kp R H H' → OwnS G B' H' ρ δ σ' F' → D.bk σ' H'
  | .ct δ a => ∀ B' H' σ' F', Wd G B' H' ρ a (F' ++ R) → Same B B' → Kp R H H' → OwnS G B' H' ρ δ σ' F' → D.ct σ' H'
  | .exc c ns ds δ a => ∀ B' H' σ' dd F', Wd G B' H' ρ a (F' ++ R) → Same B B' → Kp R H H' → XdO G B' ρ ns ds dd → OwnS G B' H' ρ δ σ' F' → W (.ref (G.T c)) dd σ' H'
  | .stuck => False
abbrev SM := SlM → Sto → OutS
def SOk (G : Gx) (W : WX) (t : TS) (f : SM) : Prop := ∀ (ρ R : List Addr) (B H : Hp) (σ : St) (δ : SlM) (a : Sto) (F : List Addr) (D : Ends), Wd G B H ρ a (F ++ R) → OwnS G B H ρ δ σ F → FinS G W ρ R B H (f δ a) D → t D σ H
structure DS (X : Cx) (G : Gx) (W : WX) (st : Stmt) (f : SM) : Prop where
  ex : ∃ t, PS X st t ∧ SOk G W t f
structure DSs (X : Cx) (G : Gx) (W : WX) (st : List Stmt) (f : SM) : Prop where
  ex : ∃ t, PSs X st t ∧ SOk G W t f
section
variable {G : Gx} {W : WX} {ρ R : List Addr} {B B1 H H1 : Hp}
theorem FinS.base {o : OutS} {D : Ends} (h : FinS G W ρ R B H o D) (s : Same B B1) (kp : Kp R H H1) : FinS G W ρ R B1 H1 o D := by
  cases o with
  | nx δ a => exact fun B' H' σ' F' w s' k' x => h B' H' σ' F' w (s.trans s') (kp.trans k') x
  | rt m a => exact fun B' H' σ' F' w s' k' x => h B' H' σ' F' w (s.trans s') (kp.trans k') x
  | bk δ a => exact fun B' H' σ' F' w s' k' x => h B' H' σ' F' w (s.trans s') (kp.trans k') x
  | ct δ a => exact fun B' H' σ' F' w s' k' x => h B' H' σ' F' w (s.trans s') (kp.trans k') x
  | exc c ns ds δ a => exact fun B' H' σ' dd F' w s' k' x y => h B' H' σ' dd F' w (s.trans s') (kp.trans k') x y
  | stuck => exact h
theorem FinS.seq {o : OutS} {f : SM} {D : Ends} {t : TS} (hf : SOk G W t f) (h : FinS G W ρ R B H (o.seq f) D) : FinS G W ρ R B H o { D with nx := t D } := by
  cases o with
  | nx δ a => exact fun B' H' σ' F' w s' k' x => hf ρ R B' H' σ' δ a F' D w x (FinS.base h s' k')
  | rt m a => exact h
  | bk δ a => exact h
  | ct δ a => exact h
  | exc c ns ds δ a => exact h
  | stuck => exact h
theorem Ox.fin {o : Ox M} {f : M → SM} {D : Ends} {σ : St} {Q : VK} (h : FinS G W ρ R B H (o.seq f) D)
    (hk : ∀ m δ a B' H' v F' F, Wd G B' H' ρ a (F' ++ (F ++ R)) → Own G B' H' ρ m v F' → OwnS G B' H' ρ δ σ F → FinS G W ρ R B' H' (f m δ a) D → Q v H') :
    FinX G W ρ R B H σ o (fun _ _ _ _ H' v _ _ => Q v H') := by
  cases o with
  | ok m δ a => exact fun B' H' v F F' w s k o1 o2 => hk m δ a B' H' v F' F w o1 o2 (FinS.base h s k)
  | exc c ns ds δ a => exact fun B' H' dd F w s k x o2 => h B' H' σ dd F w s k x o2
  | stuck => exact h
theorem Ox.finT {o : Ox Bool} {f : Bool → SM} {D : Ends} {σ : St} {Q : Bool → Hp → Prop} (h : FinS G W ρ R B H (o.seq f) D)
    (hk : ∀ b δ a B' H' F, Wd G B' H' ρ a (F ++ R) → OwnS G B' H' ρ δ σ F → FinS G W ρ R B' H' (f b δ a) D → Q b H') :
    FinXT G W ρ R B H σ o (fun b _ _ _ H' _ => Q b H') := by
  cases o with
  | ok b δ a => exact fun B' H' F w s k o2 => hk b δ a B' H' F w o2 (FinS.base h s k)
  | exc c ns ds δ a => exact fun B' H' dd F w s k x o2 => h B' H' σ dd F w s k x o2
  | stuck => exact h
end
section
variable {X : Cx} {G : Gx} {W : WX}
def sNil : SM := fun δ a => .nx δ a
theorem SOk.next : SOk G W tNext sNil := fun ρ R B H σ δ a F D w os q => q B H σ F w (Same.refl _) Kp.refl os
theorem dss_nil : DSs X G W [] sNil := ⟨tNext, pss_nil, SOk.next⟩
def sSeq (f g : SM) : SM := fun δ a => (f δ a).seq g
theorem dss_cons {st : Stmt} {rest : List Stmt} {f g : SM} (h : DS X G W st f) (k : DSs X G W rest g) : DSs X G W (st :: rest) (sSeq f g) := by
  obtain ⟨t, p, s⟩ := h.ex
  obtain ⟨u, p2, s2⟩ := k.ex
  exact ⟨_, pss_cons p p2, fun ρ R B H σ δ a F D w os q => s ρ R B H σ δ a F _ w os (FinS.seq s2 q)⟩
theorem dss_one {st : Stmt} {f : SM} (h : DS X G W st f) : DSs X G W [st] f := by
  obtain ⟨t, p, s⟩ := h.ex
  exact ⟨t, pss_one p, s⟩
def sBrk : SM := fun δ a => .bk δ a
def sCnt : SM := fun δ a => .ct δ a
def put (i : Nat) (m : M) (δ : SlM) (a : Sto) : OutS := if i < δ.length then .nx (δ.set i (some m)) a else .stuck
theorem put_ok {ρ R : List Addr} {B H : Hp} {i : Nat} {m : M} {v : V} {F' F : List Addr} {δ : SlM} {σ : St} {a : Sto} {D : Ends} (w : Wd G B H ρ a (F' ++ (F ++ R))) (om : Own G B H ρ m v F') (os : OwnS G B H ρ δ σ F) (q : FinS G W ρ R B H (put i m δ a) D) : D.nx (σ.set i (some v)) H := by
  unfold put at q
  by_cases hi : i < δ.length
  · rw [if_pos hi] at q
    obtain ⟨Fi, Fr, F2, p1, p2, h⟩ := OwnS.set om os hi
    have w1 : Wd G B H ρ a (Fi ++ (F2 ++ R)) := by
      refine w.perm ?_
      have e1 : (F ++ R).Perm (Fi ++ (Fr ++ R)) := by
        rw [← List.append_assoc]
        exact List.Perm.append_right R p1
      have e2 : (F2 ++ R).Perm (F' ++ (Fr ++ R)) := by
        rw [← List.append_assoc]
        exact List.Perm.append_right R p2
      refine (List.Perm.append_left F' e1).trans ?_
      refine List.Perm.trans ?_ (List.Perm.append_left Fi e2.symm)
      have y := List.Perm.append_right (Fr ++ R) (List.perm_append_comm (l₁ := F') (l₂ := Fi))
      simpa only [List.append_assoc] using y
    exact q B H _ F2 w1.drop (Same.refl _) Kp.refl h
  · rw [if_neg hi] at q
    exact q.elim
def sSet (i : Nat) (I : List Nat) (f : EM) : SM := fun δ a => (lift I f δ a).seq (put i)
theorem SOk.set {t : TE} {f : EM} {i : Nat} {I : List Nat} (h : MOk G W t f) : SOk G W (tAsg t (gName i)) (sSet i I f) := fun ρ R B H σ δ a F D w os q =>
  lift_ok h w os (Ox.fin q fun m δ' a' B' H' v F' F1 w' om os' q' => put_ok w' om os' q')
theorem ds_set {i : Nat} {x : Str} {e : Expr} {f : EM} {pos pos' : Pos} (I : List Nat) (hN : X.N.Nodup) (hi : X.N[i]? = some x) (hx : Loc X.env.scope x) (h : DM X G W e f) (hs : swapsWith e (some (.Name x pos')) pos.line X.env = pure false := by rfl) (hf : X.fn x = true ∨ X.env.scope.names.lookup x = some .local := by first | exact .inl rfl | exact .inr rfl | assumption) :
    DS X G W (.Assign [.Name x pos'] e pos) (sSet i I f) := by
  obtain ⟨t, p, s⟩ := h.ex
  exact ⟨_, ps_set hN hi hx p hs hf, SOk.set s⟩
def sDrop (I : List Nat) (f : EM) : SM := fun δ a => (lift I f δ a).seq fun _ δ' a' => .nx δ' a'
theorem ds_expr {e : Expr} {f : EM} {pos : Pos} (I : List Nat) (h : DM X G W e f) (hs : swapsWith e none pos.line X.env = pure false := by rfl) : DS X G W (.Expr e pos) (sDrop I f) := by
  obtain ⟨t, p, s⟩ := h.ex
  exact ⟨_, ps_expr p hs, fun ρ R B H σ δ a F D w os q => lift_ok s w os (Ox.fin q fun m δ' a' B' H' v F' F1 w' om os' q' => q' B' H' σ F1 w'.drop (Same.refl _) Kp.refl os')⟩
def sRet (I : List Nat) (f : EM) : SM := fun δ a => (lift I f δ a).seq fun m _ a' => .rt m a'
theorem ds_ret {e : Expr} {f : EM} {pos : Pos} (I : List Nat) (h : DM X G W e f) : DS X G W (.Return (some e) pos) (sRet I f) := by
  obtain ⟨t, p, s⟩ := h.ex
  refine ⟨_, ps_ret p, fun ρ R B H σ δ a F D w os q => lift_ok s w os (Ox.fin q fun m δ' a' B' H' v F' F1 w' om os' q' => q' B' H' v F' ?_ (Same.refl _) Kp.refl om)⟩
  have z : (F' ++ (F1 ++ R)).Perm (F1 ++ (F' ++ R)) := by
    rw [← List.append_assoc, ← List.append_assoc]
    exact List.Perm.append_right R List.perm_append_comm
  exact (w'.perm z).drop
def sRetO (i : Nat) : SM := fun δ a => match δ[i]? with
  | some (some m) => .rt m a
  | _ => .stuck
theorem ds_retO {i : Nat} {x : Str} {p pos : Pos} (hN : X.N[i]? = some x) (hv : Vis X.env.scope x) (hd : (x == ("__debug__" : Str)) = false := by decide) (hcd : (x == ("__classdict__" : Str)) = false := by decide) : DS X G W (.Return (some (.Name x p)) pos) (sRetO i) := by
  refine ⟨_, ps_ret (pe_var hN hv hd hcd), fun ρ R B H σ δ a F D w os q => ?_⟩
  unfold sRetO at q
  cases e : δ[i]? with
  | none =>
    rw [e] at q
    exact q.elim
  | some o =>
    cases o with
    | none =>
      rw [e] at q
      exact q.elim
    | some m =>
      rw [e] at q
      obtain ⟨v, Fi, Fr, p1, h1, h2, h3⟩ := OwnS.take os e
      refine ⟨v, h1, q B H v Fi ?_ (Same.refl _) Kp.refl h2⟩
      have z : (F ++ R).Perm (Fr ++ (Fi ++ R)) := by
        rw [← List.append_assoc]
        exact List.Perm.append_right R (p1.trans List.perm_append_comm)
      exact (w.perm z).drop
def sRetN : SM := fun _ a => .rt (.val .non) a
def sIf (I : List Nat) (c : ET) (f g : SM) : SM := fun δ a => (liftT I c δ a).seq fun b δ' a' => if b = true then f δ' a' else g δ' a'
theorem ds_if {e : Expr} {p1 p2 : List Stmt} {c : ET} {f g : SM} {pos : Pos} (I : List Nat) (hc : DT X G W e c) (hf : DSs X G W p1 f) (hg : DSs X G W p2 g) : DS X G W (.If e p1 p2 pos) (sIf I c f g) := by
  obtain ⟨t, p, s⟩ := hc.ex
  obtain ⟨t1, p1, s1⟩ := hf.ex
  obtain ⟨t2, p2, s2⟩ := hg.ex
  refine ⟨_, ps_if p p1 p2, fun ρ R B H σ δ a F D w os q => liftT_ok s w os (Ox.finT q fun b δ' a' B' H' F1 w' os' q' => ?_)⟩
  cases b with
  | true => exact s1 ρ R B' H' σ δ' a' F1 D w' os' q'
  | false => exact s2 ρ R B' H' σ δ' a' F1 D w' os' q'
def sWhile (I : List Nat) (c : ET) (f : SM) : Nat → SM
  | 0 => fun _ _ => .stuck
  | n + 1 => fun δ a => (liftT I c δ a).seq fun b δ' a' => if b = true then (match f δ' a' with
      | .nx δ'' a'' => sWhile I c f n δ'' a''
      | .ct δ'' a'' => sWhile I c f n δ'' a''
      | .bk δ'' a'' => .nx δ'' a''
      | .rt m a'' => .rt m a''
      | .exc k ns ds δ'' a'' => .exc k ns ds δ'' a''
      | .stuck => .stuck) else .nx δ' a'
theorem ds_while {e : Expr} {body : List Stmt} {c : ET} {f : SM} {pos : Pos} (I : List Nat) (n : Nat) (hp : PassesOwn (model X.prog X.w) X.A X.env X.xe) (hc : DT X G W e c) (hf : DSs X G W body f) : DS X G W (.While e body [] pos) (sWhile I c f n) := by
  obtain ⟨t, p, s⟩ := hc.ex
  obtain ⟨t1, p1, s1⟩ := hf.ex
  refine ⟨_, ps_while hp p p1, fun ρ R B H σ δ a F D w os q => ?_⟩
  refine ⟨fun m σ H => ∃ δ a B F, Wd G B H ρ a (F ++ R) ∧ OwnS G B H ρ δ σ F ∧ FinS G W ρ R B H (sWhile I c f m δ a) D, ⟨n, δ, a, B, F, w, os, q⟩, ?_⟩
  rintro m σ H ⟨δ, a, B, F, w, os, q⟩
  cases m with
  | zero => exact q.elim
  | succ m =>
    refine liftT_ok s w os (Ox.finT (D := D) q fun b δ' a' B' H' F1 w' os' q' => ?_)
    cases b with
    | false =>
      show D.nx σ H'
      exact q' B' H' σ F1 w' (Same.refl _) Kp.refl os'
    | true =>
      refine ⟨fun σ1 H1 => ∃ δ a B F, Wd G B H1 ρ a (F ++ R) ∧ OwnS G B H1 ρ δ σ1 F ∧ FinS G W ρ R B H1 (sWhile I c f m δ a) D, fun σ' H' z => ⟨m, Nat.lt_succ_self _, z⟩, ?_⟩
      refine s1 ρ R B' H' σ δ' a' F1 _ w' os' ?_
      rw [if_pos rfl] at q'
      cases ef : f δ' a' with
      | nx δ2 a2 =>
        rw [ef] at q'
        exact fun B2 H2 σ2 F2 w2 sm k2 os2 => ⟨δ2, a2, B2, F2, w2, os2, FinS.base q' sm k2⟩
      | ct δ2 a2 =>
        rw [ef] at q'
        exact fun B2 H2 σ2 F2 w2 sm k2 os2 => ⟨δ2, a2, B2, F2, w2, os2, FinS.base q' sm k2⟩
      | bk δ2 a2 =>
        rw [ef] at q'
        exact q'
      | rt m2 a2 =>
        rw [ef] at q'
        exact q'
      | exc k ns ds δ2 a2 =>
        rw [ef] at q'
        exact q'
      | stuck =>
        rw [ef] at q'
        exact q'
def gOne (i : Nat) (d : D) (δ : SlM) : Option SlM := if i < δ.length then some (δ.set i (some (.val d))) else none
structure DG (X : Cx) (G : Gx) (tg : Expr) (g : D → SlM → Option SlM) : Prop where
  ex : ∃ t, PG X tg t ∧ ∀ (ρ R : List Addr) (B H : Hp) (σ : St) (δ δ' : SlM) (a : Sto) (F : List Addr) (d : D) (v : V) (Q : St → Hp → Prop), Wd G B H ρ a (F ++ R) → OwnS G B H ρ δ σ F → Rep G B ρ d v → g d δ = some δ' →
    (∀ B' σ' F', Same B B' → Wd G B' H ρ a (F' ++ R) → OwnS G B' H ρ δ' σ' F' → Q σ' H) → t v σ H Q
structure DGs (X : Cx) (G : Gx) (ts : List Expr) (g : List D → SlM → Option SlM) : Prop where
  ex : ∃ t, PGs X ts t ∧ ∀ (ρ R : List Addr) (B H : Hp) (σ : St) (δ δ' : SlM) (a : Sto) (F : List Addr) (ds : List D) (vs : List V) (Q : St → Hp → Prop), Wd G B H ρ a (F ++ R) → OwnS G B H ρ δ σ F → Reps G B ρ ds vs → g ds δ = some δ' →
    (∀ B' σ' F', Same B B' → Wd G B' H ρ a (F' ++ R) → OwnS G B' H ρ δ' σ' F' → Q σ' H) → t vs σ H Q
theorem dg_name {i : Nat} {x : Str} {pos : Pos} (hN : X.N.Nodup) (hi : X.N[i]? = some x) (hx : Loc X.env.scope x) (hf : X.fn x = true ∨ X.env.scope.names.lookup x = some .local := by first | exact .inl rfl | exact .inr rfl | assumption) : DG X G (.Name x pos) (gOne i) := by
  refine ⟨gName i, pg_name hN hi hx hf, fun ρ R B H σ δ δ' a F d v Q w os r e q => ?_⟩
  unfold gOne at e
  by_cases h : i < δ.length
  · rw [if_pos h] at e
    cases e
    obtain ⟨Fi, Fr, F2, p1, p2, h1⟩ := OwnS.set (m := .val d) ⟨rfl, r⟩ os h
    have z : (F ++ R).Perm (Fi ++ (F2 ++ R)) := by
      have e1 : (F ++ R).Perm (Fi ++ (Fr ++ R)) := by
        rw [← List.append_assoc]
        exact List.Perm.append_right R p1
      exact e1.trans (List.Perm.append_left Fi (List.Perm.append_right R (by simpa using p2.symm)))
    exact q B _ F2 (Same.refl _) (w.perm z).drop h1
  · rw [if_neg h] at e
    cases e
def gsNil (ds : List D) (δ : SlM) : Option SlM := match ds with
  | [] => some δ
  | _ => none
def gsCons (g : D → SlM → Option SlM) (gs : List D → SlM → Option SlM) (ds : List D) (δ : SlM) : Option SlM := match ds with
  | [] => none
  | d :: ds => (g d δ).bind (gs ds)
theorem dgs_nil : DGs X G [] gsNil := ⟨gNil, pgs_nil, fun ρ R B H σ δ δ' a F ds vs Q w os r e q => by
  cases ds with
  | nil =>
    cases e
    cases vs with
    | nil => exact ⟨rfl, q B σ F (Same.refl _) w os⟩
    | cons v vs => obtain ⟨_, _, z, _⟩ | _ := r
  | cons d ds => cases e⟩
theorem dgs_cons {e : Expr} {es : List Expr} {g : D → SlM → Option SlM} {gs : List D → SlM → Option SlM} (h : DG X G e g) (k : DGs X G es gs)
    (hs : (assignEach (e :: es) X.env).map (·.2) = assign e X.env :: (assignEach es X.env).map (·.2) := by rfl) : DGs X G (e :: es) (gsCons g gs) := by
  obtain ⟨t, p, s⟩ := h.ex
  obtain ⟨u, p2, s2⟩ := k.ex
  refine ⟨gCons t u, pgs_cons p p2 hs, fun ρ R B H σ δ δ' a F ds vs Q w os r e q => ?_⟩
  cases ds with
  | nil => cases e
  | cons d ds =>
    obtain ⟨x, vs', rfl, r1, r2⟩ := r
    have e' : (g d δ).bind (gs ds) = some δ' := e
    cases e1 : g d δ with
    | none =>
      rw [e1] at e'
      cases e'
    | some δ1 =>
      rw [e1] at e'
      refine ⟨x, vs', rfl, s ρ R B H σ δ δ1 a F d x _ w os r1 e1 fun B1 σ1 F1 sm w1 os1 => ?_⟩
      exact s2 ρ R B1 H σ1 δ1 δ' a F1 ds vs' Q w1 os1 (Reps.mono sm ds vs' r2) e' fun B2 σ2 F2 sm2 w2 os2 => q B2 σ2 F2 (sm.trans sm2) w2 os2
def gTp (n : Nat) (gs : List D → SlM → Option SlM) (d : D) (δ : SlM) : Option SlM := match d with
  | .tup l => if l.length = n then gs l δ else none
  | _ => none
theorem dg_tup {es : List Expr} {k : Nat} {gs : List D → SlM → Option SlM} {pos : Pos} (n : Nat) (hc : X.calm = true) (hK : G.K = X.K) (h : DGs X G es gs)
    (hn : (assignEach es X.env).length = n := by rfl) (hst : (assignEach es X.env).findIdx? (·.1) = none := by rfl) : DG X G (.Tuple es k pos) (gTp n gs) := by
  obtain ⟨t, p, s⟩ := h.ex
  refine ⟨gTup X.K n t, pg_tup hc p hn hst, fun ρ R B H σ δ δ' a F d v Q w os r e q => ?_⟩
  cases d with
  | tup l =>
    obtain ⟨p, xs, rfl, h1, h2⟩ := r
    have e' : (if l.length = n then gs l δ else none) = some δ' := e
    by_cases hl : l.length = n
    · rw [if_pos hl] at e'
      exact ⟨p, xs, rfl, hK ▸ sqt_same w.ex h1, by rw [← h2.len]; exact hl, s ρ R B H σ δ δ' a F l xs Q w os h2 e' q⟩
    · rw [if_neg hl] at e'
      cases e'
  | _ => cases e
end
end DL
namespace DL
open PySem L2
def noB : Hp := fun _ => none
theorem same_noB {B : Hp} : Same noB B := fun p o e => by cases e
def Srv (G : Gx) (B : Hp) (ρ : List Addr) (J : It) (ds : List D) : Prop := ∀ (B' H' : Hp) (a' : Sto) (R' : List Addr), Same B B' → Wd G B' H' ρ a' R' →
  (∀ i, i < ds.length → J.go i H') ∧ J.stop ds.length H' ∧ ∀ i d, ds[i]? = some d → ∀ x H'', J.yld i H' x H'' → ∃ B'', Wd G B'' H'' ρ a' R' ∧ Same B' B'' ∧ Kp R' H' H'' ∧ Rep G B'' ρ d x
theorem Srv.any {G : Gx} {B : Hp} {ρ : List Addr} {J : It} {ds : List D} (h : Srv G noB ρ J ds) : Srv G B ρ J ds := fun B' H' a' R' _ w => h B' H' a' R' same_noB w
theorem Srv.mono {G : Gx} {B B1 : Hp} {ρ : List Addr} {J : It} {ds : List D} (h : Srv G B ρ J ds) (s : Same B B1) : Srv G B1 ρ J ds := fun B' H' a' R' s' w => h B' H' a' R' (s.trans s') w
def bs (fr : Bool) (B : Hp) : Hp := if fr = true then noB else B
abbrev EI := Sw → Sto → Out (List D)
def IOk (G : Gx) (W : WX) (fr : Bool) (wi : TI) (f : EI) : Prop := ∀ (ρ R : List Addr) (B H : Hp) (σ : St) (δ : Sw) (a : Sto) (K : It → Hp → Prop), Wd G B H ρ a R → Sls G B ρ δ σ →
  Fin G W ρ R B H σ (f δ a) (fun ds _ B' H' => ∀ J, Srv G (bs fr B') ρ J ds → K J H') → wi σ H K
structure DI (X : Cx) (G : Gx) (W : WX) (tg e : Expr) (fr : Bool) (f : EI) : Prop where
  ex : ∃ wi, PI X tg e wi ∧ IOk G W fr wi f
def liftI (fr : Bool) (I : List Nat) (f : EI) (δ : SlM) (a : Sto) : Ox (List D) := match f (see I 0 δ) a with
  | .ok b a' => .ok b (if (fr && clA (kin I 0 δ) a') = true then δ else frz I 0 δ) a'
  | .exc c ns ds a' => .exc c ns ds (if (cls (kin I 0 δ) ds && clA (kin I 0 δ) a') = true then δ else frz I 0 δ) a'
  | .stuck => .stuck
section
variable {G : Gx} {W : WX} {ρ R F : List Addr} {B H : Hp} {σ : St} {δ : SlM} {a : Sto} {I : List Nat}
theorem liftI_ok {fr : Bool} {wi : TI} {f : EI} (hf : IOk G W fr wi f) (w : Wd G B H ρ a (F ++ R)) (os : OwnS G B H ρ δ σ F) {K : It → Hp → Prop} {g : List D → SM} {D : Ends} (q : FinS G W ρ R B H ((liftI fr I f δ a).seq g) D)
    (hk : ∀ ds δ' a' B' H' F' J, Wd G B' H' ρ a' (F' ++ R) → OwnS G B' H' ρ δ' σ F' → Srv G B' ρ J ds → FinS G W ρ R B' H' (g ds δ' a') D → K J H') : wi σ H K := by
  obtain ⟨Fv, Fh, s⟩ := seen I δ 0 σ F os
  refine hf ρ (Fh ++ R) (ov B H Fv) H σ (see I 0 δ) a K (s.start w) (s.sl _ (s.sameOv w) fun p hp => ov_in hp) ?_
  unfold liftI at q
  cases c : f (see I 0 δ) a with
  | stuck =>
    rw [c] at q
    exact q
  | exc cc ns ds a1 =>
    rw [c] at q
    intro B1 H1 dd w1 sm kp x
    by_cases hc : (cls (kin I 0 δ) ds && clA (kin I 0 δ) a1) = true
    · dsimp only at q
      rw [if_pos hc] at q
      obtain ⟨c1, c2⟩ := Bool.and_eq_true_iff.mp hc
      obtain ⟨h1, h2, h3, h4⟩ := s.back (F1 := []) os w w1 sm kp c2
      exact q (wo B1 Fv) H1 σ dd F h1 h2 kp.right (XdO.wo h4 c1 x) h3
    · dsimp only at q
      rw [if_neg hc] at q
      obtain ⟨h1, h2⟩ := s.gave (F1 := []) os w w1 sm kp
      exact q B1 H1 σ dd Fh w1 h1 kp.right x h2
  | ok ds a1 =>
    rw [c] at q
    intro B1 H1 w1 sm kp J sv
    dsimp only at q
    by_cases hc : (fr && clA (kin I 0 δ) a1) = true
    · rw [if_pos hc] at q
      obtain ⟨rfl, c2⟩ := Bool.and_eq_true_iff.mp hc
      obtain ⟨h1, h2, h3, h4⟩ := s.back (F1 := []) os w w1 sm kp c2
      exact hk ds δ a1 (wo B1 Fv) H1 F J h1 h3 (Srv.any sv) (FinS.base q h2 kp.right)
    · rw [if_neg hc] at q
      obtain ⟨h1, h2⟩ := s.gave (F1 := []) os w w1 sm kp
      have sv' : Srv G B1 ρ J ds := by
        cases fr with
        | true => exact Srv.any sv
        | false => exact sv
      exact hk ds _ a1 B1 H1 Fh J w1 h2 sv' (FinS.base q h1 kp.right)
def sLoop (g : D → SlM → Option SlM) (f : SM) : List D → SM
  | [] => fun δ a => .nx δ a
  | d :: ds => fun δ a => match g d δ with
    | none => .stuck
    | some δ1 => match f δ1 a with
      | .nx δ2 a2 => sLoop g f ds δ2 a2
      | .ct δ2 a2 => sLoop g f ds δ2 a2
      | .bk δ2 a2 => .nx δ2 a2
      | .rt m a2 => .rt m a2
      | .exc k ns es δ2 a2 => .exc k ns es δ2 a2
      | .stuck => .stuck
def sFor (fr : Bool) (I : List Nat) (it : EI) (g : D → SlM → Option SlM) (f : SM) : SM := fun δ a => (liftI fr I it δ a).seq fun ds => sLoop g f ds
theorem drop_get {ds : List D} {i : Nat} (hi : i < ds.length) : ∃ d, ds[i]? = some d ∧ ds.drop i = d :: ds.drop (i + 1) := ⟨ds[i], List.getElem?_eq_getElem hi, List.drop_eq_getElem_cons hi⟩
theorem ds_for {X : Cx} {tg e : Expr} {body : List Stmt} {fr : Bool} {it : EI} {g : D → SlM → Option SlM} {f : SM} {pos : Pos} (I : List Nat) (hp : PassesOwn (model X.prog X.w) X.A X.env X.xe) (hc : X.calm = true) (hi : DI X G W tg e fr it) (hg : DG X G tg g) (hb : DSs X G W body f)
    (hs : ∀ x, foldedSetIterable e X.env x = pure x := by intro _; rfl) : DS X G W (.For tg e body [] pos) (sFor fr I it g f) := by
  obtain ⟨wi, p, s⟩ := hi.ex
  obtain ⟨tg', p1, s1⟩ := hg.ex
  obtain ⟨tb, p2, s2⟩ := hb.ex
  refine ⟨_, ps_for hp hc p p1 p2 hs, fun ρ R B H σ δ a F D w os q => liftI_ok s w os q fun ds δ' a' B' H' F' J w' os' sv q' => ?_⟩
  refine ⟨fun i m σ H => ∃ δ a B F, m = ds.length - i ∧ i ≤ ds.length ∧ Same B' B ∧ Wd G B H ρ a (F ++ R) ∧ OwnS G B H ρ δ σ F ∧ FinS G W ρ R B H (sLoop g f (ds.drop i) δ a) D, ⟨ds.length, δ', a', B', F', by simp, Nat.zero_le _, Same.refl _, w', os', q'⟩, ?_⟩
  rintro i m σ1 H1 ⟨δ1, a1, B1, F1, rfl, hi, sm1, w1, os1, q1⟩
  have v := sv B1 H1 a1 (F1 ++ R) sm1 w1
  by_cases hlt : i < ds.length
  · obtain ⟨d, hd, hdr⟩ := drop_get hlt
    rw [hdr] at q1
    refine .inr ⟨v.1 i hlt, fun σ2 H2 => ∃ δ a B F, Same B' B ∧ Wd G B H2 ρ a (F ++ R) ∧ OwnS G B H2 ρ δ σ2 F ∧ FinS G W ρ R B H2 (sLoop g f (ds.drop (i + 1)) δ a) D, fun σ2 H2 ⟨δ, a, B, F, z⟩ => ⟨ds.length - (i + 1), by omega, δ, a, B, F, rfl, hlt, z⟩, fun x H2 y => ?_⟩
    obtain ⟨B2, w2, sm2, kp2, r2⟩ := v.2.2 i d hd x H2 y
    have os2 : OwnS G B2 H2 ρ δ1 σ1 F1 := OwnS.mono sm2 _ _ _ (fun p hp => kp2 p (List.mem_append_left _ hp)) os1
    have q2 := FinS.base q1 sm2 kp2.right
    unfold sLoop at q2
    cases eg : g d δ1 with
    | none =>
      rw [eg] at q2
      exact q2.elim
    | some δ3 =>
      rw [eg] at q2
      refine s1 ρ R B2 H2 σ1 δ1 δ3 a1 F1 d x _ w2 os2 r2 eg fun B3 σ3 F3 sm3 w3 os3 => s2 ρ R B3 H2 σ3 δ3 a1 F3 _ w3 os3 ?_
      dsimp only at q2
      have q3 := FinS.base q2 sm3 Kp.refl
      cases ef : f δ3 a1 with
      | nx δ4 a4 =>
        rw [ef] at q3
        exact fun B4 H4 σ4 F4 w4 sm4 k4 os4 => ⟨δ4, a4, B4, F4, ((sm1.trans sm2).trans sm3).trans sm4, w4, os4, FinS.base q3 sm4 k4⟩
      | ct δ4 a4 =>
        rw [ef] at q3
        exact fun B4 H4 σ4 F4 w4 sm4 k4 os4 => ⟨δ4, a4, B4, F4, ((sm1.trans sm2).trans sm3).trans sm4, w4, os4, FinS.base q3 sm4 k4⟩
      | bk δ4 a4 =>
        rw [ef] at q3
        exact q3
      | rt m4 a4 =>
        rw [ef] at q3
        exact q3
      | exc k ns es δ4 a4 =>
        rw [ef] at q3
        exact q3
      | stuck =>
        rw [ef] at q3
        exact q3
  · have e : i = ds.length := by omega
    rw [e, List.drop_length] at q1
    rw [e]
    exact .inl ⟨v.2.1, q1 B1 H1 σ1 F1 w1 (Same.refl _) Kp.refl os1⟩
end
theorem pi_either {X : Cx} {tg e : Expr} {w1 w2 : TI} (h1 : PI X tg e w1) (h2 : PI X tg e w2) : PI X tg e (fun σ H R => w1 σ H R ∨ w2 σ H R) := ⟨fun pins s σ H R I h => h.elim (h1.run pins s σ H R I) (h2.run pins s σ H R I)⟩
section
variable {X : Cx} {G : Gx} {W : WX} {tg e : Expr}
def items : D → Option (List D)
  | .lst l => some l
  | .tup l => some l
  | .scr l => some (l.map D.int)
  | .str s => some (s.cps.toList.map fun c => D.str ⟨#[c]⟩)
  | _ => none
def iSeq (f : EV) : EI := fun δ a => (f δ a).opt items
theorem srv_lst {B : Hp} {ρ : List Addr} {p : Addr} {xs : List V} {l : List D} (h : SqL G.K B p xs) (r : Reps G B ρ l xs) : Srv G B ρ (Itl G.K p) l := fun B' H' a' R' sm w => by
  have h' : SqL G.K H' p xs := (sm.trans w.ex).seq h
  have len := r.len
  refine ⟨fun i hi => ?_, ⟨xs, h', by omega⟩, fun i d hd x H'' y => ?_⟩
  · exact ⟨xs, xs[i]'(by omega), h', List.getElem?_eq_getElem (by omega)⟩
  · obtain ⟨rfl, y⟩ := y
    obtain ⟨x', hx, rx⟩ := r.get hd
    have e := y xs h'
    rw [hx] at e
    cases e
    exact ⟨B', w, Same.refl _, Kp.refl, Rep.mono sm d _ rx⟩
theorem srv_tup {B : Hp} {ρ : List Addr} {p : Addr} {xs : List V} {l : List D} (h : SqT G.K B p xs) (r : Reps G B ρ l xs) : Srv G B ρ (Itt G.K p) l := fun B' H' a' R' sm w => by
  have h' : SqT G.K H' p xs := sqt_same (sm.trans w.ex) h
  have len := r.len
  refine ⟨fun i hi => ?_, ⟨xs, h', by omega⟩, fun i d hd x H'' y => ?_⟩
  · exact ⟨xs, xs[i]'(by omega), h', List.getElem?_eq_getElem (by omega)⟩
  · obtain ⟨rfl, y⟩ := y
    obtain ⟨x', hx, rx⟩ := r.get hd
    have e := y xs h'
    rw [hx] at e
    cases e
    exact ⟨B', w, Same.refl _, Kp.refl, Rep.mono sm d _ rx⟩
theorem srv_str {B : Hp} {ρ : List Addr} {s : Str} : Srv G B ρ (Its s) (s.cps.toList.map fun c => D.str ⟨#[c]⟩) := fun B' H' a' R' sm w => by
  refine ⟨fun i hi => by simpa [Its] using hi, by simp [Its], fun i d hd x H'' y => ?_⟩
  obtain ⟨rfl, c, hc, rfl⟩ := y
  refine ⟨B', w, Same.refl _, Kp.refl, ?_⟩
  have e : some d = some (D.str ⟨#[c]⟩) := by
    rw [← hd, List.getElem?_map, Array.getElem?_toList, hc] <;> rfl
  cases e
  exact rfl
theorem di_seq {f : EV} (hK : G.K = X.K) (h : DV X G W e f) : DI X G W tg e false (iSeq f) := by
  obtain ⟨t, p, s⟩ := h.ex
  refine ⟨_, pi_either (pi_list p) (pi_either (pi_tup p) (pi_str p)), fun ρ R B H σ δ a K w sl q => ?_⟩
  rw [← hK]
  unfold iSeq at q
  cases c : f δ a with
  | stuck =>
    rw [c] at q
    exact q.elim
  | exc k ns ds a1 =>
    refine .inl (s ρ R B H σ δ a _ w sl ?_)
    rw [c] at q ⊢
    exact q
  | ok d a1 =>
    rw [c] at q
    cases d with
    | lst l =>
      have q' : Fin G W ρ R B H σ (Out.ok l a1) (fun ds _ B' H' => ∀ J, Srv G (bs false B') ρ J ds → K J H') := q
      refine .inl (s ρ R B H σ δ a _ w sl ?_)
      rw [c]
      intro B' H' w' sm kp v r
      obtain ⟨p, xs, rfl, h1, h2⟩ := r
      exact ⟨p, rfl, ⟨xs, .of (w'.ex _ _ h1)⟩, q' B' H' w' sm kp _ (srv_lst (.of h1) h2)⟩
    | scr l =>
      have q' : Fin G W ρ R B H σ (Out.ok (l.map D.int) a1) (fun ds _ B' H' => ∀ J, Srv G (bs false B') ρ J ds → K J H') := q
      refine .inl (s ρ R B H σ δ a _ w sl ?_)
      rw [c]
      intro B' H' w' sm kp v r
      obtain ⟨p, rfl, h1⟩ := r
      exact ⟨p, rfl, ⟨_, w'.ex.seq h1⟩, q' B' H' w' sm kp _ (srv_lst h1 (Reps.ints.mpr rfl))⟩
    | tup l =>
      have q' : Fin G W ρ R B H σ (Out.ok l a1) (fun ds _ B' H' => ∀ J, Srv G (bs false B') ρ J ds → K J H') := q
      refine .inr (.inl (s ρ R B H σ δ a _ w sl ?_))
      rw [c]
      intro B' H' w' sm kp v r
      obtain ⟨p, xs, rfl, h1, h2⟩ := r
      exact ⟨p, rfl, ⟨xs, sqt_same w'.ex h1⟩, q' B' H' w' sm kp _ (srv_tup h1 h2)⟩
    | str t =>
      have q' : Fin G W ρ R B H σ (Out.ok (t.cps.toList.map fun c => D.str ⟨#[c]⟩) a1) (fun ds _ B' H' => ∀ J, Srv G (bs false B') ρ J ds → K J H') := q
      refine .inr (.inr (s ρ R B H σ δ a _ w sl ?_))
      rw [c]
      intro B' H' w' sm kp v r
      exact ⟨t, r, q' B' H' w' sm kp _ srv_str⟩
    | _ => exact q.elim
def rngL (lo : Int) (n : Nat) : List D := (List.range n).map fun (k : Nat) => D.int (lo + ((k : Nat) : Int))
def big (i : Int) : Bool := decide (-(2 ^ 62) ≤ i ∧ i < 2 ^ 62)
def gRng1 : List D → Option (List D)
  | [.int j] => if big j = true then some (rngL 0 j.toNat) else none
  | _ => none
def gRng2 : List D → Option (List D)
  | [.int i, .int j] => if big i = true ∧ big j = true then some (rngL i (j - i).toNat) else none
  | _ => none
def iRng1 (f : EA) : EI := fun δ a => (f δ a).opt gRng1
def iRng2 (f : EA) : EI := fun δ a => (f δ a).opt gRng2
theorem srv_rng {B : Hp} {ρ : List Addr} {lo : Int} {n : Nat} : Srv G B ρ (Itr lo n) (rngL lo n) := fun B' H' a' R' sm w => by
  refine ⟨fun i hi => by simpa [Itr, rngL] using hi, by simp [Itr, rngL], fun i d hd x H'' y => ?_⟩
  obtain ⟨rfl, rfl⟩ := y
  refine ⟨B', w, Same.refl _, Kp.refl, ?_⟩
  unfold rngL at hd
  rw [List.getElem?_map] at hd
  by_cases hi : i < n
  · rw [List.getElem?_range hi] at hd
    cases hd
    exact rfl
  · rw [List.getElem?_eq_none (by simpa using hi)] at hd
    cases hd
theorem di_range1 {a1 : Expr} {f : EA} {p pos : Pos} (hg : Gl X "range") (hm : X.mg "range" = none) (h : DA X G W [a1] f) (hs : starEach [a1] X.env = [(false, eval a1 X.env)] := by rfl) : DI X G W tg (.Call (.Name "range" p) [a1] [] pos) true (DL.iRng1 f) := by
  obtain ⟨t, pa, s⟩ := h.ex
  refine ⟨_, pi_range1 hg hm pa hs, fun ρ R B H σ δ a K w sl q => s ρ R B H σ δ a _ w sl (Fin.imp (Fin.seqo q) fun ds a' B' H' w' sm kp q1 vs r => ?_)⟩
  obtain ⟨l, e, q2⟩ := q1
  match ds, e, r with
  | [.int j], e, r =>
    obtain ⟨x, r', rfl, hx, r2⟩ := r
    have hx' : x = .int j := hx
    have r2' : r' = [] := r2
    subst hx' r2'
    have e' : (if big j = true then some (rngL 0 j.toNat) else none) = some l := e
    by_cases hb : big j = true
    · rw [if_pos hb] at e'
      cases e'
      have z := of_decide_eq_true hb
      exact ⟨j, rfl, z.1, z.2, q2 _ srv_rng⟩
    · rw [if_neg hb] at e'
      cases e'
end
end DL
namespace DL
open PySem PySem.Spec PyProof.Rows L2
abbrev FM := List D → Sto → Out M
def spD (G : Gx) (g : FM) (n : Nat) : Sp := fun vs H Q E => vs.length = n ∧ ∃ (ρ R : List Addr) (B : Hp) (ds : List D) (a : Sto), Wd G B H ρ a R ∧ Reps G B ρ ds vs ∧ FinM G (fun cls d _ H => E cls d H) ρ R B H [] (g ds a) (fun _ _ _ H' v _ => Q v H')
def ent (n : Nat) (ds : List D) : SlM := ds.map (fun d => some (.val d)) ++ List.replicate (n - ds.length) none
def bodyM (m n : Nat) (f : SM) : FM := fun ds a => if ds.length = m then (match f (ent n ds) a with
  | .nx _ a' => .ok (.val .non) a'
  | .rt r a' => .ok r a'
  | .exc c ns es _ a' => .exc c ns es a'
  | _ => .stuck) else .stuck
section
variable {G : Gx} {B H : Hp} {ρ : List Addr}
theorem OwnS.nones : ∀ k : Nat, OwnS G B H ρ (List.replicate k none) (List.replicate k none) []
  | 0 => ⟨rfl, rfl⟩
  | k + 1 => ⟨none, List.replicate k none, rfl, OwnS.nones k⟩
theorem OwnS.ent : ∀ {ds : List D} {vs : List V} {k : Nat}, Reps G B ρ ds vs → OwnS G B H ρ (ds.map (fun d => some (.val d)) ++ List.replicate k none) (vs.map some ++ List.replicate k none) []
  | [], vs, k, r => by
    have e : vs = [] := r
    rw [e]
    exact OwnS.nones k
  | d :: ds, vs, k, r => by
    obtain ⟨x, t, rfl, h1, h2⟩ := r
    exact ⟨x, t.map some ++ List.replicate k none, [], [], rfl, rfl, ⟨rfl, h1⟩, OwnS.ent h2⟩
end
theorem fn_ok {P : Program} {w : World} {K : PySem.W.Frag} {mg : Str → Option Value} {base : Heap} {G : Gx} {x qual : Str} {st : Stmt} {f : Addr} {fd : FuncData} {N ps : List Str} {k : Nat} {g : SM} (F : Fun K x qual st f fd) (S : FnScope N ps (defScope st))
    (hb : ∀ (cdv : Value) (A : Around) (outer : List Env) (s : Shared) (H : Hp) (E : XK), Room k (A.deeper (envOfC qual (defScope st) s.heap.objs.size f cdv)) →
      DSs (cxOf (L2.CX P w) P w K mg base N qual (defScope st) f cdv A outer s H E) G (fun cls d _ H => E cls d H) (defBody st) g) :
    FnOk P w K mg base (L2.CX P w) (k + 1) f fd ps (spD G (bodyM ps.length N.length g) ps.length) := by
  refine F.okX S (fun vs H Q E h => h.1) (fun cdv A outer s H vs Q E hr h => ?_)
  obtain ⟨t, p, so⟩ := (hb cdv A outer s H E hr).ex
  refine ⟨t, p, ?_⟩
  obtain ⟨hl, ρ, R, B, ds, a, w, r, q⟩ := h
  have len := r.len
  unfold bodyM at q
  rw [if_pos (by rw [len]; exact hl)] at q
  have os : OwnS G B H ρ (ent N.length ds) (L2.start N vs) [] := by
    unfold ent L2.start
    rw [len]
    exact OwnS.ent r
  refine so ρ R B H (L2.start N vs) (ent N.length ds) a [] _ w os ?_
  cases c : g (ent N.length ds) a with
  | nx δ a' =>
    rw [c] at q
    exact fun B' H' σ' F' w' sm kp os' => q B' H' .non [] w'.drop sm kp ⟨rfl, rfl⟩
  | rt m a' =>
    rw [c] at q
    exact fun B' H' v F' w' sm kp om => q B' H' v F' w' sm kp om
  | exc cc ns es δ a' =>
    rw [c] at q
    exact fun B' H' σ' dd F' w' sm kp x os' => q B' H' dd w'.drop sm kp x
  | bk δ a' =>
    rw [c] at q
    exact q.elim
  | ct δ a' =>
    rw [c] at q
    exact q.elim
  | stuck =>
    rw [c] at q
    exact q.elim
abbrev HeadP (X : Cx) (e : Expr) (es : List Expr) : Prop := starEach (e :: es) X.env = (false, eval e X.env) :: starEach es X.env
abbrev RestP (X : Cx) (pos : Pos) (es : List Expr) : Prop := (backTo pos (starEach es X.env)).any (·.1) = false
abbrev NotDbg (x : Str) : Prop := (x == ("__debug__" : Str)) = false
structure DefD (P : Program) (w : World) (K : PySem.W.Frag) (mg : Str → Option Value) (base : Heap) (G : Gx) (x : Str) (k n : Nat) (g : FM) : Prop where
  ex : ∃ (f : Addr) (fd : FuncData) (ps : List Str), ps.length = n ∧ FnOk P w K mg base (L2.CX P w) k f fd ps (spD G g n) ∧ mg x = some (.ref f) ∧ PySem.W.keepIn K (.ref f) = true ∧ Binds K fd ps []
section
variable {X : Cx} {G : Gx} {W : WX} {x : Str} {k n : Nat} {g : FM} {e : Expr} {es : List Expr} {p pos : Pos}
def callM (n : Nat) (g : FM) (fa : EA) : EM := fun δ a => (fa δ a).bind fun ds a1 => if ds.length = n then g ds a1 else .stuck
theorem FinM.wx {W W' : WX} {ρ R : List Addr} {B H : Hp} {σ σ' : L2.St} {o : Out M} {k : M → Sto → Hp → Hp → V → List Addr → Prop} (h : FinM G W ρ R B H σ o k) (i : ∀ c d H, W c d σ H → W' c d σ' H) : FinM G W' ρ R B H σ' o k := by
  cases o with
  | ok m a => exact h
  | exc c ns ds a => exact fun B' H' dd w s kp x => i _ _ _ (h B' H' dd w s kp x)
  | stuck => exact h
theorem MOk.call {t : TA} {fa : EA} (s : AOk G W t fa) : MOk G W (tCallSD (spD G g n) [] (WE W) t) (callM n g fa) := fun ρ R B H σ δ a Q w sl q =>
  s ρ R B H σ δ a _ w sl (Fin.imp (Fin.seqM q) fun ds a1 B1 H1 w1 s1 k1 q1 vs r => by
    by_cases hl : ds.length = n
    · rw [if_pos hl] at q1
      rw [List.append_nil]
      exact ⟨by rw [← r.len]; exact hl, ρ, R, B1, ds, a1, w1, r, FinM.wx q1 fun c d H z => z⟩
    · rw [if_neg hl] at q1
      exact q1.elim)
theorem dm_call {fa : EA} (F : DefD X.prog X.w X.K X.mg X.base G x k n g) (hr : Room k X.A) (tk : Takes X W) (ha : DA X G W (e :: es) fa) (hg : Gl X x := by rfl)
    (hdb : NotDbg x := by decide) (he : HeadP X e es := by rfl) (hpl : RestP X pos es := by rfl) :
    DM X G W (.Call (.Name x p) (e :: es) [] pos) (callM n g fa) := by
  obtain ⟨t, pa, s⟩ := ha.ex
  obtain ⟨f, fd, ps, hn, FF, hm, hk, hb⟩ := F.ex
  exact ⟨_, pe_callSD FF hr hg hm hk hb .nil (fun σ => passAt tk σ) pa hdb he hpl, MOk.call s⟩
structure MethD (P : Program) (w : World) (K : PySem.W.Frag) (mg : Str → Option Value) (base : Heap) (G : Gx) (c : Nat) (m : Str) (k n : Nat) (g : FM) : Prop where
  ex : ∃ (f : Addr) (fd : FuncData) (ps : List Str), ps.length = n ∧ FnOk P w K mg base (L2.CX P w) k f fd ps (spD G g n) ∧ Cls K (G.T c) ∧ Meth K (G.T c) m f ∧ Binds K fd ps []
theorem AOk.nil : AOk G W tNil aNil := fun ρ R B H σ δ a Q w sl q => q.here w _ Reps.nil
end
end DL
namespace DX
open PySem PySem.W PySem.Calls PyProof.Rows PySem.HandSPX
structure Txt (prog : Program) (K : Frag) (mg : Str → Option Value) (C fI : Addr) (cn qual msg : Str) (fs : List Str) (st : Stmt) : Prop where
  gC : mg cn = some (.ref C)
  cls : ∃ nm q N bs bm sn sub ab col dd k0 k1 k2 k3 k5, K.lookup C = some (excClassObj nm q C N bs bm true sn sub ab col dd k0 k1 k2 k3 k5 "ValueError.__new__") ∧ refsVE bm = true
  sa : findIn K (.ref C) "__setattr__" = some (some (.builtin "object.__setattr__"))
  noN : ∀ f ∈ fs, findIn K (.ref C) f = some none
  iC : findIn K (.ref C) "__init__" = some (some (.ref fI))
  tC : typeIn K (.ref fI) = some (.type "function")
  kC : keepIn K (.ref C) = true
  exC : subIn K (.ref C) (.type "BaseException") = some true
  veC : subIn K (.ref C) (.type "ValueError") = some true
  meC : mroIn K C (.ref C) = some true
  tyC : typeIn K (.ref C) = some (.type "type")
  su : ks_superIn K C C "__init__" = some (some (.builtin "ValueError.__init__"))
  op : nsIn K cStatics "thirdparty.any" = some none
  ms : mg "super" = none
  top : (prog.main.scope.names.lookup ("super" : Str)).isSome = false
  fn : ∃ (oc : Value) (od : Option Addr) (kV doc pm : Value) (an : Option Addr) (cda cc : Addr) (ct : Value) (osl : Array (Option Value)),
    K.lookup fI = some ⟨oc, od, .func (fnX "__init__" qual (L2.defArgs st) (L2.defBody st) (L2.defScope st) [("__class__", cc)] .none kV doc pm an (.ref cda) ct), osl⟩ ∧ codeIn K (.ref cda) qual = true ∧
    (∃ ccl cdd vs ccs file tf, K.lookup cda = some ⟨ccl, cdd, .fields vs, ccs⟩ ∧ vs[2]? = some (.str file tf) ∧ ((prog.main.file : Str) == file) = true) ∧
    (∃ cl cld csl, K.lookup cc = some ⟨cl, cld, .cell (some (.ref C)), csl⟩)
  sc : (L2.defScope st).kind = .function ∧ (L2.defScope st).isCoroutine = false ∧ (L2.defScope st).isGenerator = false ∧ (∀ x ∈ (L2.defScope st).names, x.2 ≠ .cell) ∧ (L2.defScope st).names.lookup ("super" : Str) = some .globalImplicit ∧ (L2.defScope st).names.lookup ("__class__" : Str) = some .free ∧
    (L2.defScope st).names.lookup ("self" : Str) = some .local ∧ ∀ f ∈ fs, (L2.defScope st).names.lookup f = some .local
  bnd : ∀ (cc : Addr) (kV doc pm : Value) (an : Option Addr) (cdv ct : Value) (us : List Value), us.length = fs.length + 1 → bindArgs (fnX "__init__" qual (L2.defArgs st) (L2.defBody st) (L2.defScope st) [("__class__", cc)] .none kV doc pm an cdv ct) ⟨us, []⟩ = pure ((("self" : Str) :: fs).zip us)
  nd : fs.Nodup ∧ ("self" : Str) ∉ fs ∧ fs.length ≤ 9 ∧ fs ≠ [] ∧ ∀ f ∈ fs, (f == ("__debug__" : Str)) = false
  body : ∃ (q1 q2 q3 q4 q5 q6 : Pos) (j : Nat) (rs : List (Pos × Pos × Pos × Pos)), (q3.endLine == q5.line) = true ∧ rs.length = fs.length ∧
    L2.defBody st = .Expr (.Call (.Attribute (.Call (.Name "super" q1) [] [] q2) "__init__" q3) [.Constant (.str msg) j q4] [] q5) q6 ::
      (fs.zip rs).map fun p => .Assign [.Attribute (.Name "self" p.2.1) p.1 p.2.2.1] (.Name p.1 p.2.2.2.1) p.2.2.2.2
  hd : ((L2.defArgs st).posonlyargs ++ (L2.defArgs st).args).head?.map (·.arg) = some ("self" : Str)
structure Top (mg : Str → Option Value) (h : Heap) : Prop where
  glob : h.Ns mainGlobals mg
  blt : ∃ mb, h.Ns builtinsNs mb ∧ ∀ x : Str, x ≠ "__name__" → mb x = bootBuiltins x
theorem Top.keeps {mg : Str → Option Value} {h h' : Heap} (T : Top mg h) (k : ∀ b o, h.get? b = some o → h'.get? b = some o) : Top mg h' := ⟨T.glob.keeps k, by
  obtain ⟨mb, h1, h2⟩ := T.blt
  exact ⟨mb, h1.keeps k, h2⟩⟩
section
variable {prog : Program} {w : World} {A : Around} {E : Value → Shared → Prop} {s : Shared} {K : Frag} {mg : Str → Option Value} {C fI : Addr} {cn qual msg : Str} {fs : List Str} {st : Stmt}
theorem boot_super : bootBuiltins "super" = some (.type "super") := by first | boot_by_name | rfl | kernel_rfl
theorem init_bound {h : Heap} {g : Array GenState} {d : Drawn} {t : Nat} {os : OsState} {u x C t0 N : Addr} {nm q : Str} {bs bm : List Value} {sn : List Str} {sub : List Value} {ab : Bool} {col : Option Bool} {dd : Option Addr} {k0 k1 k2 k3 k5 : Option Value} {args : List Value} {Q : Value → Shared → Prop}
    (hC : h.get? C = some (excClassObj nm q C N bs bm true sn sub ab col dd k0 k1 k2 k3 k5 "ValueError.__new__")) (he : h.get? x = some (excO C t0)) (hu : h.get? u = some (kxs_mw "ValueError.__init__" x)) (hz : args.length ≤ sizeLine)
    (fin : ∀ h', (∀ b o, b ≠ x → h.get? b = some o → h'.get? b = some o) → h'.get? x = some (excO C h.objs.size) → Q .none ⟨h', g, d, t, os⟩) : wpAny (model prog w) A (call (.ref u) args) Q E ⟨h, g, d, t, os⟩ := by
  apply wpAny_call
  apply codeAny_of_tree
  change wpAny _ A.in1 (callAny (.ref u) ⟨args, []⟩) _ _ _
  unfold callAny
  apply wpAny_bind
  apply wpAny_load hu
  have isW : (Value.type "method-wrapper" == Value.type "method-wrapper") = true := by decide
  dsimp only [kxs_mw]
  rw [isW, Bool.or_true, if_pos rfl]
  change wpAny (model prog w) A.in1 (if (Value.type "method-wrapper" != Value.type "method") = true then (checkBoundCall "ValueError.__init__" ⟨.ref x :: args, []⟩ >>= fun _ => again (.builtin "ValueError.__init__" ⟨.ref x :: args, []⟩)) else _) _ _ _
  rw [if_pos (by decide)]
  refine wpAny_bind (check_bound_init F.excBase_ValueError.toExcCallFacts hC he rfl (wpAny_pure ?left))
  refine And.intro (plainId_quiet F.excBase_ValueError.init.plain _) (codeAny_builtin F.excBase_ValueError.initEntry ?run)
  case run => exact exc_init_tree (cls := .ref C) (t0 := t0) (dv := none) (c2 := .none) (c3 := .none) (b4 := .bool false) he hz fun h' keep obj _ => fin h' keep obj
theorem sup_stmt (T : Txt prog K mg C fI cn qual msg fs st) (P : Top mg s.heap) (X : K.In s.heap) {cda cc : Addr} {body : List Stmt} {L x t0 : Addr} {m : Str → Option Value} {q1 q2 q3 q4 q5 q6 : Pos} {j : Nat} {Q : Flow → Shared → Prop}
    {oc : Value} {od : Option Addr} {kV doc pm : Value} {an : Option Addr} {ct : Value} {osl : Array (Option Value)}
    (ho : K.lookup fI = some ⟨oc, od, .func (fnX "__init__" qual (L2.defArgs st) (L2.defBody st) (L2.defScope st) [("__class__", cc)] .none kV doc pm an (.ref cda) ct), osl⟩)
    (hcode : ∃ ccl cdd vs ccs file tf, K.lookup cda = some ⟨ccl, cdd, .fields vs, ccs⟩ ∧ vs[2]? = some (.str file tf) ∧ ((prog.main.file : Str) == file) = true)
    (hcell : ∃ cl cld csl, K.lookup cc = some ⟨cl, cld, .cell (some (.ref C)), csl⟩)
    (hl : (q3.endLine == q5.line) = true) (hn : s.heap.Ns L m) (hself : m "self" = some (.ref x)) (hx : s.heap.get? x = some (excO C t0)) (hxC : x ≠ C)
    (hq : ∀ h' tk t1, (∀ b o, b ≠ x → s.heap.get? b = some o → h'.get? b = some o) → h'.get? x = some (excO C t1) → Q .next { s with heap := h', toks := tk }) :
    _root_.PySem.wpAt (model prog w) A (.func body (envX qual (L2.defScope st) L fI (.ref cda) [("__class__", cc)]))
      (exec (.Expr (.Call (.Attribute (.Call (.Name "super" q1) [] [] q2) "__init__" q3) [.Constant (.str msg) j q4] [] q5) q6) (envX qual (L2.defScope st) L fI (.ref cda) [("__class__", cc)])) Q E s := by
  obtain ⟨ccl, cdd, vs, ccs, file, tf, hc1, hvs, hfile⟩ := hcode
  obtain ⟨cl, cld, csl, hcl⟩ := hcell
  obtain ⟨nm, q, N, bs, bm, sn, sub, ab, col, dd, k0, k1, k2, k3, k5, hC, hbm⟩ := T.cls
  obtain ⟨sk, _, _, _, ss, sf, sl, _⟩ := T.sc
  obtain ⟨mb, hb1, hb2⟩ := P.blt
  have hcd : clsIn K C = some { name := nm, bases := bs, mro := .ref C :: bm, ns := N, qualname := q, hasDict := true, slotNames := sn, subclasses := sub, abstract := ab, collection := col, hasDel := false } := by unfold clsIn; rw [hC] <;> rfl
  obtain ⟨ar, har, earg⟩ : ∃ ar, ((L2.defArgs st).posonlyargs ++ (L2.defArgs st).args).head? = some ar ∧ ar.arg = ("self" : Str) := by
    have z := T.hd
    cases e : ((L2.defArgs st).posonlyargs ++ (L2.defArgs st).args).head? with
    | none =>
      rw [e] at z
      cases z
    | some ar =>
      rw [e] at z
      exact ⟨ar, rfl, Option.some.inj z⟩
  have hD := X _ _ hC
  refine ks_wpAt_Expr_any ?_ (by unfold interactive; rw [show (envX qual (L2.defScope st) L fI (.ref cda) [("__class__", cc)]).scope.kind = .function from sk] <;> rfl) rfl
  refine ks_wpAt_MethodCall (pl := do return (← importBound (.Call (.Name "super" q1) [] [] q2) (envX qual (L2.defScope st) L fI (.ref cda) [("__class__", cc)])).getD true) ?_ (by
    rw [arm_eval_Call]
    unfold methodCall methodCallPos calleeOf
    have few : methodCallForm ([Expr.Constant (.str msg) j q4].length + ([] : List Keyword).length) (backTo q5 (starEach [Expr.Constant (.str msg) j q4] (envX qual (L2.defScope st) L fI (.ref cda) [("__class__", cc)]))) (backToKw q5 (keywordEach [] (envX qual (L2.defScope st) L fI (.ref cda) [("__class__", cc)]))) = true := rfl
    rw [few, hl]
    rfl)
  refine ks_wpAt_super_base ss sf (by decide) rfl (X _ _ ho) rfl har rfl (X _ _ hc1) rfl hvs hfile T.top ?_
  refine ks_loadName_global sk ss (loadGlobal_builtin P.glob T.ms hb1 ((hb2 _ (by decide)).trans boot_super) ⟨rfl, ?_⟩)
  refine wpAny_loadName_free sk sf rfl ⟨_, X _ _ hcl, rfl⟩ ?_
  rw [earg]
  refine wpAny_loadName_local sk sl hn hself ?_
  refine ks_wpAny_isType_cls hD rfl ⟨rfl, ?_⟩
  obtain ⟨hh, g, d, t, os⟩ := s
  refine ks_wpAny_call_super hD rfl hx rfl (fun c e => by cases e) (looks_mroIn X T.meC) (fun h1 e1 k1 => ?_)
  have X1 : K.In h1 := X.keeps k1
  have J1 : InstAt h1 x (excO C t0) C none := ⟨k1 _ _ hx, rfl, rfl, trivial⟩
  have hI : Looks (model prog w) h1 (isInstance (.ref x) (.type "ValueError")) true := J1.type.andThen (looks_subIn X1 T.veC)
  have hm := T.su
  unfold ks_superIn at hm
  rw [hcd] at hm
  refine kxs_getMethod kxs_ValueError e1 (looks_opaque X1 T.op) (l₀ := .ref C :: bm) ?_ rfl X1 hm hI hxC (by decide) ?_
  · exact fun A Q E s k q => wpAny_bind ((looks_clsIn X1 hcd) A _ E s k (wpAny_pure q))
  have hu : (h1.push (kxs_mw "ValueError.__init__" x)).get? h1.objs.size = some (kxs_mw "ValueError.__init__" x) := Heap.get?_push_at rfl rfl
  have k2 : ∀ b o, h1.get? b = some o → (h1.push (kxs_mw "ValueError.__init__" x)).get? b = some o := fun b o e => Heap.get?_push_of_some _ e
  refine kxs_callWith (i := "ValueError.__init__") (x := x) rfl (evalArgs_plain ?_)
  show wpAny _ _ (spliced ((false, eval (.Constant (.str msg) j q4) (envX qual (L2.defScope st) L fI (.ref cda) [("__class__", cc)])) :: backTo q5 [])) _ _ _
  refine spliced_cons (Constant_str (spliced_nil ⟨hu, ?_⟩))
  show wpAny _ _ (call (.ref h1.objs.size) [.str msg (t + 1)]) _ _ _
  refine init_bound (C := C) (hC := k2 _ _ (k1 _ _ hD)) (he := k2 _ _ (k1 _ _ hx)) (hu := hu) (by show 1 ≤ sizeLine; rw [sizeLine_eq]; omega) fun h' k3 e3 => ?_
  exact hq h' _ _ (fun b o hb e => k3 b o hb (k2 b o (k1 b o e))) e3
def putAll (m0 : Str → Option Value) : List (Str × Value) → Str → Option Value
  | [] => m0
  | (f, v) :: r => putAll (fun y => if y = f then some v else m0 y) r
structure InitEnd (h h' : Heap) (x C dx t1 : Addr) (M : Str → Option Value) : Prop where
  keep : ∀ b o, b ≠ x → h.get? b = some o → h'.get? b = some o
  obj : h'.get? x = some { cls := .ref C, dict := some dx, data := .fields #[.ref t1, .none, .none, .none, .bool false, .none] }
  dbig : h.objs.size ≤ dx
  dne : dx ≠ x
  ns : h'.Ns1 dx M
theorem kept_but {K : Frag} {h h' : Heap} {x : Addr} (X : K.In h) (hx : K.lookup x = none) (k : ∀ b o, b ≠ x → h.get? b = some o → h'.get? b = some o) : K.In h' := fun a o e =>
  k a o (fun z => by rw [z, hx] at e; cases e) (X a o e)
theorem ns_at {h h' : Heap} {L : Addr} {m : Str → Option Value} (hn : h.Ns L m) (k : ∀ o, h.get? L = some o → h'.get? L = some o) : h'.Ns L m := by
  obtain ⟨oL, es, ep, hL, r⟩ := hn
  exact ⟨oL, es, ep, k _ hL, r⟩
theorem stores (T : Txt prog K mg C fI cn qual msg fs st) {cda cc : Addr} {L x t1 dx : Addr} {m : Str → Option Value} :
    ∀ (fr : List Str) (vs : List Value) (rs : List (Pos × Pos × Pos × Pos)) (s : Shared) (M : Str → Option Value) (nl : List Str) (Q : Flow → Shared → Prop), rs.length = fr.length → vs.length = fr.length → (∀ f ∈ fr, f ∈ fs) → K.In s.heap → K.lookup x = none → K.lookup dx = none → s.heap.Ns L m → L ≠ x → L ≠ dx →
      m "self" = some (.ref x) → (∀ p ∈ fr.zip vs, m p.1 = some p.2) → s.heap.get? x = some { cls := .ref C, dict := some dx, data := .fields #[.ref t1, .none, .none, .none, .bool false, .none] } → dx ≠ x → s.heap.Ns1 dx M → Within M nl → nl.length + fr.length ≤ 1000 →
      (∀ h' tk, (∀ b o, b ≠ dx → s.heap.get? b = some o → h'.get? b = some o) → h'.Ns1 dx (putAll M (fr.zip vs)) → Q .next { s with heap := h', toks := tk }) →
      wpAny (model prog w) A (execs ((fr.zip rs).map fun p => Stmt.Assign [.Attribute (.Name "self" p.2.1) p.1 p.2.2.1] (.Name p.1 p.2.2.2.1) p.2.2.2.2) (envX qual (L2.defScope st) L fI (.ref cda) [("__class__", cc)])) Q E s
  | [], vs, rs, s, M, nl, Q, h1, h2, h3, X, nx, nd, hn, lx, ld, hs, hv, hx, dne, hM, hW, hz, hq => by
    have e1 : rs = [] := List.length_eq_zero_iff.mp h1
    have e2 : vs = [] := List.length_eq_zero_iff.mp h2
    subst e1 e2
    exact wpAny_execs_nil (hq s.heap s.toks (fun _ _ _ e => e) hM)
  | f :: fr, [], rs, s, M, nl, Q, h1, h2, h3, X, nx, nd, hn, lx, ld, hs, hv, hx, dne, hM, hW, hz, hq => by simp at h2
  | f :: fr, v :: vs, [], s, M, nl, Q, h1, h2, h3, X, nx, nd, hn, lx, ld, hs, hv, hx, dne, hM, hW, hz, hq => by simp at h1
  | f :: fr, v :: vs, (r1, r2, r3, r4) :: rs, s, M, nl, Q, h1, h2, h3, X, nx, nd, hn, lx, ld, hs, hv, hx, dne, hM, hW, hz, hq => by
    obtain ⟨nm, q, N, bs, bm, sn, sub, ab, col, dd, k0, k1, k2, k3, k5, hC, hbm⟩ := T.cls
    obtain ⟨sk, _, _, _, _, _, sl, sfs⟩ := T.sc
    have hcd : clsIn K C = some { name := nm, bases := bs, mro := .ref C :: bm, ns := N, qualname := q, hasDict := true, slotNames := sn, subclasses := sub, abstract := ab, collection := col, hasDel := false } := by unfold clsIn; rw [hC] <;> rfl
    have hf : f ∈ fs := h3 f List.mem_cons_self
    have hmf : m f = some v := hv (f, v) List.mem_cons_self
    show wpAny (model prog w) A (execs (Stmt.Assign [.Attribute (.Name "self" r1) f r2] (.Name f r3) r4 :: (fr.zip rs).map fun p => Stmt.Assign [.Attribute (.Name "self" p.2.1) p.1 p.2.2.1] (.Name p.1 p.2.2.2.1) p.2.2.2.2) _) Q E s
    refine wpAny_execs_cons (plainObj_wpAny_Assign_Attribute ?_)
    refine wpAny_Name (wpAny_loadName_local sk (sfs f hf) hn hmf ?_) (T.nd.2.2.2.2 f hf)
    refine wpAny_Name (wpAny_loadName_local sk sl hn hs ?_) (by decide)
    obtain ⟨oD, esD, epD, hoD, hdD, _⟩ := hM.count hW
    obtain ⟨hp, g, d, t, os⟩ := s
    refine set_plain X (ox := { cls := .ref C, dict := some dx, data := .fields #[.ref t1, .none, .none, .none, .bool false, .none] }) (od := some oD) ⟨hx, rfl, rfl, hoD⟩ T.sa ?_
    refine PySem.OEX.osa_old X hx hM hW (by rw [List.length_cons] at hz; omega) hcd (show refsVE (.ref C :: bm) = true from hbm) rfl (T.noN f hf) (fun h' tk' k hn' => ?_)
    have kx := k _ _ (Ne.symm dne) hx
    refine stores T fr vs rs ⟨h', g, d, tk', os⟩ _ (f :: nl) Q (by simpa using h1) (by simpa using h2) (fun y hy => h3 y (List.mem_cons_of_mem _ hy)) (kept_but X nd k) nx nd (ns_at hn fun o e => k L o ld e) lx ld hs (fun p hp => hv p (List.mem_cons_of_mem _ hp)) kx dne hn' (Within.cons f v hW) (by rw [List.length_cons] at hz ⊢; omega) fun h2 tk2 kk hn2 => ?_
    exact hq h2 tk2 (fun b o hb e => kk b o hb (k b o hb e)) hn2
theorem lk {β : Type} : ∀ {l : List (Str × β)} {p : Str × β}, (l.map (·.1)).Nodup → p ∈ l → l.lookup p.1 = some p.2
  | [], p, _, h => absurd h (by simp)
  | (y, v) :: l, p, nd, h => by
    rw [List.lookup_cons]
    rcases List.mem_cons.mp h with e | h
    · subst e
      rw [beq_self_eq_true]
    · have ne : (p.1 == y) = false := by
        rw [beq_eq_false_iff_ne]
        intro e
        have n := (List.nodup_cons.mp nd).1
        exact n (e ▸ List.mem_map_of_mem (f := (·.1)) h)
      rw [ne]
      exact lk (List.nodup_cons.mp nd).2 h
theorem lkr {β : Type} {l : List (Str × β)} {p : Str × β} (nd : (l.map (·.1)).Nodup) (h : p ∈ l) : l.reverse.lookup p.1 = some p.2 :=
  lk (by rw [List.map_reverse]; exact (List.reverse_perm _).nodup_iff.mpr nd) (List.mem_reverse.mpr h)
theorem zip_fst {β : Type} : ∀ {l : List Str} {vs : List β}, vs.length = l.length → (l.zip vs).map (·.1) = l
  | [], [], _ => rfl
  | x :: l, v :: vs, h => by
    rw [List.zip_cons_cons, List.map_cons, zip_fst (by simpa using h)]
  | [], v :: vs, h => by simp at h
  | x :: l, [], h => by simp at h
theorem init_all (T : Txt prog K mg C fI cn qual msg fs st) {x t0 : Addr} {vs : List Value} (X : K.In s.heap) (P : Top mg s.heap) (hlim : s.heap.NoLimit) (hx : s.heap.get? x = some (excO C t0)) (hnx : K.lookup x = none) (hroom : A.depth < recursionLimit) (hl : vs.length = fs.length) {R : Result → Shared → Prop}
    (hq : ∀ h' tk dx t1, InitEnd s.heap h' x C dx t1 (putAll (fun _ => none) (fs.zip vs)) → R (.ok (.ret .none)) { s with heap := h', toks := tk }) :
    codeAny (model prog w) A (.call (.ref fI) ⟨.ref x :: vs, []⟩) R s := by
  obtain ⟨f, fr, rfl⟩ : ∃ f fr, fs = f :: fr := List.exists_cons_of_ne_nil T.nd.2.2.2.1
  obtain ⟨v, vs', rfl⟩ : ∃ v vs', vs = v :: vs' := List.exists_cons_of_ne_nil (fun z => by rw [z] at hl; simp at hl)
  obtain ⟨oc, od, kV, doc, pm, an, cda, cc, ct, osl, ho, hcr, hcode, hcell⟩ := T.fn
  obtain ⟨sk, sco, sge, scl, ss, sf, sl, sfs⟩ := T.sc
  obtain ⟨nd1, nd2, nd3, nd4, nd5⟩ := T.nd
  have ndk : ((((("self" : Str) :: f :: fr).zip (Value.ref x :: v :: vs'))).map (·.1)).Nodup := by
    rw [zip_fst (by simp [hl])]
    exact List.nodup_cons.mpr ⟨nd2, nd1⟩
  obtain ⟨q1, q2, q3, q4, q5, q6, j, rs, hline, hrs, hbody⟩ := T.body
  obtain ⟨⟨r1, r2, r3, r4⟩, rs', rfl⟩ : ∃ r rs', rs = r :: rs' := List.exists_cons_of_ne_nil (fun z => by rw [z] at hrs; simp at hrs)
  obtain ⟨nm, q, N, bs, bm, sn, sub, ab, col, dd, k0, k1, k2, k3, k5, hC, hbm⟩ := T.cls
  have hcd : clsIn K C = some { name := nm, bases := bs, mro := .ref C :: bm, ns := N, qualname := q, hasDict := true, slotNames := sn, subclasses := sub, abstract := ab, collection := col, hasDel := false } := by unfold clsIn; rw [hC] <;> rfl
  refine ks_codeAny_call_defAt (fd := fnX "__init__" qual (L2.defArgs st) (L2.defBody st) (L2.defScope st) [("__class__", cc)] .none kV doc pm an (.ref cda) ct) (body := _) (binds := ((("self" : Str) :: f :: fr).zip (Value.ref x :: v :: vs'))) hroom (X _ _ ho) rfl hlim (codeRec_of X hcr) (congrArg _ hbody)
    (BindsTo.of_eq (T.bnd cc kV doc pm an (.ref cda) ct (.ref x :: v :: vs') (by simp [hl]))) scl (fun y hy => ?_) (fun h1 hns kk => ?_) sco sge sk
  · rcases List.mem_cons.mp (show y ∈ (("self" : Str), Value.ref x) :: (f :: fr).zip (v :: vs') from hy) with e | h
    · rw [e]
      exact sl
    · exact sfs _ (List.of_mem_zip h).1
  · have hself : (((("self" : Str) :: f :: fr).zip (Value.ref x :: v :: vs'))).reverse.lookup ("self" : Str) = some (.ref x) := lkr (p := (("self" : Str), Value.ref x)) ndk List.mem_cons_self
    have hvs : ∀ p ∈ (f :: fr).zip (v :: vs'), (((("self" : Str) :: f :: fr).zip (Value.ref x :: v :: vs'))).reverse.lookup p.1 = some p.2 := fun p hp => lkr ndk (List.mem_cons_of_mem _ hp)
    have hxL : s.heap.objs.size ≠ x := Nat.ne_of_gt (Heap.lt_size hx)
    have hCx : x ≠ C := fun z => by
      rw [z, hC] at hnx
      cases hnx
    refine ks_wpAt_execs_cons (sup_stmt T (P.keeps kk) (X.keeps kk) ho hcode hcell hline hns hself (kk _ _ hx) hCx fun h2 tk2 t1 k2 hx2 => ?_)
    refine wpAt_of_wpAny ?_
    have X2 : K.In h2 := kept_but (X.keeps kk) hnx k2
    have hns2 := ns_at hns fun o e => k2 _ o hxL e
    show wpAny (model prog w) _ (execs (Stmt.Assign [.Attribute (.Name "self" r1) f r2] (.Name f r3) r4 :: (fr.zip rs').map fun p => Stmt.Assign [.Attribute (.Name "self" p.2.1) p.1 p.2.2.1] (.Name p.1 p.2.2.2.1) p.2.2.2.2) _) _ _ _
    refine wpAny_execs_cons (plainObj_wpAny_Assign_Attribute ?_)
    refine wpAny_Name (wpAny_loadName_local sk (sfs f List.mem_cons_self) hns2 (hvs (f, v) List.mem_cons_self) ?_) (nd5 f List.mem_cons_self)
    refine wpAny_Name (wpAny_loadName_local sk sl hns2 hself ?_) (by decide)
    obtain ⟨hp, g, d, t, os⟩ := s
    refine set_plain X2 (ox := excO C t1) (od := none) ⟨hx2, rfl, rfl, trivial⟩ T.sa ?_
    refine exc_osa X2 hx2 hcd (show refsVE (.ref C :: bm) = true from hbm) rfl (T.noN f List.mem_cons_self) (fun h3 tk3 dx k3 dn dne hx3 hn3 => ?_)
    have z0 : hp.objs.size < h2.objs.size := hns2.lt
    have hdx : K.lookup dx = none := by
      cases e : K.lookup dx with
      | none => rfl
      | some o => exact absurd (Heap.lt_size (X2 _ _ e)) (Nat.not_lt.mpr dn)
    have ldx : hp.objs.size ≠ dx := Nat.ne_of_lt (Nat.lt_of_lt_of_le z0 dn)
    have hns3 := ns_at hns2 fun o e => k3 _ o hxL e
    refine stores T fr vs' rs' ⟨h3, g, d, tk3, os⟩ _ [f] _ (by simpa using hrs) (by simpa using hl) (fun y hy => List.mem_cons_of_mem _ hy) (kept_but X2 hnx k3) hnx hdx hns3 hxL ldx hself (fun p hp => hvs p (List.mem_cons_of_mem _ hp)) hx3 dne hn3 ?_ (by simp only [List.length_cons, List.length_nil] at nd3 ⊢; omega) fun h4 tk4 k4 hn4 => ?_
    · intro y hy
      by_cases e : y = f
      · rw [e]
        exact List.mem_singleton.mpr rfl
      · exact absurd (if_neg e) hy
    · have kx := k4 _ _ (Ne.symm dne) hx3
      refine hq h4 tk4 dx t1 ⟨fun b o hb e => ?_, kx, Nat.le_of_lt (Nat.lt_of_lt_of_le z0 dn), dne, hn4⟩
      have bd : b ≠ dx := Nat.ne_of_lt (Nat.lt_of_lt_of_le (Nat.lt_trans (Heap.lt_size e) z0) dn)
      exact k4 b o bd (k3 b o hb (k2 b o hb (kk b o e)))
structure OwnMade (h h' : Heap) (e C d : Addr) (M : Str → Option Value) : Prop where
  keep : ∀ b o, h.get? b = some o → h'.get? b = some o
  new : h.objs.size ≤ e
  obj : ∃ oe vs, h'.get? e = some oe ∧ oe.cls = .ref C ∧ oe.dict = some d ∧ oe.data = .fields vs ∧ vs[1]? = some .none
  dbig : h.objs.size ≤ d
  dne : d ≠ e
  ns : h'.Ns1 d M
theorem made (T : Txt prog K mg C fI cn qual msg fs st) {vs : List Value} (X : K.In s.heap) (P : Top mg s.heap) (hlim : s.heap.NoLimit) (hroom : A.depth + 1 < recursionLimit) (hl : vs.length = fs.length) {R : Result → Shared → Prop}
    (hq : ∀ h' tk e d, OwnMade s.heap h' e C d (putAll (fun _ => none) (fs.zip vs)) → R (.ok (.ret (.ref e))) { s with heap := h', toks := tk }) :
    codeAny (model prog w) A (.call (.ref C) ⟨vs, []⟩) R s := by
  obtain ⟨nm, q, N, bs, bm, sn, sub, ab, col, dd, k0, k1, k2, k3, k5, hC, hbm⟩ := T.cls
  have nd3 := T.nd.2.2.1
  obtain ⟨hp, g, dr, tk, os⟩ := s
  have k : ∀ b o, hp.get? b = some o → ((hp.push (kdv_tup vs)).push (excO C hp.objs.size)).get? b = some o := fun b o e => Heap.get?_push_of_some _ (Heap.get?_push_of_some _ e)
  have hget : ((hp.push (kdv_tup vs)).push (excO C hp.objs.size)).get? (hp.objs.size + 1) = some (excO C hp.objs.size) := by heap_get
  have hnx : K.lookup (hp.objs.size + 1) = none := by
    cases e : K.lookup (hp.objs.size + 1) with
    | none => rfl
    | some o =>
      have z : hp.get? (hp.objs.size + 1) = some o := X _ _ e
      exact absurd (Nat.lt_of_succ_lt (Heap.lt_size z)) (Nat.lt_irrefl _)
  refine call_own F.excBase_ValueError (fun X => refsVE_contains X bm hbm) (X _ _ hC) (looks_findIn X T.iC) (fun self => bind_fn X self T.tC) (by rw [sizeLine_eq, hl]; omega) ?_
  refine init_all (s := ⟨(hp.push (kdv_tup vs)).push (excO C hp.objs.size), g, dr, tk, os⟩) T (X.keeps k) (P.keeps k) (hlim.keeps k) hget hnx ?_ hl fun h' tk' dx t1 ⟨k', hx, dn, dne, hns⟩ => ?_
  · show A.depth + 1 < recursionLimit
    exact hroom
  · have old : ∀ b o, hp.get? b = some o → h'.get? b = some o := fun b o e => k' b o (Nat.ne_of_lt (Nat.lt_succ_of_lt (Heap.lt_size e))) (k b o e)
    have z : hp.objs.size + 1 + 1 ≤ dx := by
      have q := dn
      rw [Heap.size_push, Heap.size_push] at q
      exact q
    exact ⟨rfl, hq h' tk' (hp.objs.size + 1) dx ⟨old, Nat.le_succ _, ⟨_, _, hx, rfl, rfl, rfl, rfl⟩, Nat.le_trans (Nat.le_trans (Nat.le_succ _) (Nat.le_succ _)) z, dne, hns⟩⟩
end
end DX
namespace DX
open PySem PySem.Spec PyProof.Rows L2
theorem putAll_out {y : Str} : ∀ {l : List (Str × Value)} {m0 : Str → Option Value}, y ∉ l.map (·.1) → putAll m0 l y = m0 y
  | [], _, _ => rfl
  | (f, v) :: r, m0, h => by
    have h1 : y ≠ f := fun e => h (by rw [e]; exact List.mem_cons_self)
    show putAll (fun z => if z = f then some v else m0 z) r y = m0 y
    rw [putAll_out (fun z => h (List.mem_cons_of_mem _ z))]
    exact if_neg h1
theorem putAll_rel : ∀ {fs : List Str} {vs : List Value} {xs : List V} {m0 : Str → Option Value}, fs.Nodup → Vals xs vs → vs.length = fs.length → (∀ y, y ∉ fs → m0 y = none) → (∀ y, m0 y = none) → ∀ y, RelO ((fs.zip xs).lookup y) (putAll m0 (fs.zip vs) y)
  | [], vs, xs, m0, _, r, hl, _, h0, y => by
    show RelO none (m0 y)
    rw [h0]
    trivial
  | f :: fs, v :: vs, x :: xs, m0, nd, .cons rv r, hl, hn, h0, y => by
    show RelO (((f, x) :: fs.zip xs).lookup y) (putAll (fun z => if z = f then some v else m0 z) (fs.zip vs) y)
    rw [List.lookup_cons]
    have nf := (List.nodup_cons.mp nd).1
    have zf : ∀ {β : Type} {l : List β}, l.length = fs.length → (fs.zip l).map (·.1) = fs := fun h => zip_fst h
    have hl' : vs.length = fs.length := by simpa using hl
    by_cases e : y = f
    · subst e
      rw [beq_self_eq_true, putAll_out (by rw [zip_fst hl']; exact nf), if_pos rfl]
      exact rv
    · rw [beq_eq_false_iff_ne.mpr e]
      by_cases hy : y ∈ fs
      · have key : ∀ {l : List (Str × Value)} {m1 m2 : Str → Option Value}, y ∈ l.map (·.1) → putAll m1 l y = putAll m2 l y := by
          intro l
          induction l with
          | nil =>
            intro m1 m2 h
            simp at h
          | cons p l ih =>
            intro m1 m2 h
            obtain ⟨g, u⟩ := p
            show putAll (fun z => if z = g then some u else m1 z) l y = putAll (fun z => if z = g then some u else m2 z) l y
            by_cases hl : y ∈ l.map (·.1)
            · exact ih hl
            · rw [putAll_out hl, putAll_out hl]
              rcases List.mem_cons.mp h with h | h
              · have h' : y = g := h
                rw [if_pos h', if_pos h']
              · exact absurd h hl
        rw [key (m2 := fun _ => none) (by rw [zip_fst hl']; exact hy)]
        exact putAll_rel (List.nodup_cons.mp nd).2 r hl' (fun _ _ => rfl) (fun _ => rfl) y
      · rw [putAll_out (by rw [zip_fst hl']; exact hy), if_neg e, h0]
        have : (fs.zip xs).lookup y = none := by
          have hx : xs.length = fs.length := r.length.trans hl'
          have q : ∀ {l : List (Str × V)}, y ∉ l.map (·.1) → l.lookup y = none := by
            intro l
            induction l with
            | nil => intro _; rfl
            | cons p l ih =>
              intro h
              rw [List.lookup_cons]
              rw [beq_eq_false_iff_ne.mpr (fun z => h (by rw [z]; exact List.mem_cons_self))]
              exact ih fun z => h (List.mem_cons_of_mem _ z)
          exact q (by rw [zip_fst hx]; exact hy)
        rw [this]
        trivial
  | f :: fs, [], _, _, _, _, hl, _, _, _ => by simp at hl
section
variable {X : Cx} {C fI : Addr} {cn qual msg : Str} {fs : List Str} {st : Stmt}
def tMkX (C : Addr) (fs : List Str) (ta : TA) : L2.St → Hp → XK → Prop := fun σ H Q => ta σ H fun vs H1 => vs.length = fs.length ∧ ∀ d, H1 d = none → Q (.ref C) (some d) (upd H1 d (.xd (fs.zip vs)))
theorem pmk_x {a : Expr} {es : List Expr} {ta : TA} {p pos : Pos} {k : Nat} (T : Txt X.prog X.K X.mg C fI cn qual msg fs st) (hr : Room k X.A) (ha : PA X (a :: es) ta) (hg : Gl X cn) (hdb : (cn == ("__debug__" : Str)) = false)
    (he : starEach (a :: es) X.env = (false, eval a X.env) :: starEach es X.env) (hpl : (backTo pos (starEach es X.env)).any (·.1) = false) :
    PMk X (.Call (.Name cn p) (a :: es) [] pos) (tMkX C fs ta) := by
  intro pins s σ H Q I h
  refine wpAny_Call_Name_kw (ld_glob I hg T.gC ?_ hdb)
  refine PySem.W.callWith_K (h₀ := X.base) I.ok.mod.kin T.kC (thn (ha.run pos pins s σ H _ I h) fun us s1 hh => ?_) he hpl
  obtain ⟨vs, H1, I1, r1, hlen, q1⟩ := hh
  refine ⟨I1.kIn, ?_⟩
  change wpAny (model X.prog X.w) X.A (call (.ref C) us) _ _ _
  have hlim := I1.nolimit
  have P : Top X.mg s1.heap := by
    obtain ⟨mb, h1, h2⟩ := I1.mod.blt
    exact ⟨I1.mod.glob.keeps I1.bk, mb, h1.keeps I1.bk, h2⟩
  have hul : us.length = fs.length := by rw [← r1.length]; exact hlen
  obtain ⟨hp, g, dr, tk, os⟩ := s1
  refine wpAny_call (made T I1.kIn P hlim (by have := hr.dp; omega) hul fun h' tk' e d M => ?_)
  show MkP X pins σ Q (.ref e) ⟨h', g, dr, tk', os⟩
  obtain ⟨oe, fv, hoe, hc, hd, hdat, h1⟩ := M.obj
  have hns := M.ns
  obtain ⟨G', g1, g2⟩ := restrict h' fun b => decide (b ≠ e)
  have gk : ∀ b, b ≠ e → G'.get? b = h'.get? b := fun b hb => g1 b (decide_eq_true hb)
  have ge : G'.get? e = none := g2 e (by simp)
  have old : ∀ b o, hp.get? b = some o → G'.get? b = some o := fun b o q => (gk b (Nat.ne_of_lt (Nat.lt_of_lt_of_le (Heap.lt_size q) M.new))).trans (M.keep b o q)
  have ob : ObjOk X.prog X.w (upd H1 d (.xd (fs.zip vs))) G' d (.xd (fs.zip vs)) :=
    ⟨_, hns.at (fun o q => (gk d M.dne).trans q), fun f => putAll_rel T.nd.1 r1 hul (fun _ _ => rfl) (fun _ => rfl) f⟩
  have J : Inv X pins σ (upd H1 d (.xd (fs.zip vs))) ⟨G', g, dr, tk', os⟩ := I1.laid (t' := tk') old M.dbig ob
  refine ⟨e, oe, fv, ⟨G', g, dr, tk', os⟩, _, .ref C, some d, rfl, J, fun b o q => ?_, ge, hoe, ⟨hc, hd⟩, hdat, h1, ?_, rfl, I1.bare, raises_own T.exC T.tyC, q1 d (I1.hok.fresh M.dbig)⟩
  · by_cases hb : b = e
    · have q' : G'.get? b = some o := q
      rw [hb, ge] at q'; cases q'
    · exact (gk b hb).symm.trans q
  · rw [upd_ne (Ne.symm M.dne)]
    exact I1.hok.fresh M.new
end
end DX
namespace DT
open PySem PySem.Spec PyProof.Rows L2 DL
abbrev su (X : Cx) (a : Addr) (pn : List (Addr × Obj)) : Cx := { X with A := X.A.mark (some (.ref a)), calm := false, pn := pn, xe := fun _ _ => False }
section
variable {X : Cx} {pins : List (Addr × Obj)} {σ : L2.St} {H : Hp} {s : Shared} {a : Addr}
end
structure Cl where
  c : Value
  i : Option Nat
  t : TS
def inS (i : Option Nat) (a : Addr) (σ : L2.St) : L2.St := match i with
  | some i => σ.set i (some (.ref a))
  | none => σ
def outS (i : Option Nat) (σ : L2.St) : L2.St := match i with
  | some i => σ.set i none
  | none => σ
def endS (i : Option Nat) (D : Ends) : Ends := { nx := fun σ H => D.nx (outS i σ) H, rt := D.rt, bk := fun σ H => D.bk (outS i σ) H, ct := fun σ H => D.ct (outS i σ) H }
def wTry (K : PySem.W.Frag) (Wo : WX) (D : Ends) : List Cl → WX
  | [] => Wo
  | k :: r => fun cls d σ H => ∃ b, PySem.W.exmOne K cls k.c = some b ∧ (b = true → ∀ a, H a = none → k.t (endS k.i D) (inS k.i a σ) (upd H a (ExV cls d a))) ∧ (b = false → wTry K Wo D r cls d σ H)
inductive Cls (X : Cx) : List ExceptHandler → List Cl → Prop
  | nil : Cls X [] []
  | bare {x : Str} {c : Value} {t : TS} {b₀ : Stmt} {su' : List Stmt} {np p' : Pos} {hs : List ExceptHandler} {l : List Cl} (hc : Names X x c)
      (hsu : ∀ (a : Addr) (pn : List (Addr × Obj)), PSs (su X a pn) (b₀ :: su') t) (r : Cls X hs l) : Cls X (.ExceptHandler (some (.Name x np)) none (b₀ :: su') p' :: hs) (⟨c, none, t⟩ :: l)
  | named {x n : Str} {i : Nat} {c : Value} {t : TS} {b₀ : Stmt} {su' : List Stmt} {np p' : Pos} {hs : List ExceptHandler} {l : List Cl} (hc : Names X x c) (hN : X.N.Nodup) (hi : X.N[i]? = some n) (hl : X.env.kindOf n = some .local)
      (hsu : ∀ (a : Addr) (pn : List (Addr × Obj)), PSs (su X a pn) (b₀ :: su') t) (r : Cls X hs l) : Cls X (.ExceptHandler (some (.Name x np)) (some n) (b₀ :: su') p' :: hs) (⟨c, some i, t⟩ :: l)
section
variable {X : Cx} {body : List Stmt} {h₀ : ExceptHandler} {hds : List ExceptHandler} {l : List Cl} {pos : Pos} {tb : WX → TS} {Wo : WX}
end
end DT
namespace DL
open PySem PySem.Spec PyProof.Rows L2
def cTS (G : Gx) (W : WX) (f : SM) : TS := fun D σ H => ∃ (ρ R : List Addr) (B : Hp) (δ : SlM) (a : Sto) (F : List Addr), Wd G B H ρ a (F ++ R) ∧ OwnS G B H ρ δ σ F ∧ FinS G W ρ R B H (f δ a) D
theorem DSs.can {X : Cx} {G : Gx} {W : WX} {st : List Stmt} {f : SM} (h : DSs X G W st f) : PSs X st (cTS G W f) := by
  obtain ⟨t, p, s⟩ := h.ex
  exact ⟨fun pins s' σ H D I ⟨ρ, R, B, δ, a, F, w, os, q⟩ => p.run pins s' σ H D I (s ρ R B H σ δ a F D w os q)⟩
structure DR (X : Cx) (G : Gx) (W : WX) (e : Expr) (f : EM) : Prop where
  ex : ∃ t, PMk X e t ∧ MOk G W (fun σ H _ => t σ H fun cls d H' => W cls d σ H') f
def excM (c : Nat) (fs : List Str) (fa : EA) : EM := fun δ a => (fa δ a).bind fun ds a1 => if ds.length = fs.length then .exc c fs ds a1 else .stuck
theorem dr_x {X : Cx} {G : Gx} {W : WX} {c : Nat} {fI : Addr} {cn qual msg : Str} {fs : List Str} {st : Stmt} {e : Expr} {es : List Expr} {fa : EA} {p pos : Pos} {k : Nat} (T : DX.Txt X.prog X.K X.mg (G.T c) fI cn qual msg fs st) (hr : Room k X.A) (ha : DA X G W (e :: es) fa) (hg : Gl X cn := by rfl) (hdb : (cn == ("__debug__" : Str)) = false := by decide)
    (he : starEach (e :: es) X.env = (false, eval e X.env) :: starEach es X.env := by rfl) (hpl : (backTo pos (starEach es X.env)).any (·.1) = false := by rfl) : DR X G W (.Call (.Name cn p) (e :: es) [] pos) (excM c fs fa) := by
  obtain ⟨t, pa, s⟩ := ha.ex
  refine ⟨_, DX.pmk_x T hr pa hg hdb he hpl, fun ρ R B H σ δ a Q w sl q => s ρ R B H σ δ a _ w sl (Fin.imp (Fin.seqM q) fun ds a1 B1 H1 w1 s1 k1 q1 vs r => ?_)⟩
  by_cases hl : ds.length = fs.length
  · rw [if_pos hl] at q1
    have hv : vs.length = fs.length := by rw [← r.len]; exact hl
    refine ⟨hv, fun d hd => q1 (upd B1 d (.xd (fs.zip vs))) (upd H1 d (.xd (fs.zip vs))) (some d) (w1.new hd) (same_new (w1.noneB hd)) (kp_new w1 hd) (.inr ⟨d, vs, rfl, upd_same, hv.symm, Reps.mono (same_new (w1.noneB hd)) ds vs r⟩)⟩
  · rw [if_neg hl] at q1
    exact q1.elim
def sRaise (I : List Nat) (f : EM) : SM := fun δ a => (lift I f δ a).seq fun _ _ _ => .stuck
theorem ds_raise {X : Cx} {G : Gx} {W : WX} {e : Expr} {f : EM} {pos : Pos} (I : List Nat) (hc : X.calm = true) (tk : Takes X W) (h : DR X G W e f) : DS X G W (.Raise (some e) none pos) (sRaise I f) := by
  obtain ⟨t, p, s⟩ := h.ex
  refine ⟨_, ps_raise hc tk p, fun ρ R B H σ δ a F D w os q => ?_⟩
  exact lift_ok (Q := fun _ _ => False) s w os (Ox.fin q fun m δ' a' B' H' v F' F1 w' om os' q' => q')
structure Hc where
  cs : List Nat
  ms : List Nat
  i : Option Nat
  g : SM
def outM (i : Option Nat) (o : OutS) : OutS := match i with
  | none => o
  | some i => match o with
    | .nx δ a => .nx (δ.set i none) a
    | .bk δ a => .bk (δ.set i none) a
    | .ct δ a => .ct (δ.set i none) a
    | o => o
def tryH : List Hc → Nat → List Str → List D → SM
  | [], c, ns, ds => fun δ a => .exc c ns ds δ a
  | h :: r, c, ns, ds => fun δ a => if c ∈ h.cs then (if c ∈ h.ms then outM h.i (match h.i with
      | none => (match h.g δ a with | .exc .. => .stuck | o => o)
      | some i => if i < δ.length then (match h.g (δ.set i (some (.val (.exc c ns ds)))) a with | .exc .. => .stuck | o => o) else .stuck) else tryH r c ns ds δ a) else .stuck
section
variable {G : Gx} {ρ R : List Addr} {B H : Hp}
theorem OwnS.out {δ : SlM} {σ : L2.St} {F : List Addr} {a : Sto} (i : Nat) (w : Wd G B H ρ a (F ++ R)) (os : OwnS G B H ρ δ σ F) : ∃ F', Wd G B H ρ a (F' ++ R) ∧ OwnS G B H ρ (δ.set i none) (σ.set i none) F' := by
  obtain ⟨Fi, Fr, p, h⟩ := OwnS.forget (i := i) os
  have z : (F ++ R).Perm (Fi ++ (Fr ++ R)) := by
    rw [← List.append_assoc]
    exact List.Perm.append_right _ p
  exact ⟨Fr, (w.perm z).drop, h⟩
theorem FinS.out {W W0 : WX} {o : OutS} {D : Ends} {i : Option Nat} (h : FinS G W ρ R B H (outM i (match o with | .exc .. => .stuck | o => o)) D) : FinS G W0 ρ R B H o (DT.endS i D) := by
  cases i with
  | none =>
    cases o with
    | exc c ns ds δ a => exact h.elim
    | nx δ a => exact h
    | rt m a => exact h
    | bk δ a => exact h
    | ct δ a => exact h
    | stuck => exact h
  | some i =>
    cases o with
    | exc c ns ds δ a => exact h.elim
    | nx δ a =>
      intro B' H' σ' F' w s kp os
      obtain ⟨F2, w2, os2⟩ := OwnS.out i w os
      exact h B' H' _ F2 w2 s kp os2
    | bk δ a =>
      intro B' H' σ' F' w s kp os
      obtain ⟨F2, w2, os2⟩ := OwnS.out i w os
      exact h B' H' _ F2 w2 s kp os2
    | ct δ a =>
      intro B' H' σ' F' w s kp os
      obtain ⟨F2, w2, os2⟩ := OwnS.out i w os
      exact h B' H' _ F2 w2 s kp os2
    | rt m a => exact h
    | stuck => exact h
end
inductive Hcs (X : Cx) (G : Gx) : List ExceptHandler → List Hc → Prop
  | nil : Hcs X G [] []
  | bare {x : Str} {C : Value} {cs ms : List Nat} {g : SM} {b₀ : Stmt} {su' : List Stmt} {np p' : Pos} {hs : List ExceptHandler} {l : List Hc} (hc : Names X x C) (he : ∀ c ∈ cs, PySem.W.exmOne X.K (.ref (G.T c)) C = some (decide (c ∈ ms)))
      (hsu : ∀ (a : Addr) (pn : List (Addr × Obj)), DSs (DT.su X a pn) G (fun _ _ _ _ => False) (b₀ :: su') g) (r : Hcs X G hs l) : Hcs X G (.ExceptHandler (some (.Name x np)) none (b₀ :: su') p' :: hs) (⟨cs, ms, none, g⟩ :: l)
  | named {x n : Str} {i : Nat} {C : Value} {cs ms : List Nat} {g : SM} {b₀ : Stmt} {su' : List Stmt} {np p' : Pos} {hs : List ExceptHandler} {l : List Hc} (hc : Names X x C) (he : ∀ c ∈ cs, PySem.W.exmOne X.K (.ref (G.T c)) C = some (decide (c ∈ ms))) (hN : X.N.Nodup) (hi : X.N[i]? = some n) (hl : X.env.kindOf n = some .local)
      (hsu : ∀ (a : Addr) (pn : List (Addr × Obj)), DSs (DT.su X a pn) G (fun _ _ _ _ => False) (b₀ :: su') g) (r : Hcs X G hs l) : Hcs X G (.ExceptHandler (some (.Name x np)) (some n) (b₀ :: su') p' :: hs) (⟨cs, ms, some i, g⟩ :: l)
theorem Hcs.cls {X : Cx} {G : Gx} {W : WX} : ∀ {hs : List ExceptHandler} {l : List Hc}, Hcs X G hs l → ∃ l', DT.Cls X hs l' ∧ ∀ (Z : Ends) (c : Nat) (ns : List Str) (ds : List D) (δ : SlM) (a : Sto) (ρ R : List Addr) (B H : Hp) (σ : L2.St) (dd : Option Addr) (F : List Addr),
    Wd G B H ρ a (F ++ R) → XdO G B ρ ns ds dd → OwnS G B H ρ δ σ F → FinS G W ρ R B H (tryH l c ns ds δ a) Z → DT.wTry X.K W Z l' (.ref (G.T c)) dd σ H
  | _, _, .nil => ⟨[], .nil, fun D c ns ds δ a ρ R B H σ dd F w x os q => q B H σ dd F w (Same.refl _) Kp.refl x os⟩
  | _, _, .bare (C := C) (cs := cs) (ms := ms) (g := g) hc he hsu r => by
    obtain ⟨l', h1, h2⟩ := Hcs.cls (W := W) r
    refine ⟨⟨C, none, cTS G (fun _ _ _ _ => False) g⟩ :: l', .bare hc (fun a pn => (hsu a pn).can) h1, fun D c ns ds δ a ρ R B H σ dd F w x os q => ?_⟩
    unfold tryH at q
    by_cases hcs : c ∈ cs
    · dsimp only at q
      rw [if_pos hcs] at q
      refine ⟨decide (c ∈ ms), he c hcs, fun hm ad na => ?_, fun hm => ?_⟩
      · rw [if_pos (of_decide_eq_true hm)] at q
        have kp := kp_new (o := ExV (.ref (G.T c)) dd ad) w na
        have sm := same_new (o := ExV (.ref (G.T c)) dd ad) (w.noneB na)
        exact ⟨ρ, R, _, δ, a, F, w.new na, OwnS.mono sm δ σ F (fun p hp => kp p (List.mem_append_left _ hp)) os, FinS.out (W := W) (i := none) (FinS.base q sm kp.right)⟩
      · rw [if_neg (of_decide_eq_false hm)] at q
        exact h2 D c ns ds δ a ρ R B H σ dd F w x os q
    · dsimp only at q
      rw [if_neg hcs] at q
      exact q.elim
  | _, _, .named (i := i) (C := C) (cs := cs) (ms := ms) (g := g) hc he hN hi hl hsu r => by
    obtain ⟨l', h1, h2⟩ := Hcs.cls (W := W) r
    refine ⟨⟨C, some i, cTS G (fun _ _ _ _ => False) g⟩ :: l', .named hc hN hi hl (fun a pn => (hsu a pn).can) h1, fun D c ns ds δ a ρ R B H σ dd F w x os q => ?_⟩
    unfold tryH at q
    by_cases hcs : c ∈ cs
    · dsimp only at q
      rw [if_pos hcs] at q
      refine ⟨decide (c ∈ ms), he c hcs, fun hm ad na => ?_, fun hm => ?_⟩
      · rw [if_pos (of_decide_eq_true hm)] at q
        by_cases hlt : i < δ.length
        · rw [if_pos hlt] at q
          have kp := kp_new (o := ExV (.ref (G.T c)) dd ad) w na
          have sm := same_new (o := ExV (.ref (G.T c)) dd ad) (w.noneB na)
          have w1 := w.new (o := ExV (.ref (G.T c)) dd ad) na
          have os1 := OwnS.mono sm δ σ F (fun p hp => kp p (List.mem_append_left _ hp)) os
          have rp : Rep G (upd B ad (ExV (.ref (G.T c)) dd ad)) ρ (.exc c ns ds) (.ref ad) := by
            refine ⟨ad, dd, rfl, upd_same, ?_⟩
            rcases x with e1 | ⟨d, xs, e1, e2, e3, e4⟩
            · exact .inl e1
            · exact .inr ⟨d, xs, e1, sm _ _ e2, e3, Reps.mono sm ds xs e4⟩
          obtain ⟨Fi, Fr, F2, p1, p2, os2⟩ := OwnS.set (m := .val (.exc c ns ds)) (Fm := []) ⟨rfl, rp⟩ os1 hlt
          have z : (F ++ R).Perm (Fi ++ (F2 ++ R)) := by
            have z1 : (F ++ R).Perm (Fi ++ (Fr ++ R)) := by
              rw [← List.append_assoc]
              exact List.Perm.append_right _ p1
            exact z1.trans (List.Perm.append_left Fi (List.Perm.append_right R (by simpa using p2.symm)))
          exact ⟨ρ, R, _, _, a, F2, (w1.perm z).drop, os2, FinS.out (W := W) (i := some i) (FinS.base q sm kp.right)⟩
        · rw [if_neg hlt] at q
          exact q.elim
      · rw [if_neg (of_decide_eq_false hm)] at q
        exact h2 D c ns ds δ a ρ R B H σ dd F w x os q
    · dsimp only at q
      rw [if_neg hcs] at q
      exact q.elim
end DL
namespace DL
open PySem PySem.Spec PyProof.Rows L2
def flatD : D → Bool
  | .non => true
  | .bl _ => true
  | .int _ => true
  | .str _ => true
  | _ => false
def inRow (d : D) (deep : Bool) (l : List D) : Option Bool := if flatD d = true ∧ l.all flatD = true then some (l.any fun y => eqvD y d) else if deep = true ∧ dd 8 d = true ∧ l.all (dd 7) = true then some (l.any fun y => eqvD y d) else none
def inG (d e : D) : Option Bool := match e with
  | .lst l => inRow d true l
  | .tup l => inRow d false l
  | _ => none
def inT (i j : Str) : Bool := match i.cps.toList with
  | [c] => decide (c ∈ j.cps.toList)
  | _ => !(Builtin.Str.occurrences j i 0 j.length 1).isEmpty
def txt : D → Option Str
  | .str s => some s
  | _ => none
def inB (d e : D) : Option Bool := match txt d with
  | some i => (match txt e with
    | some j => some (inT i j)
    | none => inG d e)
  | none => inG d e
section
variable {G : Gx} {B : Hp} {ρ : List Addr}
end
inductive Tg where
  | non | bl | int | str | tup | lst | obj (c : Nat) | exc (c : Nat)
  deriving DecidableEq
def tgOf : D → Tg
  | .non => .non
  | .bl _ => .bl
  | .int _ => .int
  | .str _ => .str
  | .tup _ => .tup
  | .lst _ => .lst
  | .loc _ => .lst
  | .scr _ => .lst
  | .obj c _ _ => .obj c
  | .exc c _ _ => .exc c
def tgV (G : Gx) : Tg → Value
  | .non => .type "NoneType"
  | .bl => .type "bool"
  | .int => .type "int"
  | .str => .type "str"
  | .tup => .type "tuple"
  | .lst => .type "list"
  | .obj c => .ref (G.T c)
  | .exc c => .ref (G.T c)
abbrev clsGet : Value := .builtin "object.__class__"
structure IsC (K : PySem.W.Frag) (C : Addr) : Prop where
  ha : PySem.W.findIn K (.ref C) "__class__" = some (some clsGet)
  hn : PySem.W.specialIn K clsGet "__get__" = some (some (.builtin "getset_descriptor.__get__"))
  htk : PySem.W.takesIn K clsGet = some true
  hm : PySem.W.mroIn K C (.type ("object" : String)) = some true
structure IsE (K : PySem.W.Frag) (C : Addr) : Prop where
  c : IsC K C
  hcl : (PySem.W.clsIn K C).isSome = true
  hga : PySem.W.findIn K (.ref C) "__getattribute__" = some (some (.builtin "BaseException.__getattribute__"))
  hgt : PySem.W.findIn K (.ref C) "__getattr__" = some none
  hsub : PySem.W.subIn K (.ref C) (.type "BaseException") = some true
inductive TyE (K : PySem.W.Frag) (H : Hp) : V → Value → Prop where
  | x {v : V} {t : Value} (h : TyX K H v t) : TyE K H v t
  | e {a C : Addr} {dd : Option Addr} (h : H a = some (ExV (.ref C) dd a)) (hd : ∀ d, dd = some d → ∃ fs, H d = some (.xd fs)) (i : IsE K C) : TyE K H (.ref a) (.ref C)
def rIsE (K : PySem.W.Frag) : List V → Hp → VK → Prop := fun xs H Q => ∃ (x c : V) (t u : Value) (b : Bool), xs = [x, c] ∧ ClsV c u ∧ TyE K H x t ∧ PySem.W.kitOne K t u = some b ∧ Q (.bl b) H
theorem call_isE {X : Cx} : CallR X (.builtin "isinstance") (rIsE X.K) := by
  rintro pins s σ H xs us Q I r ⟨x, c, t, u, b, rfl, k, ty, e, q⟩
  cases ty with
  | x ty => exact call_isi pins s σ H [x, c] us Q I r ⟨x, c, t, u, b, rfl, k, ty, e, q⟩
  | @e a C dd ea hd i =>
    obtain ⟨_, _, rfl, r1, r2⟩ := vals2 r
    cases k.eq r2
    cases r1
    obtain ⟨⟨oe, vs, g1, g2, g3⟩, _, _⟩ := (show ObjOk X.prog X.w H s.heap a (ExV (.ref C) dd a) from I.hok a _ ea)
    have J : ∃ od, PySem.W.InstAt s.heap a oe C od := by
      cases dd with
      | none => exact ⟨none, g1, g2.1, by unfold PySem.W.notCls; rw [g3] <;> rfl, by rw [g2.2] <;> trivial⟩
      | some d =>
        obtain ⟨fs, hx⟩ := hd d rfl
        obtain ⟨mA, ⟨od, _, _, ho, _⟩, _⟩ := (show ObjOk X.prog X.w H s.heap d (.xd fs) from I.hok d _ hx)
        exact ⟨some od, g1, g2.1, by unfold PySem.W.notCls; rw [g3] <;> rfl, by rw [g2.2]; exact ho⟩
    obtain ⟨od, J⟩ := J
    exact PySem.W.kia_one (PySem.W.kitx_exc i.hcl i.hga i.hgt i.hsub i.c.ha i.c.hn i.c.htk i.c.hm) I.kIn J e (fun z => nomatch z) fun tk => ⟨.bl b, H, I.tok tk, rfl, q⟩
structure IsTab (K : PySem.W.Frag) (G : Gx) (u : Value) (tab : Tg → Option Bool) : Prop where
  ans : ∀ t b, tab t = some b → PySem.W.kitOne K (tgV G t) u = some b
  obj : ∀ c b, tab (.obj c) = some b → L2.Cls K (G.T c) ∧ IsC K (G.T c)
  exc : ∀ c b, tab (.exc c) = some b → IsE K (G.T c)
end DL
namespace DL
open PySem PySem.Spec PyProof.Rows L2
section
variable {X : Cx} {G : Gx} {W : WX}
def isLoc : D → Bool
  | .loc _ => true
  | _ => false
def dIsi (tab : Tg → Option Bool) (d : D) : Option D := if isLoc d = true then none else (tab (tgOf d)).map D.bl
theorem ty_rep {B H : Hp} {ρ R : List Addr} {a : Sto} {d : D} {x : V} {u : Value} {tab : Tg → Option Bool} {b : Bool} (it : IsTab G.K G u tab) (w : Wd G B H ρ a R) (r : Rep G B ρ d x) (nl : ¬ isLoc d = true) (h : tab (tgOf d) = some b) : TyE G.K H x (tgV G (tgOf d)) := by
  cases d with
  | non => cases (show x = _ from r); exact .x (.base .non)
  | bl b => cases (show x = _ from r); exact .x (.base (.bl b))
  | int b => cases (show x = _ from r); exact .x (.base (.int b))
  | str b => cases (show x = _ from r); exact .x (.base (.str b))
  | tup l =>
    obtain ⟨p, xs, rfl, h1, h2⟩ := r
    rcases sqt_same w.ex h1 with (h1 | ⟨o, h1⟩) | ⟨o, its, n, h3, h4, _⟩
    · exact .x (.base (.tup h1))
    · exact .x (.fTuple h1)
    · exact .x (.kTuple h3 h4)
  | lst l =>
    obtain ⟨p, xs, rfl, h1, h2⟩ := r
    exact .x (.base (.lst (w.ex _ _ h1)))
  | loc n => exact absurd rfl nl
  | scr l =>
    obtain ⟨p, rfl, h1⟩ := r
    rcases w.ex.seq h1 with (h1 | ⟨o, h1⟩) | ⟨o, its, n, h3, h4, _⟩
    · exact .x (.base (.lst h1))
    · exact .x (.base (.frz h1))
    · exact .x (.kList h3 h4)
  | obj c ns l =>
    obtain ⟨p, dx, xs, rfl, h1, _⟩ := r
    obtain ⟨g1, g2⟩ := it.obj c b h
    exact .x (.base (.ins (w.ex _ _ h1) g1 g2.ha g2.hn g2.htk g2.hm))
  | exc c ns l =>
    obtain ⟨p, dd, rfl, h1, h2⟩ := r
    refine .e (w.ex _ _ h1) (fun d e => ?_) (it.exc c b h)
    rcases h2 with ⟨_, _, e2⟩ | ⟨d', xs, e1, e2, _⟩
    · rw [e2] at e
      cases e
    · rw [e1] at e
      cases e
      exact ⟨_, w.ex _ _ e2⟩
theorem dv_is {T : Str} {v : V} {u : Value} {tab : Tg → Option Bool} {e : Expr} {fe : EV} {p p2 pos : Pos} (hK : G.K = X.K) (pc : PE X (.Name T p2) (tC v)) (cv : ClsV v u) (it : IsTab X.K G u tab) (hm : X.mg "isinstance" = none) (he : DV X G W e fe) (hg : Gl X "isinstance" := by rfl)
    (hs : starEach [e, .Name T p2] X.env = (false, eval e X.env) :: starEach [.Name T p2] X.env := by rfl) (hs2 : starEach [.Name T p2] X.env = (false, eval (.Name T p2) X.env) :: starEach [] X.env := by rfl) (hp : (backTo pos (starEach [.Name T p2] X.env)).any (·.1) = false := by rfl) :
    DV X G W (.Call (.Name "isinstance" p) [e, .Name T p2] [] pos) (ev1 (dIsi tab) fe) := by
  obtain ⟨t, pe, s⟩ := he.ex
  refine ⟨_, pe_callB call_isE hg hm boot_isinstance (pa_cons pe (pa_cons pc pa_nil hs2) hs) (by decide) (by decide) hs hp, fun ρ R B H σ δ a Q w sl q => ?_⟩
  refine s ρ R B H σ δ a _ w sl (Fin.imp (Fin.seqo q) fun d a1 B1 H1 w1 s1 k1 q1 x r => ?_)
  obtain ⟨d', e1, q2⟩ := q1
  unfold dIsi at e1
  by_cases nl : isLoc d = true
  · rw [if_pos nl] at e1
    cases e1
  rw [if_neg nl] at e1
  cases c : tab (tgOf d) with
  | none =>
    rw [c] at e1
    cases e1
  | some b =>
    rw [c] at e1
    cases e1
    refine ⟨x, v, tgV G (tgOf d), u, b, rfl, cv, ?_, it.ans _ b c, q2 _ rfl⟩
    rw [← hK] at it ⊢
    exact ty_rep it w1 r nl c
abbrev NoSup (X : Cx) (o : Expr) (name : Str) : Prop := attributeBase o name X.env (eval o X.env) = eval o X.env
abbrev FewA (X : Cx) (cpos : Pos) (as : List Expr) : Prop := ((backTo cpos (starEach as X.env)).all (fun x => !x.1) && (backToKw cpos (keywordEach [] X.env)).all (fun x => x.1.isSome) && decide (as.length + ([] : List Keyword).length + (if ([] : List Keyword).isEmpty then 0 else 1) < 30)) = true
abbrev OneRow (apos cpos : Pos) : Prop := (apos.endLine == cpos.line) = true
def bm1 (g : Str → List D → Option D) (fo : EV) (fa : EA) : EV := fun δ a => (fo δ a).bind fun o a1 => match o with
  | .str s => (fa δ a1).bind fun ds a2 => (match g s ds with | some d => .ok d a2 | none => .stuck)
  | _ => .stuck
def BmN (G : Gx) (r : V → List V → Hp → VK → Prop) (g : Str → List D → Option D) : Prop := ∀ (B H : Hp) (ρ : List Addr) (s : Str) (ds : List D) (d : D) (vs : List V) (Q : VK), Same B H → Reps G B ρ ds vs → g s ds = some d → (∀ v, Rep G B ρ d v → Q v H) → r (.str s) vs H Q
theorem VOk.bm {r : V → List V → Hp → VK → Prop} {g : Str → List D → Option D} {to : TE} {ta : TA} {fo : EV} {fa : EA} (o : BmN G r g) (so : VOk G W to fo) (sa : AOk G W ta fa) : VOk G W (tBM X.K "str" r to ta) (bm1 g fo fa) := fun ρ R B H σ δ a Q w sl q =>
  so ρ R B H σ δ a _ w sl (Fin.imp (Fin.seq q) fun d a1 B1 H1 w1 s1 k1 q1 x r1 => by
    cases d with
    | str s =>
      have ex : x = .str s := r1
      subst ex
      refine ⟨rfl, sa ρ R B1 H1 σ δ a1 _ w1 (sl.mono s1) (Fin.imp (Fin.seq q1) fun ds a2 B2 H2 w2 s2 k2 q2 vs r2 => ?_)⟩
      cases c : g s ds with
      | none =>
        rw [c] at q2
        exact q2.elim
      | some d' =>
        rw [c] at q2
        exact o B2 H2 ρ s ds d' vs Q w2.ex r2 c (q2.here w2)
    | _ => exact q1.elim)
section
variable {ρ R F : List Addr} {B H : Hp} {a : Sto}
theorem Wd.putC (w : Wd G B H ρ a R) {n : Nat} {p : Addr} {o : HO} {c : Cell} (hp : ρ[n]? = some p) (hc : CellAt G B (upd H p o) ρ R p c) : Wd G B (upd H p o) ρ (a.set n c) R := by
  have hm : p ∈ ρ := List.mem_of_getElem? hp
  have other : ∀ b, b ∉ ρ ++ R → b ≠ p := fun b hb z => hb (z ▸ List.mem_append_left _ hm)
  refine ⟨fun b x e => ?_, by rw [List.length_set]; exact w.len, fun m q k h1 h2 => ?_, w.nd, w.bn, fun q hq => ?_⟩
  · rw [upd_ne (other b fun z => by rw [w.bn b z] at e; cases e)]
    exact w.ex b x e
  · by_cases e : n = m
    · subst e
      rw [hp] at h1
      cases h1
      have hl : n < a.length := by
        have z := (List.getElem?_eq_some_iff.mp h2).1
        rw [List.length_set] at z
        exact z
      rw [List.getElem?_set_self hl] at h2
      cases h2
      exact hc
    · rw [List.getElem?_set_ne e] at h2
      have hq : q ≠ p := fun z => by
        subst z
        obtain ⟨i1, g1⟩ := List.getElem?_eq_some_iff.mp hp
        obtain ⟨i2, g2⟩ := List.getElem?_eq_some_iff.mp h1
        have pw := List.pairwise_iff_getElem.mp (List.nodup_append.mp w.nd).1
        rcases Nat.lt_or_gt_of_ne e with lt | lt
        · exact pw n m i1 i2 lt (g1.trans g2.symm)
        · exact pw m n i2 i1 lt (g2.trans g1.symm)
      exact (w.sto m q k h1 h2).move (Same.refl _) (upd_ne hq) fun dx g1 g2 g3 => ⟨upd_ne (other dx g3), g2, g3⟩
  · by_cases e : q = p
    · rw [e, upd_same] <;> rfl
    · rw [upd_ne e]
      exact w.has q hq
theorem Wd.put (w : Wd G B H ρ a (F ++ R)) {n : Nat} {p : Addr} {l : List Int} (hp : ρ[n]? = some p) : Wd G B (upd H p (.lst (l.map V.int))) ρ (a.set n (.nums l)) (F ++ R) := w.putC hp upd_same
theorem Wd.put_ne (w : Wd G B H ρ a R) {n : Nat} {p : Addr} (hp : ρ[n]? = some p) {q : Addr} (hq : q ∈ R) : q ≠ p := fun z => by
  subst z
  exact (List.nodup_append.mp w.nd).2.2 q (List.mem_of_getElem? hp) q hq rfl
end
def sSto (I : List Nat) (fe : EM) (ko : Nat) (k : Int) : SM := fun δ a => (lift I fe δ a).seq fun m δ1 a1 => match m, δ1[ko]? with
  | .val (.int v), some (some (.val (.loc n))) => (match a1[n]? with
    | some (.nums l) => (match ixN l.length k with
      | some j => .nx δ1 (a1.set n (.nums (l.set j v)))
      | none => .stuck)
    | _ => .stuck)
  | _, _ => .stuck
abbrev SubF (X : Cx) (o i : Expr) (tpos : Pos) : Prop := ∀ v, assign (.Subscript o i tpos) X.env v = (do let ov ← holding [v] (eval o X.env); let iv ← holding [v, ov] (eval i X.env); standAt tpos; holding [v, ov, iv] (setItem ov iv v); release [v, ov, iv] [])
theorem map_set' (l : List Int) (j : Nat) (v : Int) : (l.map V.int).set j (.int v) = (l.set j v).map V.int := by rw [List.map_set]
theorem ds_sto {e : Expr} {x : Str} {ko : Nat} {k : Int} {jj : Nat} {fe : EM} {p1 p2 tpos pos : Pos} (I : List Nat) (he : DM X G W e fe) (hN : X.N[ko]? = some x) (hv : Vis X.env.scope x)
    (hd : NotDbg x := by decide) (hcd : (x == ("__classdict__" : Str)) = false := by decide)
    (hs : swapsWithSole [.Subscript (.Name x p1) (.Constant (.int k) jj p2) tpos] e pos.line X.env = pure false := by rfl) (hw : swappedStores [.Subscript (.Name x p1) (.Constant (.int k) jj p2) tpos] e X.env = pure none := by rfl)
    (h1 : (assignEach [.Subscript (.Name x p1) (.Constant (.int k) jj p2) tpos] X.env).map (·.2) = [assign (.Subscript (.Name x p1) (.Constant (.int k) jj p2) tpos) X.env] := by rfl)
    (ha : SubF X (.Name x p1) (.Constant (.int k) jj p2) tpos := by intro _; rfl) : DS X G W (.Assign [.Subscript (.Name x p1) (.Constant (.int k) jj p2) tpos] e pos) (sSto I fe ko k) := by
  obtain ⟨te, pe, se⟩ := he.ex
  refine ⟨_, ps_asg pe (pg_sub (pe_var hN hv hd hcd) pe_int set_list ha) hs hw h1, fun ρ R B H σ δ a F Z w os q => ?_⟩
  refine lift_ok se w os (Ox.fin q fun m δ1 a1 B1 H1 v F1 Fa w1 om os1 q1 => ?_)
  cases m with
  | val dm =>
    obtain ⟨rfl, rm⟩ := om
    cases dm with
    | int i =>
      have ev : v = .int i := rm
      subst ev
      cases c1 : δ1[ko]? with
      | none =>
        rw [c1] at q1
        exact q1.elim
      | some o1 =>
        rw [c1] at q1
        cases o1 with
        | none => exact q1.elim
        | some mo =>
          cases mo with
          | val dd =>
            cases dd with
            | loc n =>
              obtain ⟨vo, Fi, Fr, _, h2, ⟨_, p, h3, rfl⟩, _⟩ := OwnS.take os1 c1
              dsimp only at q1
              cases c2 : a1[n]? with
              | none =>
                rw [c2] at q1
                exact q1.elim
              | some cl =>
               rw [c2] at q1
               cases cl with
               | obj _ _ _ => exact q1.elim
               | vals _ => exact q1.elim
               | nums l =>
                dsimp only at q1
                cases c3 : ixN l.length k with
                | none =>
                  rw [c3] at q1
                  exact q1.elim
                | some j =>
                  rw [c3] at q1
                  refine ⟨.ref p, h2, p, l.map V.int, k, j, rfl, rfl, w1.ints h3 c2, by rw [List.length_map]; exact c3, ?_⟩
                  rw [map_set']
                  have w1' : Wd G B1 H1 ρ a1 (Fa ++ R) := w1
                  exact q1 B1 _ σ Fa (w1'.put h3) (Same.refl _) (fun z hz => upd_ne (w1'.put_ne h3 (List.mem_append_right _ hz))) (OwnS.mono (Same.refl _) δ1 σ Fa (fun z hz => upd_ne (w1'.put_ne h3 (List.mem_append_left _ hz))) os1)
            | _ => exact q1.elim
          | _ => exact q1.elim
    | _ => exact q1.elim
  | _ => exact q1.elim
theorem mok_v {t : TE} {f : EV} (s : VOk G W t f) : MOk G W t (mV f) := fun ρ R B H σ δ a Q w sl q => s ρ R B H σ δ a Q w sl (by
  unfold mV at q
  cases e : f δ a with
  | ok d a' =>
    rw [e] at q
    exact fun B' H' w' s' k' v r => q B' H' v [] w' s' k' ⟨rfl, r⟩
  | exc c ns ds a' =>
    rw [e] at q
    exact q
  | stuck =>
    rw [e] at q
    exact q)
end
end DL
namespace DL
open PySem PySem.Spec PyProof.Rows L2
section
variable {G : Gx} {B H : Hp} {ρ ρ' : List Addr}
mutual
theorem Rep.more (e : ∀ (n : Nat) (q : Addr), ρ[n]? = some q → ρ'[n]? = some q) : ∀ (d : D) (v : V), Rep G B ρ d v → Rep G B ρ' d v
  | .non, v, h => h
  | .bl _, v, h => h
  | .int _, v, h => h
  | .str _, v, h => h
  | .tup ds, v, h => by
    obtain ⟨p, xs, h1, h2, h3⟩ := h
    exact ⟨p, xs, h1, h2, Reps.more e ds xs h3⟩
  | .lst ds, v, h => by
    obtain ⟨p, xs, h1, h2, h3⟩ := h
    exact ⟨p, xs, h1, h2, Reps.more e ds xs h3⟩
  | .obj c ns ds, v, h => by
    obtain ⟨p, dx, xs, h1, h2, h4, h3⟩ := h
    exact ⟨p, dx, xs, h1, h2, h4, Reps.more e ds xs h3⟩
  | .exc c ns ds, v, h => by
    obtain ⟨p, dd, h1, h2, h3⟩ := h
    refine ⟨p, dd, h1, h2, ?_⟩
    rcases h3 with h3 | ⟨d, xs, h4, h5, h6, h7⟩
    · exact .inl h3
    · exact .inr ⟨d, xs, h4, h5, h6, Reps.more e ds xs h7⟩
  | .loc n, v, h => by
    obtain ⟨p, h1, h2⟩ := h
    exact ⟨p, e n p h1, h2⟩
  | .scr l, v, h => h
theorem Reps.more (e : ∀ (n : Nat) (q : Addr), ρ[n]? = some q → ρ'[n]? = some q) : ∀ (ds : List D) (xs : List V), Reps G B ρ ds xs → Reps G B ρ' ds xs
  | [], xs, h => h
  | d :: ds, xs, h => by
    obtain ⟨x, r, h1, h2, h3⟩ := h
    exact ⟨x, r, h1, Rep.more e d x h2, Reps.more e ds r h3⟩
end
mutual
theorem Own.more (e : ∀ (n : Nat) (q : Addr), ρ[n]? = some q → ρ'[n]? = some q) : ∀ (m : M) (v : V) (F : List Addr), Own G B H ρ m v F → Own G B H ρ' m v F
  | .val d, v, F, h => ⟨h.1, Rep.more e d v h.2⟩
  | .lst ms, v, F, h => by
    obtain ⟨p, xs, F1, h1, h2, h3, h4⟩ := h
    exact ⟨p, xs, F1, h1, h2, h3, Owns.more e ms xs F1 h4⟩
  | .tup ms, v, F, h => by
    obtain ⟨p, xs, F1, h1, h2, h3, h4⟩ := h
    exact ⟨p, xs, F1, h1, h2, h3, Owns.more e ms xs F1 h4⟩
  | .obj c ns ms, v, F, h => by
    obtain ⟨p, dx, xs, F1, h1, h2, h3, h5, h6, h4⟩ := h
    exact ⟨p, dx, xs, F1, h1, h2, h3, h5, h6, Owns.more e ms xs F1 h4⟩
  | .pin n m, v, F, h => ⟨h.1, Own.more e m v F h.2⟩
theorem Owns.more (e : ∀ (n : Nat) (q : Addr), ρ[n]? = some q → ρ'[n]? = some q) : ∀ (ms : List M) (xs : List V) (F : List Addr), Owns G B H ρ ms xs F → Owns G B H ρ' ms xs F
  | [], xs, F, h => h
  | m :: ms, xs, F, h => by
    obtain ⟨x, r, F1, F2, h1, h2, h3, h4⟩ := h
    exact ⟨x, r, F1, F2, h1, h2, Own.more e m x F1 h3, Owns.more e ms r F2 h4⟩
end
theorem OwnS.more (e : ∀ (n : Nat) (q : Addr), ρ[n]? = some q → ρ'[n]? = some q) : ∀ (δ : SlM) (σ : L2.St) (F : List Addr), OwnS G B H ρ δ σ F → OwnS G B H ρ' δ σ F
  | [], σ, F, h => h
  | none :: δ, σ, F, h => by
    obtain ⟨o, r, h1, h2⟩ := h
    exact ⟨o, r, h1, OwnS.more e δ r F h2⟩
  | some m :: δ, σ, F, h => by
    obtain ⟨v, r, F1, F2, h1, h2, h3, h4⟩ := h
    exact ⟨v, r, F1, F2, h1, h2, Own.more e m v F1 h3, OwnS.more e δ r F2 h4⟩
end
def intsM : List M → Option (List Int)
  | [] => some []
  | .val (.int i) :: ms => (intsM ms).map fun l => i :: l
  | _ => none
theorem intsM_own {G : Gx} {B H : Hp} {ρ : List Addr} : ∀ {ms : List M} {l : List Int} {xs : List V} {F : List Addr}, intsM ms = some l → Owns G B H ρ ms xs F → xs = l.map V.int ∧ F = []
  | [], l, xs, F, e, h => by
    cases e
    exact h
  | .val (.int i) :: ms, l, xs, F, e, h => by
    obtain ⟨x, r, F1, F2, rfl, rfl, ⟨rfl, hx⟩, h4⟩ := h
    have e' : (intsM ms).map (fun l => i :: l) = some l := e
    cases c : intsM ms with
    | none =>
      rw [c] at e'
      cases e'
    | some l' =>
      rw [c] at e'
      cases e'
      obtain ⟨rfl, rfl⟩ := intsM_own c h4
      have ex : x = .int i := hx
      subst ex
      exact ⟨rfl, rfl⟩
def lawEnd : OutS → OutS
  | .rt (.val (.bl b)) _ => .rt (.val (.bl b)) []
  | _ => .stuck
def lawGo (i : Nat) (g : SM) : OutS → OutS
  | .nx δ [] => (match δ[i]? with
    | some (some (.lst ms)) => (match intsM ms with
      | some l => lawEnd (g (δ.set i (some (.val (.loc 0)))) [.nums l])
      | none => .stuck)
    | _ => .stuck)
  | _ => .stuck
def mLaw (i : Nat) (f1 g : SM) : SM := fun δ a => lawGo i g (f1 δ a)
theorem dss_law {X : Cx} {G : Gx} {W : WX} {st : Stmt} {rest : List Stmt} {f1 g : SM} (i : Nat) (h : DS X G W st f1) (k : DSs X G W rest g) : DSs X G W (st :: rest) (mLaw i f1 g) := by
  obtain ⟨t, p, s⟩ := h.ex
  obtain ⟨u, p2, s2⟩ := k.ex
  refine ⟨_, pss_cons p p2, fun ρ R B H σ δ a F Z w os q => s ρ R B H σ δ a F _ w os ?_⟩
  unfold mLaw at q
  cases c : f1 δ a with
  | nx δ1 a1 =>
    rw [c] at q
    cases a1 with
    | cons x y => exact q.elim
    | nil =>
      intro B1 H1 σ1 F1 w1 sm1 kp1 os1
      have q1 := FinS.base q sm1 kp1
      unfold lawGo at q1
      dsimp only at q1
      cases c1 : δ1[i]? with
      | none =>
        rw [c1] at q1
        exact q1.elim
      | some o =>
        rw [c1] at q1
        cases o with
        | none => exact q1.elim
        | some m =>
          cases m with
          | lst ms =>
            dsimp only at q1
            cases c2 : intsM ms with
            | none =>
              rw [c2] at q1
              exact q1.elim
            | some l =>
              rw [c2] at q1
              dsimp only at q1
              have hρ : ρ = [] := List.length_eq_zero_iff.mp w1.len
              subst hρ
              obtain ⟨v, Fi, Fr, pf, h1, h2, h3⟩ := OwnS.take os1 c1
              obtain ⟨ad, xs, F2, rfl, h4, rfl, h5⟩ := h2
              obtain ⟨rfl, rfl⟩ := intsM_own c2 h5
              have more : ∀ (n : Nat) (z : Addr), ([] : List Addr)[n]? = some z → [ad][n]? = some z := fun n z e => by simp at e
              have h3' := OwnS.more more _ _ _ h3
              have hi : i < (δ1.set i none).length := by
                rw [List.length_set]
                exact (List.getElem?_eq_some_iff.mp c1).1
              obtain ⟨Fa, Fb, F3, p1, p3, h6⟩ := OwnS.set (m := .val (.loc 0)) (v := .ref ad) (Fm := []) ⟨rfl, ad, rfl, rfl⟩ h3' hi
              have es : σ1.set i (some (.ref ad)) = σ1 := by
                obtain ⟨hlt, e⟩ := List.getElem?_eq_some_iff.mp h1
                rw [← e]
                exact List.set_getElem_self hlt
              rw [List.set_set, es] at h6
              have pw : (F1 ++ R).Perm (ad :: (Fr ++ R)) := (List.Perm.append_right R pf)
              have w2 := w1.perm pw
              have w3 : Wd G B1 H1 [ad] [.nums l] (Fr ++ R) := {
                ex := w2.ex
                len := rfl
                sto := fun n z ds e1 e2 => by
                  cases n with
                  | zero =>
                    cases e1
                    cases e2
                    exact h4
                  | succ n => simp at e1
                nd := w2.nd
                bn := w2.bn
                has := w2.has }
              have w4 : Wd G B1 H1 [ad] [.nums l] (F3 ++ R) := by
                have z : (Fr ++ R).Perm (Fa ++ (F3 ++ R)) := by
                  have z1 : (Fr ++ R).Perm (Fa ++ (Fb ++ R)) := by
                    rw [← List.append_assoc]
                    exact List.Perm.append_right _ p1
                  exact z1.trans (List.Perm.append_left Fa (List.Perm.append_right R (by simpa using p3.symm)))
                exact (w3.perm z).drop
              refine s2 [ad] R B1 H1 σ1 _ [.nums l] F3 Z w4 h6 ?_
              cases c3 : g (δ1.set i (some (.val (.loc 0)))) [.nums l] with
              | rt m a2 =>
                rw [c3] at q1
                cases m with
                | val d =>
                  cases d with
                  | bl b =>
                    intro B2 H2 v2 F4 w5 sm5 kp5 o5
                    obtain ⟨rfl, ev⟩ := o5
                    refine q1 B2 H2 v2 [] ?_ sm5 kp5 ⟨rfl, ev⟩
                    exact {
                      ex := w5.ex
                      len := rfl
                      sto := fun n z ds e1 e2 => by simp at e1
                      nd := (List.nodup_append.mp w5.nd).2.1
                      bn := fun z hz => w5.bn z (List.mem_append_right _ hz)
                      has := fun z hz => w5.has z (List.mem_append_right _ hz) }
                  | _ => exact q1.elim
                | _ => exact q1.elim
              | _ =>
                rw [c3] at q1
                exact q1.elim
          | _ => exact q1.elim
  | _ =>
    rw [c] at q
    exact q.elim
def spLaw (K : PySem.W.Frag) : Sp := fun vs H Q _ => ∃ (a : Addr) (ns : List Int), vs = [.ref a] ∧ SqL K H a (ns.map V.int) ∧ ns.length ≤ 63 ∧ ∀ H', Q (.bl true) H'
theorem law_fn {P : Program} {w : World} {K : PySem.W.Frag} {mg : Str → Option Value} {base : Heap} {G : Gx} {k : Nat} {f : Addr} {fd : FuncData} {x : Str} {g : FM} (hK : G.K = K) (F : FnOk P w K mg base (L2.CX P w) k f fd [x] (spD G g 1)) (hg : ∀ ns : List Int, ns.length ≤ 63 → g [.scr ns] [] = .ok (.val (.bl true)) []) :
    FnOk P w K mg base (L2.CX P w) k f fd [x] (spLaw K) := F.imp fun vs H Q E h => by
  obtain ⟨a, ns, rfl, hS, hl, q⟩ := h
  refine ⟨rfl, [], [], H, [.scr ns], [], ⟨Same.refl _, rfl, fun n z ds e1 e2 => by simp at e1, List.nodup_nil, fun z hz => by simp at hz, fun z hz => by simp at hz⟩, ⟨.ref a, [], rfl, ⟨a, rfl, hK ▸ hS⟩, rfl⟩, ?_⟩
  rw [hg ns hl]
  intro B' H' v F _ _ _ o
  obtain ⟨_, e⟩ := o
  have e' : v = .bl true := e
  rw [e']
  exact q H'
theorem defD {P : Program} {w : World} {K : PySem.W.Frag} {mg : Str → Option Value} {base : Heap} {G : Gx} {x : Str} {st : Stmt} {f : Addr} {fd : FuncData} {N ps : List Str} {k : Nat} {g : SM} (F : Fun K x x st f fd) (S : FnScope N ps (defScope st)) (b : Binds K fd ps []) (hm : mg x = some (.ref f))
    (hb : ∀ (cdv : Value) (A : Around) (outer : List Env) (s : Shared) (H : Hp) (E : XK), Room k (A.deeper (envOfC x (defScope st) s.heap.objs.size f cdv)) →
      DSs (cxOf (L2.CX P w) P w K mg base N x (defScope st) f cdv A outer s H E) G (fun cls d _ H => E cls d H) (defBody st) g) :
    DefD P w K mg base G x (k + 1) ps.length (bodyM ps.length N.length g) := ⟨f, fd, ps, rfl, fn_ok F S hb, hm, F.kp, b⟩
def tabT (l : List Tg) : Tg → Option Bool
  | .obj _ => none
  | .exc _ => none
  | t => some (decide (t ∈ l))
theorem tab_int {K : PySem.W.Frag} {G : Gx} : IsTab K G (.type "int") (tabT [.int, .bl]) := ⟨fun t b h => by cases t <;> first | (cases h; done) | (cases h; rfl), (fun c b h => nomatch h), (fun c b h => nomatch h)⟩
theorem tab_bool {K : PySem.W.Frag} {G : Gx} : IsTab K G (.type "bool") (tabT [.bl]) := ⟨fun t b h => by cases t <;> first | (cases h; done) | (cases h; rfl), (fun c b h => nomatch h), (fun c b h => nomatch h)⟩
end DL
namespace DL
open PySem PySem.Spec PyProof.Rows L2
section
variable {X : Cx} {G : Gx} {W : WX} {e e1 e2 : Expr} {es : List Expr} {fa fb : EV} {ga : EA} {p pos : Pos} {k : Nat}
theorem dv_sub (ha : DV X G W e1 fa) (hb : DV X G W e2 fb) : DV X G W (.BinOp e1 .Sub e2 pos) (ev2 (dI DL.gSub) fa fb) := dv_bin op_sub o_sub ha hb
theorem dv_mod (ha : DV X G W e1 fa) (hb : DV X G W e2 fb) : DV X G W (.BinOp e1 .Mod e2 pos) (ev2 (dI gMod) fa fb) := dv_bin op_mod o_mod ha hb
theorem dv_div (ha : DV X G W e1 fa) (hb : DV X G W e2 fb) : DV X G W (.BinOp e1 .FloorDiv e2 pos) (ev2 (dI gDiv) fa fb) := dv_bin op_fdivW o_div ha hb
theorem dv_pow (ha : DV X G W e1 fa) (hb : DV X G W e2 fb) : DV X G W (.BinOp e1 .Pow e2 pos) (ev2 (dI gPow) fa fb) := dv_bin op_pow o_pow ha hb
theorem dv_add (hK : G.K = X.K) (ha : DV X G W e1 fa) (hb : DV X G W e2 fb) : DV X G W (.BinOp e1 .Add e2 pos) (vNw dAdd fa fb) := dv_binN op_addA (by have z := o_add (G := G); rw [hK] at z; exact z) ha hb
theorem dv_mul (ha : DV X G W e1 fa) (hb : DV X G W e2 fb) : DV X G W (.BinOp e1 .Mult e2 pos) (vNw dMul fa fb) := dv_binN op_mulA o_mul ha hb
theorem dt_lt (ha : DV X G W e1 fa) (hb : DV X G W e2 fb) : DT X G W (.Compare e1 [.Lt] [e2] pos) (tV (ev2 (dI gLt) fa fb)) := dt_cmp op_lt o_lt ha hb (nomark _)
theorem dv_gt (ha : DV X G W e1 fa) (hb : DV X G W e2 fb) : DV X G W (.Compare e1 [.Gt] [e2] pos) (ev2 (dI gGt) fa fb) := dv_cmp op_gt o_gt ha hb (nomark _)
theorem dt_gt (ha : DV X G W e1 fa) (hb : DV X G W e2 fb) : DT X G W (.Compare e1 [.Gt] [e2] pos) (tV (ev2 (dI gGt) fa fb)) := dt_cmp op_gt o_gt ha hb (nomark _)
theorem dv_ge (ha : DV X G W e1 fa) (hb : DV X G W e2 fb) : DV X G W (.Compare e1 [.GtE] [e2] pos) (ev2 (dI gGe) fa fb) := dv_cmp op_ge o_ge ha hb (nomark _)
theorem dt_isN (ha : DV X G W e1 fa) (hb : DV X G W e2 fb) : DT X G W (.Compare e1 [.Is] [e2] pos) (tV (ev2 dIs fa fb)) := dt_cmp op_isN o_is ha hb (nomark _)
theorem dv_notN (ha : DV X G W e1 fa) (hb : DV X G W e2 fb) : DV X G W (.Compare e1 [.IsNot] [e2] pos) (ev2 dIsNot fa fb) := dv_cmp op_notN o_isNot ha hb (nomark _)
theorem dt_notN (ha : DV X G W e1 fa) (hb : DV X G W e2 fb) : DT X G W (.Compare e1 [.IsNot] [e2] pos) (tV (ev2 dIsNot fa fb)) := dt_cmp op_notN o_isNot ha hb (nomark _)
theorem dv_eq (hK : G.K = X.K) (hr : Room k X.A) (ha : DV X G W e1 fa) (hb : DV X G W e2 fb) : DV X G W (.Compare e1 [.Eq] [e2] pos) (ev2 dEq fa fb) := dv_cmp (op_eqA hr.units) (by have z := o_eq (G := G); rw [hK] at z; exact z) ha hb (nomark _)
theorem dt_eq (hK : G.K = X.K) (hr : Room k X.A) (ha : DV X G W e1 fa) (hb : DV X G W e2 fb) : DT X G W (.Compare e1 [.Eq] [e2] pos) (tV (ev2 dEq fa fb)) := dt_cmp (op_eqA hr.units) (by have z := o_eq (G := G); rw [hK] at z; exact z) ha hb (nomark _)
theorem dt_ne (hK : G.K = X.K) (hr : Room k X.A) (ha : DV X G W e1 fa) (hb : DV X G W e2 fb) : DT X G W (.Compare e1 [.NotEq] [e2] pos) (tV (ev2 dNe fa fb)) := dt_cmp (op_neA hr.units) (by have z := o_ne (G := G); rw [hK] at z; exact z) ha hb (nomark _)
theorem dv_len (hK : G.K = X.K) (hm : X.mg "len" = none) (ha : DA X G W (e :: es) ga) (hg : Gl X "len" := by rfl) (he : starEach (e :: es) X.env = (false, eval e X.env) :: starEach es X.env := by rfl) (hpl : (backTo pos (starEach es X.env)).any (·.1) = false := by rfl) : DV X G W (.Call (.Name "len" p) (e :: es) [] pos) (cV (un1 gLen) ga) := dv_callB call_len (by have z := c_len (G := G); rw [hK] at z; exact z) hg hm PySem.boot_len ha (by decide) (by decide) he hpl
theorem dv_toint (hm : X.mg "int" = none) (ha : DA X G W (e :: es) ga) (hg : Gl X "int" := by rfl) (he : starEach (e :: es) X.env = (false, eval e X.env) :: starEach es X.env := by rfl) (hpl : (backTo pos (starEach es X.env)).any (·.1) = false := by rfl) : DV X G W (.Call (.Name "int" p) (e :: es) [] pos) (cV (un1 gInt) ga) := dv_callT call_intA c_int hg hm boot_int ha (by decide) (by decide) he hpl
theorem dv_abs (hm : X.mg "abs" = none) (ha : DA X G W (e :: es) ga) (hg : Gl X "abs" := by rfl) (he : starEach (e :: es) X.env = (false, eval e X.env) :: starEach es X.env := by rfl) (hpl : (backTo pos (starEach es X.env)).any (·.1) = false := by rfl) : DV X G W (.Call (.Name "abs" p) (e :: es) [] pos) (cV (un1 gAbs) ga) := dv_callB call_abs c_abs hg hm boot_abs ha (by decide) (by decide) he hpl
theorem dv_min2 (hc : X.calm = true) (hm : X.mg "min" = none) (ha : DA X G W (e :: es) ga) (hg : Gl X "min" := by rfl) (he : starEach (e :: es) X.env = (false, eval e X.env) :: starEach es X.env := by rfl) (hpl : (backTo pos (starEach es X.env)).any (·.1) = false := by rfl) : DV X G W (.Call (.Name "min" p) (e :: es) [] pos) (cV (bi2 gMin2) ga) := dv_callB (call_min2 hc) c_min2 hg hm boot_min ha (by decide) (by decide) he hpl
theorem dm_tolst (hK : G.K = X.K) (hm : X.mg "list" = none) (ha : DA X G W (e :: es) ga) (hg : Gl X "list" := by rfl) (he : starEach (e :: es) X.env = (false, eval e X.env) :: starEach es X.env := by rfl) (hpl : (backTo pos (starEach es X.env)).any (·.1) = false := by rfl) : DM X G W (.Call (.Name "list" p) (e :: es) [] pos) (cN (un1 gList) ga) := dm_callT call_list_of (by have z := c_list (G := G); rw [hK] at z; exact z) hg hm boot_list ha (by decide) (by decide) he hpl
theorem dv_isT {T : String} {tn : Str} {tab : Tg → Option Bool} {p2 : Pos} (hK : G.K = X.K) (it : IsTab X.K G (.type T) tab) (hm : X.mg "isinstance" = none) (hmT : X.mg tn = none) (hv : bootBuiltins tn = some (.type T)) (he : DV X G W e fa) (hg : Gl X "isinstance" := by rfl) (hgT : Gl X tn := by rfl) (hn : tn ≠ "__name__" := by decide) (hd : (tn == ("__debug__" : Str)) = false := by decide)
    (hs : starEach [e, .Name tn p2] X.env = (false, eval e X.env) :: starEach [.Name tn p2] X.env := by rfl) (hs2 : starEach [.Name tn p2] X.env = (false, eval (.Name tn p2) X.env) :: starEach [] X.env := by rfl) (hp : (backTo pos (starEach [.Name tn p2] X.env)).any (·.1) = false := by rfl) :
    DV X G W (.Call (.Name "isinstance" p) [e, .Name tn p2] [] pos) (ev1 (dIsi tab) fa) := dv_is hK (pe_bltn (v := .ty T) hgT hmT hv rfl hn hd) (.ty T) it hm he hg hs hs2 hp
end
end DL
namespace DL
open PySem PySem.Spec PyProof.Rows L2
theorem all_nil {α : Type} {p : α → Prop} : ∀ c ∈ ([] : List α), p c := fun c h => nomatch h
theorem all_cons {α : Type} {p : α → Prop} {a : α} {l : List α} (h : p a) (k : ∀ c ∈ l, p c) : ∀ c ∈ a :: l, p c := fun c hc => (List.mem_cons.mp hc).elim (fun e => e ▸ h) (k c)
theorem cx_no {P : Program} {w : World} {outer : List Env} {H : Hp} {s s' : Shared} {e : Value} (h : L2.CX P w outer H s (fun _ _ _ => False) e s') : False :=
  have ⟨_, _, _, _, _, _, _, _, _, _, _, _, no⟩ := h
  no
end DL
namespace DL
open PySem PySem.Spec PyProof.Rows L2
def noLocA (m : Nat) : Sto → Bool
  | [] => true
  | .nums _ :: r => noLocA m r
  | .obj _ _ ds :: r => noLocs m ds && noLocA m r
  | .vals ds :: r => noLocs m ds && noLocA m r
theorem noLocA_at {m c : Nat} {ns : List Str} {ds : List D} : ∀ {a : Sto} {n : Nat}, noLocA m a = true → a[n]? = some (.obj c ns ds) → noLocs m ds = true
  | [], n, h, e => by simp at e
  | .nums l :: r, 0, h, e => by simp at e
  | .obj c' ns' ds' :: r, 0, h, e => by
    have h' : (noLocs m ds' && noLocA m r) = true := h
    simp at e
    obtain ⟨_, _, rfl⟩ := e
    exact (Bool.and_eq_true_iff.mp h').1
  | .nums l :: r, n + 1, h, e => noLocA_at (a := r) (n := n) h (by simpa using e)
  | .obj c' ns' ds' :: r, n + 1, h, e => by
    have h' : (noLocs m ds' && noLocA m r) = true := h
    exact noLocA_at (a := r) (n := n) (Bool.and_eq_true_iff.mp h').2 (by simpa using e)
  | .vals l :: r, 0, h, e => by simp at e
  | .vals ds' :: r, n + 1, h, e => by
    have h' : (noLocs m ds' && noLocA m r) = true := h
    exact noLocA_at (a := r) (n := n) (Bool.and_eq_true_iff.mp h').2 (by simpa using e)
theorem noLocA_atV {m : Nat} {ds : List D} : ∀ {a : Sto} {n : Nat}, noLocA m a = true → a[n]? = some (.vals ds) → noLocs m ds = true
  | [], n, h, e => by simp at e
  | .vals ds' :: r, 0, h, e => by
    have h' : (noLocs m ds' && noLocA m r) = true := h
    simp at e
    subst e
    exact (Bool.and_eq_true_iff.mp h').1
  | .nums l :: r, 0, h, e => by simp at e
  | .obj _ _ _ :: r, 0, h, e => by simp at e
  | .nums l :: r, n + 1, h, e => noLocA_atV (a := r) (n := n) h (by simpa using e)
  | .obj c' ns' ds' :: r, n + 1, h, e => by
    have h' : (noLocs m ds' && noLocA m r) = true := h
    exact noLocA_atV (a := r) (n := n) (Bool.and_eq_true_iff.mp h').2 (by simpa using e)
  | .vals ds' :: r, n + 1, h, e => by
    have h' : (noLocs m ds' && noLocA m r) = true := h
    exact noLocA_atV (a := r) (n := n) (Bool.and_eq_true_iff.mp h').2 (by simpa using e)
section
variable {G : Gx} {B H : Hp} {ρ R : List Addr} {a : Sto}
theorem Wd.push (w : Wd G B H ρ a R) {x dx : Addr} {c : Nat} (hx : H x = none) (hd : H dx = none) (hn : dx ≠ x) : Wd G B (upd (upd H dx (.own x)) x (.ins (G.T c) dx [])) (ρ ++ [x]) (a ++ [.obj c [] []]) R := by
  have x1 : ∀ q, q ≠ x → q ≠ dx → upd (upd H dx (.own x)) x (.ins (G.T c) dx []) q = H q := fun q h1 h2 => by rw [upd_ne h1, upd_ne h2]
  have old : ∀ q o, H q = some o → upd (upd H dx (.own x)) x (.ins (G.T c) dx []) q = H q := fun q o e => x1 q (ne_of_none e hx) (ne_of_none e hd)
  have nx : x ∉ ρ ++ R := fun z => w.ne hx z rfl
  have nd : dx ∉ ρ ++ R := fun z => w.ne hd z rfl
  have mem : ∀ q, q ∈ (ρ ++ [x]) ++ R → q = x ∨ q ∈ ρ ++ R := fun q z => by
    rcases List.mem_append.mp z with z | z
    · rcases List.mem_append.mp z with z | z
      · exact .inr (List.mem_append_left _ z)
      · exact .inl (List.mem_singleton.mp z)
    · exact .inr (List.mem_append_right _ z)
  refine ⟨fun q o e => ?_, by rw [List.length_append, List.length_append, w.len] <;> rfl, fun n q k h1 h2 => ?_, ?_, fun q hq => ?_, fun q hq => ?_⟩
  · have z := w.ex q o e
    exact (old q o z).trans z
  · by_cases hn2 : n < ρ.length
    · rw [List.getElem?_append_left hn2] at h1
      rw [List.getElem?_append_left (by rw [← w.len]; exact hn2)] at h2
      have z := w.sto n q k h1 h2
      obtain ⟨o', ho⟩ := z.there
      have z2 := z.move (Same.refl _) (old q o' ho) (R' := R) fun y g1 g2 g3 => ⟨old y _ g1, g2, g3⟩
      cases k with
      | nums l => exact z2
      | obj cc ns ds =>
        obtain ⟨dy, xs, y1, y2, y3, y4, y5, y6⟩ := z2
        have dyx : dy ≠ x := fun e => by
          rw [e, upd_same] at y2
          cases y2
        exact ⟨dy, xs, y1, y2, y3, Reps.ext [x] ds xs y4, fun m => (mem dy m).elim dyx y5, y6⟩
      | vals ds =>
        obtain ⟨xs, y1, y4⟩ := z2
        exact ⟨xs, y1, Reps.ext [x] ds xs y4⟩
    · have e1 : n = ρ.length := by
        have l1 := (List.getElem?_eq_some_iff.mp h1).1
        rw [List.length_append, List.length_singleton] at l1
        omega
      subst e1
      rw [List.getElem?_append_right (Nat.le_refl _), Nat.sub_self] at h1
      rw [w.len, List.getElem?_append_right (Nat.le_refl _), Nat.sub_self] at h2
      cases h1
      cases h2
      exact ⟨dx, [], upd_same, by rw [upd_ne hn, upd_same], rfl, Reps.nil, fun m => (mem dx m).elim hn nd, w.noneB hd⟩
  · rw [List.append_assoc]
    exact List.perm_middle.nodup_iff.mpr (List.nodup_cons.mpr ⟨nx, w.nd⟩)
  · rcases mem q hq with rfl | h
    · exact w.noneB hx
    · exact w.bn q h
  · rcases mem q hq with rfl | h
    · rw [upd_same] <;> rfl
    · have z := w.has q h
      obtain ⟨o, ho⟩ := Option.isSome_iff_exists.mp z
      rw [old q o ho]
      exact z
end
structure InitD (P : Program) (w : World) (K : PySem.W.Frag) (mg : Str → Option Value) (base : Heap) (G : Gx) (x : Str) (c k n : Nat) (g : FM) : Prop where
  ex : ∃ (f : Addr) (fd : FuncData) (ps : List Str), ps.length = n ∧ FnOk P w K mg base (L2.CX P w) k f fd ps (spD G g n) ∧ mg x = some (.ref (G.T c)) ∧ Mk K (G.T c) f ∧ Binds K fd ps []
section
variable {X : Cx} {G : Gx} {W : WX} {x : Str} {c k n : Nat} {g : FM} {e : Expr} {es : List Expr} {p pos : Pos}
end
def putN (f : Str) : List Str → List Str
  | [] => [f]
  | g :: r => if g = f then g :: r else g :: putN f r
def putD {α : Type} (f : Str) (d : α) : List Str → List α → List α
  | [], _ => [d]
  | _ :: _, [] => []
  | g :: r, x :: xs => if g = f then d :: xs else x :: putD f d r xs
section
variable {X : Cx} {G : Gx} {W : WX}
end
end DL
namespace DL
open PySem PySem.Spec PyProof.Rows L2
structure OwnD (P : Program) (w : World) (K : PySem.W.Frag) (mg : Str → Option Value) (base : Heap) (G : Gx) (m : Str) (k : Nat) (p : Nat × FM) : Prop where
  ex : ∃ (f : Addr) (fd : FuncData) (ps : List Str), FnOk P w K mg base (L2.CX P w) k f fd ps (spD G p.2 2) ∧ PySem.W.findIn K (.ref (G.T p.1)) m = some (some (.ref f)) ∧ PySem.W.isFn K (.ref f) = true ∧ Binds K fd ps []
structure NeD (K : PySem.W.Frag) (C : Addr) : Prop where
  ne : PySem.W.findIn K (.ref C) "__ne__" = some (some (.builtin "object.__ne__"))
  obj : ∃ nm q N bs hdct sn sub ab col dd k0 k1 k2 k3 k5 newId, K.lookup C = some (excClassObj nm q C N bs [.type "object"] hdct sn sub ab col dd k0 k1 k2 k3 k5 newId)
section
variable {X : Cx} {G : Gx} {W : WX} {k : Nat} {T : List (Nat × FM)}
end
def isO (c : Nat) : D → Bool
  | .obj c' _ _ => decide (c' = c)
  | _ => false
section
variable {X : Cx} {G : Gx} {W : WX} {k : Nat} {T : List (Nat × FM)} {e1 e2 : Expr} {pos : Pos}
def gNeg : D → Option D
  | .int i => some (.int (-i))
  | _ => none
theorem dv_neg {e : Expr} {f : EV} (h : DV X G W e f) : DV X G W (.UnaryOp .USub e pos) (ev1 gNeg f) := by
  obtain ⟨t, p, s⟩ := h.ex
  refine ⟨_, pe_un un_neg p, fun ρ R B H σ δ a Q w sl q => s ρ R B H σ δ a _ w sl (Fin.imp (Fin.seqo q) fun d a1 B1 H1 w1 s1 k1 q1 x r => ?_)⟩
  obtain ⟨d', e1, q2⟩ := q1
  cases d with
  | int i =>
    cases e1
    exact ⟨i, r, q2 _ rfl⟩
  | _ => cases e1
end
end DL
namespace DL
open PySem PySem.Spec PyProof.Rows L2
section
variable {G : Gx} {B H : Hp} {ρ R F : List Addr} {a : Sto}
theorem Wd.updO (w : Wd G B H ρ a R) {p : Addr} {o : HO} (hp : p ∈ R) : Wd G B (upd H p o) ρ a R := by
  have hb := w.bn p (List.mem_append_right _ hp)
  have hρ : ∀ q ∈ ρ, q ≠ p := fun q hq => (List.nodup_append.mp w.nd).2.2 q hq p hp
  refine ⟨fun q x e => ?_, w.len, fun n q c h1 h2 => (w.sto n q c h1 h2).move (Same.refl _) (upd_ne (hρ q (List.mem_of_getElem? h1))) fun dx g1 g2 g3 => ⟨upd_ne fun z => g3 (z ▸ List.mem_append_right _ hp), g2, g3⟩, w.nd, w.bn, fun q hq => ?_⟩
  · rw [upd_ne fun z => by rw [z, hb] at e; cases e]
    exact w.ex q x e
  · by_cases e : q = p
    · rw [e, upd_same] <;> rfl
    · rw [upd_ne e]
      exact w.has q hq
theorem Owns.snoc {m : M} {v : V} {Fm : List Addr} {ms : List M} {xs : List V} (h : Owns G B H ρ ms xs F) (hm : Own G B H ρ m v Fm) : Owns G B H ρ (ms ++ [m]) (xs ++ [v]) (F ++ Fm) :=
  Owns.append h ⟨v, [], Fm, [], rfl, (List.append_nil _).symm, hm, rfl, rfl⟩
end
def sApp (I : List Nat) (i : Nat) (f : EM) : SM := fun δ a => match δ[i]? with
  | some (some (.lst _)) => (lift I f δ a).seq fun m δ1 a1 => (match δ1[i]? with
    | some (some (.lst ms)) => if ms.length < 100000 then .nx (δ1.set i (some (.lst (ms ++ [m])))) a1 else .stuck
    | _ => .stuck)
  | _ => .stuck
section
variable {X : Cx} {G : Gx} {W : WX}
theorem ds_append {e : Expr} {x : Str} {i : Nat} {f : EM} {p1 p2 p3 pos : Pos} (I : List Nat) (he : DM X G W e f) (hN : X.N[i]? = some x) (hv : Vis X.env.scope x)
    (hd : NotDbg x := by decide) (hcd : (x == ("__classdict__" : Str)) = false := by decide)
    (hbase : NoSup X (.Name x p1) "append" := by rfl) (hfew : FewA X p3 [e] := by rfl) (hline : OneRow p2 p3 := by rfl) (hs : HeadP X e [] := by rfl) (hpl : RestP X p3 [] := by rfl)
    (hsw : swapsWith (.Call (.Attribute (.Name x p1) "append" p2) [e] [] p3) none pos.line X.env = pure false := by rfl) :
    DS X G W (.Expr (.Call (.Attribute (.Name x p1) "append" p2) [e] [] p3) pos) (sApp I i f) := by
  obtain ⟨te, pe, se⟩ := he.ex
  refine ⟨_, ps_expr (pe_bm PySem.F.plainAttrs_list PySem.F.slot_list_append PySem.F.type_list_append mt_append (pe_var hN hv hd hcd) (pa_cons pe pa_nil hs) hbase hfew hline hs hpl) hsw, fun ρ R B H σ δ a F Z w os q => ?_⟩
  unfold sApp at q
  cases c0 : δ[i]? with
  | none =>
    rw [c0] at q
    exact q.elim
  | some o0 =>
    rw [c0] at q
    cases o0 with
    | none => exact q.elim
    | some m0 =>
      cases m0 with
      | lst ms0 =>
        obtain ⟨v0, Fi0, Fr0, _, h0, ⟨p, xs0, _, rfl, hp0, _, _⟩, _⟩ := OwnS.take os c0
        refine ⟨.ref p, h0, .inl ⟨rfl, _, SqL.of hp0⟩, ?_⟩
        refine lift_ok se w os (Ox.fin q fun m δ1 a1 B1 H1 v F1 Fa w1 om os1 q1 => ?_)
        cases c1 : δ1[i]? with
        | none =>
          rw [c1] at q1
          exact q1.elim
        | some o1 =>
          rw [c1] at q1
          cases o1 with
          | none => exact q1.elim
          | some m1 =>
            cases m1 with
            | lst ms =>
              dsimp only at q1
              by_cases c2 : ms.length < 100000
              · rw [if_pos c2] at q1
                obtain ⟨v1, Fi, Fr, pf, h1, ⟨p', xs, F', rfl, hp, rfl, oms⟩, h3⟩ := OwnS.take os1 c1
                have ep : p' = p := by
                  rw [h0] at h1
                  cases h1
                  rfl
                subst ep
                have hl : xs.length < sizeLine := by
                  rw [sizeLine_eq, ← oms.len]
                  omega
                refine ⟨p', xs, v, rfl, rfl, hp, hl, ?_⟩
                -- the addresses
                have pq : (F1 ++ (Fa ++ R)).Perm ((p' :: (F' ++ F1)) ++ (Fr ++ R)) := by
                  have z1 : (F1 ++ (Fa ++ R)).Perm (F1 ++ (((p' :: F') ++ Fr) ++ R)) := List.Perm.append_left F1 (List.Perm.append_right R pf)
                  refine z1.trans ?_
                  have z2 : (F1 ++ (((p' :: F') ++ Fr) ++ R)).Perm ((p' :: F') ++ (F1 ++ (Fr ++ R))) := by
                    have z3 : (F1 ++ (p' :: F')).Perm ((p' :: F') ++ F1) := List.perm_append_comm
                    have z4 := List.Perm.append_right (Fr ++ R) z3
                    simpa only [List.append_assoc] using z4
                  refine z2.trans ?_
                  simp only [List.cons_append, List.append_assoc]
                  exact List.Perm.refl _
                have w2 := w1.perm pq
                have nd2 := (List.nodup_append.mp w2.nd).2.1
                have nd3 : p' ∉ (F' ++ F1) ++ (Fr ++ R) := (List.nodup_cons.mp nd2).1
                have ne : ∀ q, q ∈ (F' ++ F1) ++ (Fr ++ R) → q ≠ p' := fun q hq z => nd3 (z ▸ hq)
                have w3 : Wd G B1 (upd H1 p' (.lst (xs ++ [v]))) ρ a1 ((p' :: (F' ++ F1)) ++ (Fr ++ R)) := w2.updO List.mem_cons_self
                have own2 : Own G B1 (upd H1 p' (.lst (xs ++ [v]))) ρ (.lst (ms ++ [m])) (.ref p') (p' :: (F' ++ F1)) :=
                  ⟨p', xs ++ [v], F' ++ F1, rfl, upd_same, rfl, Owns.snoc (Owns.mono (Same.refl _) ms xs F' (fun q hq => upd_ne (ne q (List.mem_append_left _ (List.mem_append_left _ hq)))) oms)
                    (Own.mono (Same.refl _) m v F1 (fun q hq => upd_ne (ne q (List.mem_append_left _ (List.mem_append_right _ hq)))) om)⟩
                have h3' := OwnS.mono (H' := upd H1 p' (.lst (xs ++ [v]))) (Same.refl B1) _ _ _ (fun q hq => upd_ne (ne q (List.mem_append_right _ (List.mem_append_left _ hq)))) h3
                have hi : i < (δ1.set i none).length := by
                  rw [List.length_set]
                  exact (List.getElem?_eq_some_iff.mp c1).1
                obtain ⟨Fa2, Fb2, F3, y1, y3, h6⟩ := OwnS.set own2 h3' hi
                have es : σ.set i (some (.ref p')) = σ := by
                  obtain ⟨hlt, e⟩ := List.getElem?_eq_some_iff.mp h1
                  rw [← e]
                  exact List.set_getElem_self hlt
                rw [List.set_set, es] at h6
                have w4 : Wd G B1 (upd H1 p' (.lst (xs ++ [v]))) ρ a1 (F3 ++ R) := by
                  have z1 : ((p' :: (F' ++ F1)) ++ (Fr ++ R)).Perm (Fa2 ++ (F3 ++ R)) := by
                    have z2 : ((p' :: (F' ++ F1)) ++ (Fr ++ R)).Perm ((p' :: (F' ++ F1)) ++ ((Fa2 ++ Fb2) ++ R)) := List.Perm.append_left _ (List.Perm.append_right R y1)
                    refine z2.trans ?_
                    have z3 : (F3 ++ R).Perm ((p' :: (F' ++ F1)) ++ (Fb2 ++ R)) := by
                      have z4 := List.Perm.append_right R y3
                      simpa only [List.append_assoc] using z4
                    refine List.Perm.trans ?_ (List.Perm.append_left Fa2 z3.symm)
                    have z5 : ((p' :: (F' ++ F1)) ++ Fa2).Perm (Fa2 ++ (p' :: (F' ++ F1))) := List.perm_append_comm
                    have z6 := List.Perm.append_right (Fb2 ++ R) z5
                    simpa only [List.append_assoc] using z6
                  exact (w3.perm z1).drop
                exact q1 B1 _ σ F3 w4 (Same.refl _) (fun q hq => upd_ne (ne q (List.mem_append_right _ (List.mem_append_right _ hq)))) h6
              · rw [if_neg c2] at q1
                exact q1.elim
            | _ => exact q1.elim
      | _ => exact q.elim
end
section
variable {X : Cx} {G : Gx} {W : WX} {k j : Nat} {T : List (Nat × FM)} {e1 e2 : Expr} {pos : Pos} {fa fb : EV}
end
end DL
namespace DL
open PySem PySem.Spec PyProof.Rows L2
abbrev W0 : WX := fun _ _ _ _ => False
section
variable (G : Gx) (W : WX)
def canM (f : EM) : TE := fun σ H Q => ∃ (ρ R : List Addr) (B : Hp) (δ : Sw) (a : Sto), Wd G B H ρ a R ∧ Sls G B ρ δ σ ∧ FinM G W ρ R B H σ (f δ a) (fun _ _ _ H' v _ => Q v H')
def canT (f : ET) : TT := fun σ H Q => ∃ (ρ R : List Addr) (B : Hp) (δ : Sw) (a : Sto), Wd G B H ρ a R ∧ Sls G B ρ δ σ ∧ Fin G W ρ R B H σ (f δ a) (fun b _ _ H' => Q b H')
def canG (vs : List Nat) (g : D → Sw → Option Sw) : TG := fun v σ H Q => ∃ (ρ R : List Addr) (B : Hp) (δ δ' : Sw) (a : Sto) (d : D), Wd G B H ρ a R ∧ Sls G B ρ δ σ ∧ Rep G B ρ d v ∧ g d δ = some δ' ∧ ∀ σ', Sls G B ρ δ' σ' → wipe σ' vs = wipe σ vs → Q σ' H
def GxOk (vs : List Nat) (t : TG) (g : D → Sw → Option Sw) : Prop := ∀ (ρ R : List Addr) (B H : Hp) (σ : L2.St) (δ δ' : Sw) (a : Sto) (d : D) (v : V) (Q : L2.St → Hp → Prop), Wd G B H ρ a R → Sls G B ρ δ σ → Rep G B ρ d v → g d δ = some δ' →
  (∀ σ', Sls G B ρ δ' σ' → wipe σ' vs = wipe σ vs → Q σ' H) → t v σ H Q
end
structure DGx (X : Cx) (G : Gx) (vs : List Nat) (tg : Expr) (g : D → Sw → Option Sw) : Prop where
  ex : ∃ t, PG X tg t ∧ GxOk G vs t g
structure DPs (X : Cx) (G : Gx) (W : WX) (ifs : List Expr) (f : ET) : Prop where
  ex : ∃ t, PTs X ifs t ∧ TOk G W t f
section
variable {X : Cx} {G : Gx} {W : WX}
theorem can_m {e : Expr} {f : EM} (h : DM X G W e f) : PE X e (canM G W f) := by
  obtain ⟨t, p, s⟩ := h.ex
  exact ⟨fun pins s0 σ H Q I ⟨ρ, R, B, δ, a, w, sl, q⟩ => p.run pins s0 σ H Q I (s ρ R B H σ δ a Q w sl q)⟩
theorem can_t {ifs : List Expr} {f : ET} (h : DPs X G W ifs f) : PTs X ifs (canT G W f) := by
  obtain ⟨t, p, s⟩ := h.ex
  exact ⟨fun pins s0 σ H Q I ⟨ρ, R, B, δ, a, w, sl, q⟩ => p.run pins s0 σ H Q I (s ρ R B H σ δ a Q w sl q)⟩
theorem can_g {vs : List Nat} {tg : Expr} {g : D → Sw → Option Sw} (h : DGx X G vs tg g) : PG X tg (canG G vs g) := by
  obtain ⟨t, p, s⟩ := h.ex
  exact ⟨fun pins s0 σ H v u Q I r ⟨ρ, R, B, δ, δ', a, d, w, sl, rd, e, q⟩ => p.run pins s0 σ H v u Q I r (s ρ R B H σ δ δ' a d v Q w sl rd e q)⟩
def tT : ET := fun _ a => .ok true a
theorem dps_nil : DPs X G W [] tT := ⟨tYes, pts_nil, fun ρ R B H σ δ a Q w sl q => q.here w⟩
theorem dps_one {c : Expr} {f : ET} (h : DT X G W c f) : DPs X G W [c] f := by
  obtain ⟨t, p, s⟩ := h.ex
  exact ⟨t, pts_one p, s⟩
theorem wipe_get (σ : L2.St) (n : Nat) : ∀ vs : List Nat, (wipe σ vs)[n]? = if n ∈ vs then (σ[n]?).map (fun _ => none) else σ[n]?
  | [] => by simp [wipe]
  | v :: vs => by
    have ih := wipe_get σ n vs
    have hl := wipe_length σ vs
    unfold wipe
    rw [List.getElem?_set, hl]
    by_cases e : v = n
    · subst e
      rw [if_pos rfl, if_pos List.mem_cons_self]
      by_cases l : v < σ.length
      · rw [if_pos l, List.getElem?_eq_getElem l]
        rfl
      · rw [if_neg l, List.getElem?_eq_none (by omega)]
        rfl
    · rw [if_neg e, ih]
      have m : n ∈ v :: vs ↔ n ∈ vs := by
        rw [List.mem_cons]
        exact ⟨fun z => z.resolve_left fun y => e y.symm, .inr⟩
      by_cases c : n ∈ vs
      · rw [if_pos c, if_pos (m.mpr c)]
      · rw [if_neg c, if_neg fun z => c (m.mp z)]
theorem wipe_wipe (σ : L2.St) (vs : List Nat) : wipe (wipe σ vs) vs = wipe σ vs := by
  refine List.ext_getElem? fun n => ?_
  rw [wipe_get, wipe_get]
  by_cases c : n ∈ vs
  · rw [if_pos c, if_pos c, Option.map_map]
    rfl
  · rw [if_neg c, if_neg c]
theorem wipe_set {σ : L2.St} {vs : List Nat} {i : Nat} {o : Option V} (h : i ∈ vs) : wipe (σ.set i o) vs = wipe σ vs := by
  refine List.ext_getElem? fun n => ?_
  rw [wipe_get, wipe_get]
  by_cases c : n ∈ vs
  · rw [if_pos c, if_pos c, List.getElem?_set]
    by_cases e : i = n
    · subst e
      rw [if_pos rfl]
      by_cases l : i < σ.length
      · rw [if_pos l, List.getElem?_eq_getElem l]
        rfl
      · rw [if_neg l, List.getElem?_eq_none (by omega)]
    · rw [if_neg e]
  · rw [if_neg c, if_neg c, List.getElem?_set_ne (fun z : i = n => c (z ▸ h))]
def wipeD (δ : Sw) : List Nat → Sw
  | [] => δ
  | v :: vs => (wipeD δ vs).set v none
theorem Sls.wipe {B : Hp} {ρ : List Addr} {δ : Sw} {σ : L2.St} (h : Sls G B ρ δ σ) : ∀ vs, Sls G B ρ (wipeD δ vs) (L2.wipe σ vs)
  | [] => h
  | v :: vs => Sls.none (Sls.wipe h vs)
def gNm (i : Nat) (d : D) (δ : Sw) : Option Sw := some (δ.set i (some d))
theorem dgx_name {i : Nat} {x : Str} {pos : Pos} {vs : List Nat} (hN : X.N.Nodup) (hi : X.N[i]? = some x) (hx : Loc X.env.scope x) (hv : i ∈ vs) (hf : X.fn x = true ∨ X.env.scope.names.lookup x = some .local := by first | exact .inl rfl | exact .inr rfl) : DGx X G vs (.Name x pos) (gNm i) :=
  ⟨gName i, pg_name hN hi hx hf, fun ρ R B H σ δ δ' a d v Q w sl r e q => by
    cases e
    exact q _ (sl.set r) (wipe_set hv)⟩
def lcGo (gt : D → Sw → Option Sw) (ft : ET) (fe : EM) (δ : Sw) : List D → List M → Sto → Out (List M)
  | [], acc, a => .ok acc a
  | d :: ds, acc, a => match gt d δ with
    | none => .stuck
    | some δ1 => (match ft δ1 a with
      | .ok true a1 => (match fe δ1 a1 with
        | .ok m a2 => if acc.length < 100000 then lcGo gt ft fe δ ds (acc ++ [m]) a2 else .stuck
        | _ => .stuck)
      | .ok false a1 => lcGo gt ft fe δ ds acc a1
      | _ => .stuck)
def lcM (vs : List Nat) (it : EI) (gt : D → Sw → Option Sw) (ft : ET) (fe : EM) : EM := fun δ a => (it δ a).bind fun ds a1 => (lcGo gt ft fe (wipeD δ vs) ds [] a1).map M.lst
theorem MOk.lc {wi : TI} {it : EI} {fr : Bool} {gt : D → Sw → Option Sw} {ft : ET} {fe : EM} {vs : List Nat} (si : IOk G W fr wi it) : MOk G W (tLc wi (canG G vs gt) (canT G W0 ft) (canM G W0 fe) vs) (lcM vs it gt ft fe) := fun ρ R B H σ δ a Q w sl q =>
  si ρ R B H σ δ a _ w sl (Fin.imp (Fin.seqM q) fun ds a1 B1 H1 w1 s1 k1 q1 J sv D hD => by
    have sv1 : Srv G B1 ρ J ds := by
      cases fr with
      | true => exact Srv.any sv
      | false => exact sv
    have slw := (sl.mono s1).wipe vs
    refine ⟨fun i m H' => m = ds.length - i ∧ i ≤ ds.length ∧ ∃ (B' : Hp) (a' : Sto) (acc : List M) (xs : List V) (F : List Addr), Same B1 B' ∧ Wd G B' H' ρ a' ((D :: F) ++ R) ∧ H' D = some (.lst xs) ∧ Owns G B' H' ρ acc xs F ∧
      FinM G W ρ R B' H' σ ((lcGo gt ft fe (wipeD δ vs) (ds.drop i) acc a').map M.lst) (fun _ _ _ H' v _ => Q v H'), ⟨ds.length, rfl, Nat.zero_le _, B1, a1, [], [], [], Same.refl _, w1.newOwn hD, upd_same, ⟨rfl, rfl⟩, FinM.base q1 (Same.refl _) (kp_new w1 hD)⟩, ?_⟩
    rintro i m H' ⟨rfl, hi, B', a', acc, xs, F, sm, w2, hx, ow, q2⟩
    obtain ⟨g1, g2, g3⟩ := sv1 B' H' a' _ sm w2
    by_cases hlt : i < ds.length
    · refine .inr ⟨g1 i hlt, fun H2 => ∃ (B2 : Hp) (a2 : Sto) (acc : List M) (xs : List V) (F : List Addr), Same B1 B2 ∧ Wd G B2 H2 ρ a2 ((D :: F) ++ R) ∧ H2 D = some (.lst xs) ∧ Owns G B2 H2 ρ acc xs F ∧
        FinM G W ρ R B2 H2 σ ((lcGo gt ft fe (wipeD δ vs) (ds.drop (i + 1)) acc a2).map M.lst) (fun _ _ _ H' v _ => Q v H'), fun H2 z => ⟨ds.length - (i + 1), by omega, rfl, hlt, z⟩, fun x H2 y => ?_⟩
      obtain ⟨B2, w3, sm2, kp2, rd⟩ := g3 i ds[i] (List.getElem?_eq_getElem hlt) x H2 y
      rw [List.drop_eq_getElem_cons hlt] at q2
      unfold lcGo at q2
      cases cg : gt ds[i] (wipeD δ vs) with
      | none =>
        rw [cg] at q2
        exact q2.elim
      | some δ1 =>
        rw [cg] at q2
        dsimp only at q2
        have hD2 : H2 D = some (.lst xs) := (kp2 D List.mem_cons_self).trans hx
        have kR : ∀ {Ha Hb : Hp}, Kp ((D :: F) ++ R) Ha Hb → Kp R Ha Hb := fun z p hp => z p (List.mem_append_right _ hp)
        refine ⟨ρ, _, B2, wipeD δ vs, δ1, a', ds[i], w3, slw.mono (sm.trans sm2), rd, cg, fun σ2 sl2 hw => ⟨hw.trans (wipe_wipe σ vs), ρ, _, B2, δ1, a', w3, sl2, ?_⟩⟩
        cases ct : ft δ1 a' with
        | stuck =>
          rw [ct] at q2
          exact q2.elim
        | exc _ _ _ _ =>
          rw [ct] at q2
          exact q2.elim
        | ok b a3 =>
          rw [ct] at q2
          intro B3 H3 w4 sm3 kp3
          cases b with
          | false =>
            rw [if_neg (by decide)]
            refine ⟨B3, a3, acc, xs, F, (sm.trans sm2).trans sm3, w4, (kp3 D List.mem_cons_self).trans hD2, Owns.mono (sm2.trans sm3) acc xs F (fun p hp => ?_) ow, FinM.base q2 (sm2.trans sm3) ((kR kp2).trans (kR kp3))⟩
            have hp' : p ∈ (D :: F) ++ R := List.mem_append_left _ (List.mem_cons_of_mem _ hp)
            exact (kp3 p hp').trans (kp2 p hp')
          | true =>
            rw [if_pos rfl]
            dsimp only at q2
            refine ⟨ρ, _, B3, δ1, a3, w4, sl2.mono sm3, ?_⟩
            cases ce : fe δ1 a3 with
            | stuck =>
              rw [ce] at q2
              exact q2.elim
            | exc _ _ _ _ =>
              rw [ce] at q2
              exact q2.elim
            | ok m a4 =>
              rw [ce] at q2
              intro B4 H4 v F4 w5 sm4 kp4 om
              dsimp only at q2
              by_cases hz : acc.length < 100000
              · rw [if_pos hz] at q2
                have hD4 : H4 D = some (.lst xs) := (kp4 D List.mem_cons_self).trans ((kp3 D List.mem_cons_self).trans hD2)
                refine ⟨xs, hD4, by rw [sizeLine_eq, ← ow.len]; omega, ?_⟩
                have pq : (F4 ++ ((D :: F) ++ R)).Perm ((D :: (F ++ F4)) ++ R) := by
                  have z1 : (F4 ++ (D :: F)).Perm ((D :: F) ++ F4) := List.perm_append_comm
                  have z2 := List.Perm.append_right R z1
                  simpa only [List.append_assoc, List.cons_append] using z2
                have w6 := w5.perm pq
                have nD : D ∉ (F ++ F4) ++ R := (List.nodup_cons.mp (List.nodup_append.mp w6.nd).2.1).1
                have ne : ∀ p, p ∈ (F ++ F4) ++ R → p ≠ D := fun p hp z => nD (z ▸ hp)
                have back : ∀ p, p ∈ (D :: F) ++ R → H4 p = H' p := fun p hp => (kp4 p hp).trans ((kp3 p hp).trans (kp2 p hp))
                refine ⟨B4, a4, acc ++ [m], xs ++ [v], F ++ F4, ((sm.trans sm2).trans sm3).trans sm4, w6.updO List.mem_cons_self, upd_same, Owns.snoc (Owns.mono ((sm2.trans sm3).trans sm4) acc xs F (fun p hp => ?_) ow) (Own.mono (Same.refl _) m v F4 (fun p hp => upd_ne (ne p (List.mem_append_left _ (List.mem_append_right _ hp)))) om), FinM.base q2 ((sm2.trans sm3).trans sm4) fun p hp => ?_⟩
                · rw [upd_ne (ne p (List.mem_append_left _ (List.mem_append_left _ hp)))]
                  exact back p (List.mem_append_left _ (List.mem_cons_of_mem _ hp))
                · rw [upd_ne (ne p (List.mem_append_right _ hp))]
                  exact back p (List.mem_append_right _ hp)
              · rw [if_neg hz] at q2
                exact q2.elim
    · have e : i = ds.length := by omega
      subst e
      refine .inl ⟨g2, ?_⟩
      rw [List.drop_length] at q2
      exact q2 B' H' (.ref D) (D :: F) w2 (Same.refl _) Kp.refl ⟨D, xs, F, rfl, hx, rfl, ow⟩)
theorem dm_lc {elt tg iter : Expr} {ifs : List Expr} {scope : Scope} {own : List (Str × Nat)} {pos : Pos} {it : EI} {fr : Bool} {gt : D → Sw → Option Sw} {ft : ET} {fe : EM} (hc : X.calm = true) (hN : X.N.Nodup) (hi : DI X G W tg iter fr it) (ok : BlkOk X.N X.env.scope scope own)
    (hg : ∀ (s : Shared) (H : Hp) (C : Addr) (cl : List (Str × Addr)) (fp : List Addr), DGx (X.blk s H scope (compEnvC scope cl C X.env) fp) G (own.map (·.2)) tg gt)
    (ht : ∀ (s : Shared) (H : Hp) (C : Addr) (cl : List (Str × Addr)) (fp : List Addr), DPs (X.blk s H scope (compEnvC scope cl C X.env) fp) G W0 ifs ft)
    (he : ∀ (s : Shared) (H : Hp) (C : Addr) (cl : List (Str × Addr)) (fp : List Addr), DM (X.blk s H scope (compEnvC scope cl C X.env) fp) G W0 elt fe) (hs : ∀ x, foldedSetIterable iter X.env x = pure x := by intro _; rfl) :
    DM X G W (.ListComp elt [⟨tg, iter, ifs, 0⟩] scope pos) (lcM (own.map (·.2)) it gt ft fe) := by
  obtain ⟨wi, pi, si⟩ := hi.ex
  exact ⟨_, pe_lc hc hN pi ok (fun s H C cl fp => can_g (hg s H C cl fp)) (fun s H C cl fp => can_t (ht s H C cl fp)) (fun s H C cl fp => can_m (he s H C cl fp)) hs, MOk.lc si⟩
end
section
variable {X : Cx} {G : Gx} {W : WX}
theorem ds_setLc {i : Nat} {y : Str} {py : Pos} {elt tg iter : Expr} {ifs : List Expr} {scope : Scope} {own : List (Str × Nat)} {pos spos : Pos} {it : EI} {fr : Bool} {gt : D → Sw → Option Sw} {ft : ET} {fe : EM} (I : List Nat) (hc : X.calm = true) (hN : X.N.Nodup) (hy : X.N[i]? = some y) (hyl : X.env.scope.names.lookup y = some .local)
    (hsw : swapsWith (.ListComp elt [⟨tg, iter, ifs, 0⟩] scope pos) (some (.Name y py)) spos.line X.env = pure true) (hi : DI X G W tg iter fr it) (ok : BlkOk X.N X.env.scope scope own)
    (hg : ∀ (s : Shared) (H : Hp) (C : Addr) (cl : List (Str × Addr)) (fp : List Addr), DGx (X.blk s H scope (compEnvC scope cl C X.env) fp) G (own.map (·.2)) tg gt)
    (ht : ∀ (s : Shared) (H : Hp) (C : Addr) (cl : List (Str × Addr)) (fp : List Addr), DPs (X.blk s H scope (compEnvC scope cl C X.env) fp) G W0 ifs ft)
    (he : ∀ (s : Shared) (H : Hp) (C : Addr) (cl : List (Str × Addr)) (fp : List Addr), DM (X.blk s H scope (compEnvC scope cl C X.env) fp) G W0 elt fe) (hs : ∀ x, foldedSetIterable iter X.env x = pure x := by intro _; rfl) :
    DS X G W (.Assign [.Name y py] (.ListComp elt [⟨tg, iter, ifs, 0⟩] scope pos) spos) (sSet i I (lcM (own.map (·.2)) it gt ft fe)) := by
  obtain ⟨wi, pi, si⟩ := hi.ex
  exact ⟨_, ps_setLc hc hN hy hyl hsw pi ok (fun s H C cl fp => can_g (hg s H C cl fp)) (fun s H C cl fp => can_t (ht s H C cl fp)) (fun s H C cl fp => can_m (he s H C cl fp)) hs, SOk.set (MOk.lc si)⟩
end
end DL
namespace DL
open PySem PySem.Spec PyProof.Rows L2
section
variable {δ : Sw} {a : Sto} {f g : EV} {f1 g1 : EM} {t u : ET} {l : EA} {ll : EL}
@[simp] theorem x_eC (d : D) : eC d δ a = .ok d a := rfl
@[simp] theorem x_var0 (d : D) (r : Sw) : eVar 0 (some d :: r) a = .ok d a := rfl
@[simp] theorem x_varS (i : Nat) (o : Option D) (r : Sw) : eVar (i + 1) (o :: r) a = eVar i r a := rfl
@[simp] theorem x_mV : mV f δ a = (f δ a).map M.val := rfl
@[simp] theorem x_vM : vM f1 δ a = (f1 δ a).map freeze := rfl
@[simp] theorem x_ev1 (h : D → Option D) : ev1 h f δ a = (f δ a).opt h := rfl
@[simp] theorem x_ev2 (h : D → D → Option D) : ev2 h f g δ a = (f δ a).bind fun d a' => (g δ a').opt (h d) := rfl
@[simp] theorem x_tV : tV f δ a = (f δ a).opt asB := rfl
@[simp] theorem x_tN : tN t δ a = (t δ a).map not := rfl
@[simp] theorem x_tAn : tAn t u δ a = (t δ a).bind fun b a1 => if b = true then u δ a1 else .ok false a1 := rfl
@[simp] theorem x_tOn : tOn t u δ a = (t δ a).bind fun b a1 => if b = true then .ok true a1 else u δ a1 := rfl
@[simp] theorem x_vAn : vAn f g δ a = ((f δ a).opt asB).bind fun b a1 => if b = true then g δ a1 else .ok (.bl false) a1 := rfl
@[simp] theorem x_vOn : vOn f g δ a = ((f δ a).opt asB).bind fun b a1 => if b = true then .ok (.bl true) a1 else g δ a1 := rfl
@[simp] theorem x_vN : vN f δ a = ((f δ a).opt asB).map fun b => .bl (!b) := rfl
@[simp] theorem x_eIf : eIf t f1 g1 δ a = (t δ a).bind fun b a1 => if b = true then f1 δ a1 else g1 δ a1 := rfl
@[simp] theorem x_aNil : aNil δ a = .ok [] a := rfl
@[simp] theorem x_aCons : aCons f l δ a = (f δ a).bind fun d a1 => (l δ a1).map fun ds => d :: ds := rfl
@[simp] theorem x_lNil : lNil δ a = .ok [] a := rfl
@[simp] theorem x_lCons : lCons f1 ll δ a = (f1 δ a).bind fun m a1 => (ll δ a1).map fun ms => m :: ms := rfl
def newM (a : Sto) : Option New → Out M
  | some nw => .ok nw.m a
  | none => .stuck
def newV (a : Sto) : Option New → Out D
  | some nw => .ok nw.d a
  | none => .stuck
@[simp] theorem newM_some (nw : New) : newM a (some nw) = .ok nw.m a := rfl
@[simp] theorem newV_some (nw : New) : newV a (some nw) = .ok nw.d a := rfl
@[simp] theorem new_m1 (d : D) : (New.val d).m = .val d := rfl
@[simp] theorem new_m2 (l : List D) : (New.lst l).m = .lst (l.map M.val) := rfl
@[simp] theorem new_m3 (l : List D) : (New.tup l).m = .val (.tup l) := rfl
@[simp] theorem new_d1 (d : D) : (New.val d).d = d := rfl
@[simp] theorem new_d2 (l : List D) : (New.lst l).d = .lst l := rfl
@[simp] theorem new_d3 (l : List D) : (New.tup l).d = .tup l := rfl
@[simp] theorem x_eN (h : D → D → Option New) : eN h f g δ a = (f δ a).bind fun d a1 => (g δ a1).bind fun e a2 => newM a2 (h d e) := by
  unfold eN
  congr
@[simp] theorem x_vNw (h : D → D → Option New) : vNw h f g δ a = (f δ a).bind fun d a1 => (g δ a1).bind fun e a2 => newV a2 (h d e) := by
  unfold vNw
  congr
@[simp] theorem x_vS (h : Sto → D → D → Option New) : vS h f g δ a = (f δ a).bind fun d a1 => (g δ a1).bind fun e a2 => newV a2 (h a2 d e) := by
  unfold vS
  congr
@[simp] theorem x_cN (h : Sto → List D → Option New) : cN h l δ a = (l δ a).bind fun ds a1 => newM a1 (h a1 ds) := by
  unfold cN
  congr
@[simp] theorem x_cV (h : Sto → List D → Option New) : cV h l δ a = (l δ a).bind fun ds a1 => newV a1 (h a1 ds) := by
  unfold cV
  congr
@[simp] theorem x_un1 (h : Sto → D → Option New) (d : D) : un1 h a [d] = h a d := rfl
@[simp] theorem x_bi2 (h : Sto → D → D → Option New) (d e : D) : bi2 h a [d, e] = h a d e := rfl
@[simp] theorem x_callM (n : Nat) (h : FM) : callM n h l δ a = (l δ a).bind fun ds a1 => if ds.length = n then h ds a1 else .stuck := rfl
@[simp] theorem x_mLst : mLst ll δ a = (ll δ a).bind fun ms a1 => if ms.length ≤ 100000 then .ok (.lst ms) a1 else .stuck := rfl
@[simp] theorem x_mTup : mTup ll δ a = (ll δ a).bind fun ms a1 => if ms.length ≤ 100000 then .ok (mkTup ms) a1 else .stuck := rfl
@[simp] theorem x_oNo : oNo δ a = .ok none a := rfl
@[simp] theorem x_oSome : oSome f δ a = (f δ a).opt asI := rfl
@[simp] theorem x_slN (fl fh : EO) : slN f fl fh δ a = (f δ a).bind fun d a1 => (fl δ a1).bind fun lo a2 => (fh δ a2).bind fun hi a3 => newM a3 (dSl d lo hi) := by
  unfold slN
  congr
@[simp] theorem x_excM (c : Nat) (fs : List Str) : excM c fs l δ a = (l δ a).bind fun ds a1 => if ds.length = fs.length then .exc c fs ds a1 else .stuck := rfl
def optK {γ : Type} (a : Sto) : Option γ → Out γ
  | some r => .ok r a
  | none => .stuck
@[simp] theorem optK_some {γ : Type} (r : γ) : optK a (some r) = .ok r a := rfl
@[simp] theorem x_opt {β γ : Type} (b : β) (h : β → Option γ) : (Out.ok b a).opt h = optK a (h b) := by
  rw [opt_ok]
  cases h b <;> rfl
@[simp] theorem x_iSeq : iSeq f δ a = (f δ a).opt items := rfl
@[simp] theorem x_iR1 : DL.iRng1 l δ a = (l δ a).opt gRng1 := rfl
@[simp] theorem x_iR2 : DL.iRng2 l δ a = (l δ a).opt gRng2 := rfl
@[simp] theorem x_bm1 (h : Str → List D → Option D) : bm1 h f l δ a = (f δ a).bind fun o a1 => match o with
  | .str s => (l δ a1).bind fun ds a2 => optK a2 (h s ds)
  | _ => .stuck := by
  unfold bm1
  congr
  funext o a1
  cases o with
  | str s =>
    dsimp only
    congr
    funext ds a2
    cases h s ds <;> rfl
  | _ => rfl
end
@[simp] theorem asB_bl (b : Bool) : asB (.bl b) = some b := rfl
@[simp] theorem asI_int (i : Int) : asI (.int i) = some (some i) := rfl
@[simp] theorem dI_int (g : Int → Int → Option D) (i j : Int) : dI g (.int i) (.int j) = g i j := rfl
@[simp] theorem r_sub (i j : Int) : DL.gSub i j = some (.int (i - j)) := rfl
@[simp] theorem r_lt (i j : Int) : gLt i j = some (.bl (decide (i < j))) := rfl
@[simp] theorem r_le (i j : Int) : gLe i j = some (.bl (decide (i ≤ j))) := rfl
@[simp] theorem r_gt (i j : Int) : gGt i j = some (.bl (decide (j < i))) := rfl
@[simp] theorem r_ge (i j : Int) : gGe i j = some (.bl (decide (j ≤ i))) := rfl
theorem r_mod {i j : Int} (h : 0 < j) : gMod i j = some (.int (i % j)) := if_pos h
theorem r_div {i j : Int} (h : 0 < j) (h2 : j < 18446744073709551616) : gDiv i j = some (.int (i / j)) := if_pos ⟨h, h2⟩
@[simp] theorem r_addI (i j : Int) : dAdd (.int i) (.int j) = some (.val (.int (i + j))) := rfl
theorem r_mulL {i j : Int} (h : -(2 ^ 64) < i ∧ i < 2 ^ 64) : dMul (.int i) (.int j) = some (.val (.int (i * j))) := if_pos (.inl h)
theorem r_mulR {i j : Int} (h : -(2 ^ 64) < j ∧ j < 2 ^ 64) : dMul (.int i) (.int j) = some (.val (.int (i * j))) := if_pos (.inr h)
@[simp] theorem r_int (a : Sto) (i : Int) : gInt a (.int i) = some (.val (.int i)) := rfl
@[simp] theorem r_intB (a : Sto) (b : Bool) : gInt a (.bl b) = some (.val (.int (if b then 1 else 0))) := rfl
@[simp] theorem r_abs (a : Sto) (i : Int) : gAbs a (.int i) = some (.val (.int (if i < 0 then -i else i))) := rfl
@[simp] theorem r_lenS (a : Sto) (l : List Int) : gLen a (.scr l) = some (.val (.int l.length)) := rfl
@[simp] theorem r_lenL (a : Sto) (l : List D) : gLen a (.lst l) = some (.val (.int l.length)) := rfl
@[simp] theorem r_lenT (a : Sto) (l : List D) : gLen a (.tup l) = some (.val (.int l.length)) := rfl
@[simp] theorem r_eqI (i j : Int) : dEq (.int i) (.int j) = some (.bl (i == j)) := rfl
@[simp] theorem r_eqS (i j : Str) : dEq (.str i) (.str j) = some (.bl (i == j)) := rfl
@[simp] theorem r_neI (i j : Int) : dNe (.int i) (.int j) = some (.bl (!(i == j))) := rfl
@[simp] theorem r_neS (i j : Str) : dNe (.str i) (.str j) = some (.bl (!(i == j))) := rfl
section
variable {δ : SlM} {a : Sto}
@[simp] theorem x_sNil : sNil δ a = .nx δ a := rfl
@[simp] theorem x_sSeq (f g : SM) : sSeq f g δ a = (f δ a).seq g := rfl
@[simp] theorem x_sBrk : sBrk δ a = .bk δ a := rfl
@[simp] theorem x_sCnt : sCnt δ a = .ct δ a := rfl
theorem frz_nil : ∀ (n : Nat) (δ : SlM), frz [] n δ = δ
  | _, [] => rfl
  | n, none :: r => congrArg _ (frz_nil (n + 1) r)
  | n, some (.val _) :: r => congrArg _ (frz_nil (n + 1) r)
  | n, some (.lst _) :: r => by
    show (if n ∈ [] then _ else _) :: frz [] (n + 1) r = _
    rw [if_neg (List.not_mem_nil), frz_nil (n + 1) r]
  | n, some (.tup _) :: r => by
    show (if n ∈ [] then _ else _) :: frz [] (n + 1) r = _
    rw [if_neg (List.not_mem_nil), frz_nil (n + 1) r]
  | n, some (.obj _ _ _) :: r => by
    show (if n ∈ [] then _ else _) :: frz [] (n + 1) r = _
    rw [if_neg (List.not_mem_nil), frz_nil (n + 1) r]
  | n, some (.pin k (.val _)) :: r => congrArg _ (frz_nil (n + 1) r)
  | n, some (.pin k (.lst _)) :: r => by
    show (if n ∈ [] then _ else _) :: frz [] (n + 1) r = _
    rw [if_neg (List.not_mem_nil), frz_nil (n + 1) r]
  | n, some (.pin k (.tup _)) :: r => by
    show (if n ∈ [] then _ else _) :: frz [] (n + 1) r = _
    rw [if_neg (List.not_mem_nil), frz_nil (n + 1) r]
  | n, some (.pin k (.obj _ _ _)) :: r => by
    show (if n ∈ [] then _ else _) :: frz [] (n + 1) r = _
    rw [if_neg (List.not_mem_nil), frz_nil (n + 1) r]
  | n, some (.pin k (.pin _ _)) :: r => by
    show (if n ∈ [] then _ else _) :: frz [] (n + 1) r = _
    rw [if_neg (List.not_mem_nil), frz_nil (n + 1) r]
def liftK (I : List Nat) (δ : SlM) : Out M → Ox M
  | .ok m a' => .ok m (if (clM (kin I 0 δ) m && clA (kin I 0 δ) a') = true then δ else frz I 0 δ) a'
  | .exc c ns ds a' => .exc c ns ds (if (cls (kin I 0 δ) ds && clA (kin I 0 δ) a') = true then δ else frz I 0 δ) a'
  | .stuck => .stuck
def liftTK (I : List Nat) (δ : SlM) : Out Bool → Ox Bool
  | .ok b a' => .ok b (if clA (kin I 0 δ) a' = true then δ else frz I 0 δ) a'
  | .exc c ns ds a' => .exc c ns ds (if (cls (kin I 0 δ) ds && clA (kin I 0 δ) a') = true then δ else frz I 0 δ) a'
  | .stuck => .stuck
def liftIK (fr : Bool) (I : List Nat) (δ : SlM) : Out (List D) → Ox (List D)
  | .ok b a' => .ok b (if (fr && clA (kin I 0 δ) a') = true then δ else frz I 0 δ) a'
  | .exc c ns ds a' => .exc c ns ds (if (cls (kin I 0 δ) ds && clA (kin I 0 δ) a') = true then δ else frz I 0 δ) a'
  | .stuck => .stuck
@[simp] theorem x_lift (I : List Nat) (f : EM) : lift I f δ a = liftK I δ (f (see I 0 δ) a) := by
  unfold lift liftK
  cases f (see I 0 δ) a <;> rfl
@[simp] theorem x_liftT (I : List Nat) (f : ET) : liftT I f δ a = liftTK I δ (f (see I 0 δ) a) := by
  unfold liftT liftTK
  cases f (see I 0 δ) a <;> rfl
@[simp] theorem x_liftI (fr : Bool) (I : List Nat) (f : EI) : liftI fr I f δ a = liftIK fr I δ (f (see I 0 δ) a) := by
  unfold liftI liftIK
  cases f (see I 0 δ) a <;> rfl
@[simp] theorem k_ok (m : M) : liftK [] δ (.ok m a) = .ok m δ a := by
  show Ox.ok m (if (clM (kin [] 0 δ) m && clA (kin [] 0 δ) a) = true then δ else frz [] 0 δ) a = _
  rw [frz_nil]
  split <;> rfl
@[simp] theorem k_exc (c : Nat) (ns : List Str) (ds : List D) : liftK [] δ (.exc c ns ds a) = .exc c ns ds δ a := by
  show Ox.exc c ns ds (if (cls (kin [] 0 δ) ds && clA (kin [] 0 δ) a) = true then δ else frz [] 0 δ) a = _
  rw [frz_nil]
  split <;> rfl
@[simp] theorem clA_nil (k : Kd) : clA k [] = true := rfl
@[simp] theorem clA_nums (k : Kd) (l : List Int) (r : Sto) : clA k (.nums l :: r) = clA k r := rfl
@[simp] theorem clA_obj (k : Kd) (c : Nat) (ns : List Str) (ds : List D) (r : Sto) : clA k (.obj c ns ds :: r) = (cls k ds && clA k r) := rfl
@[simp] theorem kT_ok0 (b : Bool) : liftTK [] δ (.ok b a) = .ok b δ a := by
  show Ox.ok b (if clA (kin [] 0 δ) a = true then δ else frz [] 0 δ) a = _
  rw [frz_nil]
  split <;> rfl
theorem kT_ok (I : List Nat) (b : Bool) : liftTK I δ (.ok b a) = .ok b (if clA (kin I 0 δ) a = true then δ else frz I 0 δ) a := rfl
@[simp] theorem kT_okN (I : List Nat) (b : Bool) (l : List Int) : liftTK I δ (.ok b [.nums l]) = .ok b δ [.nums l] := rfl
@[simp] theorem kT_exc (c : Nat) (ns : List Str) (ds : List D) : liftTK [] δ (.exc c ns ds a) = .exc c ns ds δ a := by
  show Ox.exc c ns ds (if (cls (kin [] 0 δ) ds && clA (kin [] 0 δ) a) = true then δ else frz [] 0 δ) a = _
  rw [frz_nil]
  split <;> rfl
@[simp] theorem kI_ok (b : List D) (fr : Bool) : liftIK fr [] δ (.ok b a) = .ok b δ a := by
  show Ox.ok b (if (fr && clA (kin [] 0 δ) a) = true then δ else frz [] 0 δ) a = _
  rw [frz_nil]
  split <;> rfl
@[simp] theorem kI_frN (I : List Nat) (b : List D) (l : List Int) : liftIK true I δ (.ok b [.nums l]) = .ok b δ [.nums l] := rfl
@[simp] theorem kI_exc (c : Nat) (ns : List Str) (ds : List D) (fr : Bool) : liftIK fr [] δ (.exc c ns ds a) = .exc c ns ds δ a := by
  show Ox.exc c ns ds (if (cls (kin [] 0 δ) ds && clA (kin [] 0 δ) a) = true then δ else frz [] 0 δ) a = _
  rw [frz_nil]
  split <;> rfl
@[simp] theorem see_0 (I : List Nat) (n : Nat) : see I n [] = [] := rfl
@[simp] theorem see_1 (I : List Nat) (n : Nat) (r : SlM) : see I n (none :: r) = none :: see I (n + 1) r := rfl
@[simp] theorem see_2 (I : List Nat) (n : Nat) (d : D) (r : SlM) : see I n (some (.val d) :: r) = some d :: see I (n + 1) r := rfl
@[simp] theorem see_3 (I : List Nat) (n : Nat) (l : List M) (r : SlM) : see I n (some (.lst l) :: r) = (if n ∈ I then some (freeze (.lst l)) else none) :: see I (n + 1) r := rfl
@[simp] theorem see_4 (I : List Nat) (n : Nat) (l : List M) (r : SlM) : see I n (some (.tup l) :: r) = (if n ∈ I then some (freeze (.tup l)) else none) :: see I (n + 1) r := rfl
@[simp] theorem put_0 (m : M) (o : Option M) (r : SlM) : put 0 m (o :: r) a = .nx (some m :: r) a := by
  unfold put
  rw [if_pos (by simp)]
  rfl
theorem put_e {i : Nat} {m : M} (h : i < δ.length) : put i m δ a = .nx (δ.set i (some m)) a := if_pos h
@[simp] theorem x_sSet (i : Nat) (I : List Nat) (f : EM) : sSet i I f δ a = (lift I f δ a).seq (put i) := rfl
@[simp] theorem x_sDrop (I : List Nat) (f : EM) : sDrop I f δ a = (lift I f δ a).seq fun _ δ' a' => .nx δ' a' := rfl
@[simp] theorem x_sRet (I : List Nat) (f : EM) : sRet I f δ a = (lift I f δ a).seq fun m _ a' => .rt m a' := rfl
@[simp] theorem x_sRetN : sRetN δ a = .rt (.val .non) a := rfl
@[simp] theorem x_sIf (I : List Nat) (c : ET) (f g : SM) : sIf I c f g δ a = (liftT I c δ a).seq fun b δ' a' => if b = true then f δ' a' else g δ' a' := rfl
@[simp] theorem x_sFor (fr : Bool) (I : List Nat) (it : EI) (g : D → SlM → Option SlM) (f : SM) : sFor fr I it g f δ a = (liftI fr I it δ a).seq fun ds => sLoop g f ds := rfl
@[simp] theorem x_sRaise (I : List Nat) (f : EM) : sRaise I f δ a = (lift I f δ a).seq fun _ _ _ => .stuck := rfl
@[simp] theorem loop_0 (g : D → SlM → Option SlM) (f : SM) : sLoop g f [] δ a = .nx δ a := rfl
def outF : OutS → Out M
  | .nx _ a' => .ok (.val .non) a'
  | .rt r a' => .ok r a'
  | .exc c ns es _ a' => .exc c ns es a'
  | _ => .stuck
@[simp] theorem outF_nx : outF (.nx δ a) = .ok (.val .non) a := rfl
@[simp] theorem outF_rt (m : M) : outF (.rt m a) = .ok m a := rfl
@[simp] theorem outF_exc (c : Nat) (ns : List Str) (es : List D) : outF (.exc c ns es δ a) = .exc c ns es a := rfl
theorem x_bodyM {m n : Nat} {f : SM} {ds : List D} (h : ds.length = m) : bodyM m n f ds a = outF (f (ent n ds) a) := by
  unfold bodyM
  rw [if_pos h]
  cases f (ent n ds) a <;> rfl
@[simp] theorem body_0 {n : Nat} {f : SM} : bodyM 0 n f [] a = outF (f (ent n []) a) := x_bodyM rfl
@[simp] theorem body_1 {n : Nat} {f : SM} (d0 : D) : bodyM 1 n f [d0] a = outF (f (ent n [d0]) a) := x_bodyM rfl
@[simp] theorem body_2 {n : Nat} {f : SM} (d0 d1 : D) : bodyM 2 n f [d0, d1] a = outF (f (ent n [d0, d1]) a) := x_bodyM rfl
@[simp] theorem body_3 {n : Nat} {f : SM} (d0 d1 d2 : D) : bodyM 3 n f [d0, d1, d2] a = outF (f (ent n [d0, d1, d2]) a) := x_bodyM rfl
@[simp] theorem body_4 {n : Nat} {f : SM} (d0 d1 d2 d3 : D) : bodyM 4 n f [d0, d1, d2, d3] a = outF (f (ent n [d0, d1, d2, d3]) a) := x_bodyM rfl
@[simp] theorem body_5 {n : Nat} {f : SM} (d0 d1 d2 d3 d4 : D) : bodyM 5 n f [d0, d1, d2, d3, d4] a = outF (f (ent n [d0, d1, d2, d3, d4]) a) := x_bodyM rfl
@[simp] theorem body_6 {n : Nat} {f : SM} (d0 d1 d2 d3 d4 d5 : D) : bodyM 6 n f [d0, d1, d2, d3, d4, d5] a = outF (f (ent n [d0, d1, d2, d3, d4, d5]) a) := x_bodyM rfl
theorem x_sSto (I : List Nat) (fe : EM) (ko : Nat) (k : Int) : sSto I fe ko k δ a = (lift I fe δ a).seq fun m δ1 a1 => match m, δ1[ko]? with
  | .val (.int v), some (some (.val (.loc n))) => (match a1[n]? with
    | some (.nums l) => (match ixN l.length k with
      | some j => .nx δ1 (a1.set n (.nums (l.set j v)))
      | none => .stuck)
    | _ => .stuck)
  | _, _ => .stuck := rfl
@[simp] theorem r_ixLoc (l : List Int) (i : Int) : dIx [.nums l] (.loc 0) (.int i) = (L2.atI l i).map fun n => .val (.int n) := rfl
@[simp] theorem r_ixLst (l : List D) (i : Int) : dIx a (.lst l) (.int i) = (L2.atI l i).map New.val := rfl
@[simp] theorem r_ixTup (l : List D) (i : Int) : dIx a (.tup l) (.int i) = (L2.atI l i).map New.val := rfl
@[simp] theorem r_ixScr (l : List Int) (i : Int) : dIx a (.scr l) (.int i) = (L2.atI l i).map fun n => .val (.int n) := rfl
@[simp] theorem see_m (I : List Nat) (n : Nat) (o : Option D) (r : SlM) : see I n (Option.map M.val o :: r) = o :: see I (n + 1) r := by cases o <;> rfl
@[simp] theorem gOne_e {i : Nat} {d : D} {δ : SlM} : gOne i d δ = if i < δ.length then some (δ.set i (some (.val d))) else none := rfl
def loopK (k : SM) : OutS → OutS
  | .nx δ2 a2 => k δ2 a2
  | .ct δ2 a2 => k δ2 a2
  | .bk δ2 a2 => .nx δ2 a2
  | .rt m a2 => .rt m a2
  | .exc c ns es δ2 a2 => .exc c ns es δ2 a2
  | .stuck => .stuck
@[simp] theorem loopK_nx (k : SM) : loopK k (.nx δ a) = k δ a := rfl
@[simp] theorem loopK_ct (k : SM) : loopK k (.ct δ a) = k δ a := rfl
@[simp] theorem loopK_bk (k : SM) : loopK k (.bk δ a) = .nx δ a := rfl
@[simp] theorem loopK_rt (k : SM) (m : M) : loopK k (.rt m a) = .rt m a := rfl
@[simp] theorem loopK_exc (k : SM) (c : Nat) (ns : List Str) (es : List D) : loopK k (.exc c ns es δ a) = .exc c ns es δ a := rfl
end
end DL
namespace DL
open PySem PySem.Spec PyProof.Rows L2
def m_start : SM := (sSeq (sSet 1 [] (mV (eC (.int 0))))
    (sSeq (sIf [] (tV (ev2 (dI gGt) (cV (un1 gLen) (aCons (eVar 0) aNil)) (eC (.int 0)))) (sSet 1 [] (mV (vS dIx (eVar 0) (eC (.int 0))))) sNil)
    (sRet [] (mLst (lCons (mV (cV (un1 gAbs) (aCons (cV (un1 gInt) (aCons (eVar 1) aNil)) aNil))) (lCons (mV (cV (un1 gInt) (aCons (ev2 (dI gGe) (cV (un1 gAbs) (aCons (cV (un1 gInt) (aCons (eVar 1) aNil)) aNil)) (ev2 (dI gPow) (eC (.int 10)) (eC (.int 18)))) aNil))) (lCons (mV (eC (.int 1))) (lCons (mV (eC (.int 0))) lNil))))))))
def f_start : FM := bodyM 1 2 m_start
def m_draw : SM := (sSeq (sSto [] (mV (vNw dAdd (vS dIx (eVar 1) (eC (.int 3))) (eC (.int 1)))) 1 3)
    (sSeq (sIf [] (tAn (tV (ev2 dEq (vS dIx (eVar 1) (eC (.int 1))) (eC (.int 1)))) (tV (ev2 (dI gGt) (vS dIx (eVar 1) (eC (.int 0))) (eC (.int 0))))) (sSeq (sSet 3 [] (mV (ev2 (dI gMod) (cV (un1 gInt) (aCons (vS dIx (eVar 1) (eC (.int 0))) aNil)) (eVar 2))))
    (sSeq (sSto [] (mV (ev2 (dI gDiv) (vS dIx (eVar 1) (eC (.int 0))) (eVar 2))) 1 0)
    (sRet [] (mV (eVar 3))))) sNil)
    (sSeq (sSto [] (mV (eC (.int 0))) 1 1)
    (sSeq (sSet 4 [] (mV (eC (.int 0))))
    (sSeq (sIf [] (tV (ev2 (dI gGt) (cV (un1 gLen) (aCons (eVar 0) aNil)) (eC (.int 0)))) (sSet 4 [] (mV (vS dIx (eVar 0) (ev2 (dI gMod) (cV (un1 gInt) (aCons (vS dIx (eVar 1) (eC (.int 2))) aNil)) (cV (un1 gLen) (aCons (eVar 0) aNil)))))) sNil)
    (sSeq (sSto [] (mV (vNw dAdd (vS dIx (eVar 1) (eC (.int 2))) (eC (.int 1)))) 1 2)
    (sSeq (sSet 5 [] (mV (vNw dMul (ev2 (dI gMod) (cV (un1 gInt) (aCons (vS dIx (eVar 1) (eC (.int 0))) aNil)) (eC (.int 2147483647))) (eC (.int 48271)))))
    (sSeq (sSet 5 [] (mV (vNw dAdd (vNw dAdd (vNw dAdd (eVar 5) (ev2 (dI gMod) (cV (un1 gInt) (aCons (eVar 4) aNil)) (eC (.int 2147483629)))) (vNw dMul (eC (.int 7)) (vS dIx (eVar 1) (eC (.int 3))))) (eC (.int 11)))))
    (sSeq (sSto [] (mV (ev2 (dI gMod) (cV (un1 gInt) (aCons (eVar 5) aNil)) (eC (.int 2147483647)))) 1 0)
    (sSeq (sSet 5 [] (mV (ev2 (dI gMod) (cV (un1 gInt) (aCons (vNw dAdd (vNw dMul (vS dIx (eVar 1) (eC (.int 0))) (eC (.int 69621))) (vS dIx (eVar 1) (eC (.int 3)))) aNil)) (eC (.int 2147483629)))))
    (sRet [] (mV (ev2 (dI gMod) (cV (un1 gInt) (aCons (ev2 (dI gDiv) (eVar 5) (eC (.int 13))) aNil)) (eVar 2))))))))))))))
def f_draw : FM := bodyM 3 6 m_draw
theorem atI_0 {α : Type} (x : α) (r : List α) : L2.atI (x :: r) 0 = some x := by simp [L2.atI, ixN]
theorem start_ok (ns : List Int) : ∃ p q : Int, f_start [.scr ns] [] = .ok (.lst [.val (.int p), .val (.int q), .val (.int 1), .val (.int 0)]) [] := by
  have pw : gPow 10 18 = some (.int (10 ^ 18)) := by
    unfold gPow
    rw [if_pos (by decide)]
    rfl
  unfold f_start m_start
  cases ns with
  | nil => simp [ent, put_e, pw]
  | cons x r => 
    simp [ent, put_e, pw, atI_0]
theorem scr_at {ns : List Int} {i : Int} (h : 0 ≤ i) (h2 : i < ns.length) : ∃ z, L2.atI ns i = some z := by
  unfold L2.atI ixN
  rw [if_pos h, if_pos h2]
  exact ⟨ns[i.toNat]'(by omega), List.getElem?_eq_getElem (by omega)⟩
theorem at4_0 (a b c d : Int) : L2.atI [a, b, c, d] 0 = some a := by simp [L2.atI, ixN]
theorem at4_1 (a b c d : Int) : L2.atI [a, b, c, d] 1 = some b := by simp [L2.atI, ixN]
theorem at4_2 (a b c d : Int) : L2.atI [a, b, c, d] 2 = some c := by simp [L2.atI, ixN]
theorem at4_3 (a b c d : Int) : L2.atI [a, b, c, d] 3 = some d := by simp [L2.atI, ixN]
theorem ix4_0 : ixN 4 0 = some 0 := by simp [ixN]
theorem ix4_1 : ixN 4 1 = some 1 := by simp [ixN]
theorem ix4_2 : ixN 4 2 = some 2 := by simp [ixN]
theorem ix4_3 : ixN 4 3 = some 3 := by simp [ixN]
theorem draw_ok (ns : List Int) {lim : Int} (h : 0 < lim) (h2 : lim < 18446744073709551616) (a b c d : Int) : ∃ (r a' b' c' d' : Int), 0 ≤ r ∧ r < lim ∧ f_draw [.scr ns, .loc 0, .int lim] [.nums [a, b, c, d]] = .ok (.val (.int r)) [.nums [a', b', c', d']] := by
  have p0 : ∀ x : Int, 0 ≤ x % lim := fun x => Int.emod_nonneg x (by omega)
  have p1 : ∀ x : Int, x % lim < lim := fun x => Int.emod_lt_of_pos x h
  have e1 : ∀ x, gMod x lim = some (.int (x % lim)) := fun x => r_mod h
  have e2 : ∀ x, gDiv x lim = some (.int (x / lim)) := fun x => r_div h h2
  have e3 : ∀ x, gMod x 2147483647 = some (.int (x % 2147483647)) := fun x => r_mod (by decide)
  have e4 : ∀ x, gMod x 2147483629 = some (.int (x % 2147483629)) := fun x => r_mod (by decide)
  have e5 : ∀ x, gDiv x 13 = some (.int (x / 13)) := fun x => r_div (by decide) (by decide)
  have e6 : ∀ x, dMul (.int x) (.int 48271) = some (.val (.int (x * 48271))) := fun x => r_mulR (by decide)
  have e7 : ∀ x, dMul (.int x) (.int 69621) = some (.val (.int (x * 69621))) := fun x => r_mulR (by decide)
  have e8 : ∀ x, dMul (.int 7) (.int x) = some (.val (.int (7 * x))) := fun x => r_mulL (by decide)
  unfold f_draw m_draw
  by_cases c1 : b = 1 ∧ 0 < a
  · refine ⟨a % lim, a / lim, b, c, d + 1, p0 a, p1 a, ?_⟩
    obtain ⟨hb, ha⟩ := c1
    simp [ent, put_e, x_sSto, at4_0, at4_1, at4_2, at4_3, ix4_0, ix4_1, ix4_2, ix4_3, e1, e2, hb, ha]
  · have c2 : (if b = 1 then Out.ok (decide (0 < a)) [.nums [a, b, c, d + 1]] else Out.ok false [.nums [a, b, c, d + 1]]) = (Out.ok false [.nums [a, b, c, d + 1]] : Out Bool) := by
      by_cases hb : b = 1
      · rw [if_pos hb]
        have ha : ¬ 0 < a := fun z => c1 ⟨hb, z⟩
        rw [decide_eq_false ha]
      · rw [if_neg hb]
    cases ns with
    | nil =>
      simp [ent, put_e, x_sSto, at4_0, at4_1, at4_2, at4_3, ix4_0, ix4_1, ix4_2, ix4_3, e1, e2, e3, e4, e5, e6, e7, e8, c2]
      exact ⟨p0 _, p1 _⟩
    | cons x r =>
      have hl : (0 : Int) < ((x :: r).length : Nat) := by simp [List.length_cons]
      obtain ⟨z, hz⟩ := scr_at (ns := x :: r) (i := c % ((x :: r).length : Nat)) (Int.emod_nonneg _ (by omega)) (Int.emod_lt_of_pos _ hl)
      have e9 : gMod c ((x :: r).length : Nat) = some (.int (c % ((x :: r).length : Nat))) := r_mod hl
      simp only [List.length_cons, Int.natCast_add, Int.natCast_one] at hz e9 hl
      simp [ent, put_e, x_sSto, at4_0, at4_1, at4_2, at4_3, ix4_0, ix4_1, ix4_2, ix4_3, e1, e2, e3, e4, e5, e6, e7, e8, c2, e9, hz, hl]
      exact ⟨p0 _, p1 _⟩
theorem law_go4 (g : SM) (x : Option M) (r : SlM) (p q u v : Int) : lawGo 1 g (.nx (x :: some (.lst [.val (.int p), .val (.int q), .val (.int u), .val (.int v)]) :: r) []) = lawEnd (g (x :: some (.val (.loc 0)) :: r) [.nums [p, q, u, v]]) := rfl
@[simp] theorem lawEnd_bl (b : Bool) (a : Sto) : lawEnd (.rt (.val (.bl b)) a) = .rt (.val (.bl b)) [] := rfl
@[simp] theorem outF_law (b : Bool) : outF (.rt (.val (.bl b)) []) = .ok (.val (.bl b)) [] := rfl
theorem mLaw_e (i : Nat) (f1 g : SM) (δ : SlM) (a : Sto) : mLaw i f1 g δ a = lawGo i g (f1 δ a) := rfl
end DL
namespace DL
open PySem PySem.Spec PyProof.Rows L2
structure BareX (K : PySem.W.Frag) (mg : Str → Option Value) (G : Gx) (x : Str) (c : Nat) : Prop where
  is : PySem.W.excIn K (G.T c) [.type "ValueError", .type "Exception", .type "BaseException", .type "object"] "ValueError.__new__" = true
  gC : mg x = some (.ref (G.T c))
  kC : PySem.W.keepIn K (.ref (G.T c)) = true
  bC : PySem.W.subIn K (.ref (G.T c)) (.type "BaseException") = some true
  tC : PySem.W.typeIn K (.ref (G.T c)) = some (.type "type")
section
variable {X : Cx} {G : Gx} {W : WX} {x : Str} {c : Nat} {p pos : Pos}
end
end DL
namespace DL
open PySem PySem.Spec PyProof.Rows L2
structure DGsx (X : Cx) (G : Gx) (ws : List Nat) (es : List Expr) (gs : List D → Sw → Option Sw) : Prop where
  ex : ∃ t : TGs, PGs X es t ∧ ∀ (ρ R : List Addr) (B H : Hp) (σ : L2.St) (δ δ' : Sw) (a : Sto) (ds : List D) (vs : List V) (Q : L2.St → Hp → Prop), Wd G B H ρ a R → Sls G B ρ δ σ → Reps G B ρ ds vs → gs ds δ = some δ' →
    (∀ σ', Sls G B ρ δ' σ' → wipe σ' ws = wipe σ ws → Q σ' H) → t vs σ H Q
def gxNil (ds : List D) (δ : Sw) : Option Sw := match ds with
  | [] => some δ
  | _ :: _ => none
def gxCons (g : D → Sw → Option Sw) (gs : List D → Sw → Option Sw) (ds : List D) (δ : Sw) : Option Sw := match ds with
  | [] => none
  | d :: r => match g d δ with
    | some δ1 => gs r δ1
    | none => none
def gxTup (n : Nat) (gs : List D → Sw → Option Sw) (d : D) (δ : Sw) : Option Sw := match d with
  | .tup l => if l.length = n then gs l δ else none
  | _ => none
section
variable {X : Cx} {G : Gx} {ws : List Nat}
theorem dgsx_nil : DGsx X G ws [] gxNil := by
  refine ⟨gNil, pgs_nil, fun ρ R B H σ δ δ' a ds vs Q w sl r e q => ?_⟩
  cases ds with
  | nil =>
    have z : vs = [] := r
    subst z
    cases e
    exact ⟨rfl, q σ sl rfl⟩
  | cons d ds => cases e
theorem dgsx_cons {e : Expr} {es : List Expr} {g : D → Sw → Option Sw} {gs : List D → Sw → Option Sw} (h : DGx X G ws e g) (k : DGsx X G ws es gs)
    (hs : (assignEach (e :: es) X.env).map (·.2) = assign e X.env :: (assignEach es X.env).map (·.2) := by rfl) : DGsx X G ws (e :: es) (gxCons g gs) := by
  obtain ⟨t, p, one⟩ := h.ex
  obtain ⟨u, p2, more⟩ := k.ex
  refine ⟨gCons t u, pgs_cons p p2 hs, fun ρ R B H σ δ δ' a ds vs Q w sl r e0 q => ?_⟩
  cases ds with
  | nil => cases e0
  | cons d l =>
    obtain ⟨x, tl, rfl, rx, rl⟩ := r
    unfold gxCons at e0
    dsimp only at e0
    cases c1 : g d δ with
    | none =>
      rw [c1] at e0
      cases e0
    | some δ1 =>
      rw [c1] at e0
      exact ⟨x, tl, rfl, one ρ R B H σ δ δ1 a d x _ w sl rx c1 fun σ1 sl1 h1 => more ρ R B H σ1 δ1 δ' a l tl Q w sl1 rl e0 fun σ2 sl2 h2 => q σ2 sl2 (h2.trans h1)⟩
theorem dgx_tup {es : List Expr} {k : Nat} {gs : List D → Sw → Option Sw} {pos : Pos} (n : Nat) (hc : X.calm = true) (hK : G.K = X.K) (h : DGsx X G ws es gs)
    (hn : (assignEach es X.env).length = n := by rfl) (hst : (assignEach es X.env).findIdx? (·.1) = none := by rfl) : DGx X G ws (.Tuple es k pos) (gxTup n gs) := by
  obtain ⟨t, p, all⟩ := h.ex
  refine ⟨gTup X.K n t, pg_tup hc p hn hst, fun ρ R B H σ δ δ' a d v Q w sl r e q => ?_⟩
  cases d with
  | tup l =>
    obtain ⟨pp, xs, rfl, h1, h2⟩ := r
    unfold gxTup at e
    dsimp only at e
    by_cases hl : l.length = n
    · rw [if_pos hl] at e
      exact ⟨pp, xs, rfl, hK ▸ sqt_same w.ex h1, h2.len.symm.trans hl, all ρ R B H σ δ δ' a l xs Q w sl h2 e q⟩
    · rw [if_neg hl] at e
      cases e
  | _ => cases e
end
end DL
namespace DL
open PySem PySem.Spec PyProof.Rows L2
section
variable {P : Program} {w : World} {K : PySem.W.Frag}
abbrev tupIt (t : Addr) : Obj := { cls := .type "tuple_iterator", data := .fields #[.ref t, .int 0 0] }
abbrev enumAt (it : Addr) : Obj := { cls := .type "enumerate", data := .fields #[.none, .bool false, .ref it, rawInt 0, .none, .none] }
theorem enumT_meets (t : Addr) (its : Array Value) : Meets (Builtin.«enumerate.__new__» ⟨[.type "enumerate", .ref t], []⟩)
    (fun _ R s => s.heap.IsTuple t its ∧ R (.ok (.ret (.ref (s.heap.push (tupIt t)).objs.size))) { s with heap := (s.heap.push (tupIt t)).push (enumAt s.heap.objs.size) }) :=
  .of_wp fun prog w A R s h => by
    obtain ⟨hp, gl, dd, tk, os⟩ := s
    obtain ⟨hT, h⟩ := h
    have sub := sub_enumerate
    have begin_ : ∀ {A' : Around} {E Q : Value → Shared → Prop}, Q (.ref hp.objs.size) ⟨hp.push (tupIt t), gl, dd, tk, os⟩ → wpAny (model prog w) A' (pyIter (.ref t)) Q E ⟨hp, gl, dd, tk, os⟩ :=
      fun q => wpAny_pyIter_tuple hT q
    wp_walk using begin_
    refine wpAny_stack_any fun st => wpAny_pure ?_
    split
    · rename_i c _ _ _ _ _
      cases (c == Value.type "enumerate") <;> (wp_walk using begin_; exact ⟨_, rfl, h⟩)
    · wp_walk using begin_
      exact ⟨_, rfl, h⟩
theorem enumT_call {A : Around} {E : Value → Shared → Prop} {s : Shared} {t : Addr} {its : Array Value} {Q : Value → Shared → Prop} (hT : s.heap.IsTuple t its)
    (h : ∀ h', IsEnum h' (s.heap.objs.size + 1) s.heap.objs.size 0 .none → h'.IsTupleIter s.heap.objs.size t 0 → (∀ b o, s.heap.get? b = some o → h'.get? b = some o) → Q (.ref (s.heap.objs.size + 1)) { s with heap := h' }) :
    wpAny (model P w) A (call (.type "enumerate") [.ref t]) Q E s := by
  refine callType_new F.called_enumerate (by decide) (F.typeCall_enumerate_1 _) (F.newCall_enumerate_1 _) (fun obj => F.args_object_init_2 obj _) F.entry_enumerate_new (enumT_meets t its) ⟨hT, ?_⟩
  have size1 : (s.heap.push (tupIt t)).objs.size = s.heap.objs.size + 1 := Heap.size_push ..
  have at_ : IsEnum ((s.heap.push (tupIt t)).push (enumAt s.heap.objs.size)) (s.heap.objs.size + 1) s.heap.objs.size 0 .none := by
    have z := Heap.get?_push_size (s.heap.push (tupIt t)) (o := enumAt s.heap.objs.size) rfl
    rw [size1] at z
    exact z
  show _ ∧ _
  rw [size1]
  exact ⟨⟨_, at_, rfl⟩, h _ at_ ⟨_, Heap.get?_push_of_some _ (Heap.get?_push_size _ rfl), rfl, rfl⟩ fun b o x => Heap.get?_push_of_some _ (Heap.get?_push_of_some _ x)⟩
def ItE (K : PySem.W.Frag) (t : Addr) : It where
  go i H := ∃ (xs : List V) (x : V), SqT K H t xs ∧ xs[i]? = some x
  yld i H v H' := ∃ (T : Addr) (x : V), v = .ref T ∧ H T = none ∧ H' = upd H T (.tup [.int (i : Nat), x]) ∧ ∀ xs, SqT K H t xs → xs[i]? = some x
  stop i H := ∃ xs : List V, SqT K H t xs ∧ xs.length = i
theorem turn_enumT {elts : List Expr} {kk : Nat} {tpos : Pos} (t e it : Addr) : Turn P w K (.Tuple elts kk tpos) (ItE K t) [e, it] e (fun i h => (∃ old, IsEnum h e it ((i : Nat) : Int) old) ∧ h.IsTupleIter it t i ∧ e ≠ it) := by
  have two : ∀ {b : Addr}, b ∈ [e, it] → b = e ∨ b = it := fun hb => (List.mem_cons.mp hb).imp id List.mem_singleton.mp
  refine ⟨List.mem_cons_self, ?_, ?_, ?_, ?_, fun A i s Q E ⟨⟨_, he⟩, _⟩ h => wpAny_pyIter_enum he h⟩
  · rintro i h ⟨⟨old, he⟩, ⟨o, ho, hc, hd⟩, _⟩ b hb
    rcases two hb with rfl | rfl
    · exact ⟨_, he, fun v q => nomatch q⟩
    · exact ⟨o, ho, fun v q => by
        rw [hd] at q
        cases q⟩
  · rintro i h h' ⟨⟨old, he⟩, hi, hne⟩ k
    exact ⟨⟨old, k e List.mem_cons_self _ he⟩, hi.at fun o q => k it (List.mem_cons_of_mem _ List.mem_cons_self) o q, hne⟩
  · rintro X rfl rfl rfl hc i pins s σ H E I hf ⟨⟨old, he⟩, hit, hne⟩ ⟨xs, x, hq, hx⟩
    obtain ⟨its, rv, p, hz⟩ := I.tuple hq
    have p' : s.heap.IsTuple t its.toArray := p
    obtain ⟨u, hu, ru⟩ := rv.get hx
    have lt1 : e < s.heap.objs.size := Heap.lt_size he
    have lt2 : it < s.heap.objs.size := by
      obtain ⟨_, q, _⟩ := hit
      exact Heap.lt_size q
    have htt : t ≠ it := fun z => by
      obtain ⟨o1, e1, c1, _⟩ := hit
      obtain ⟨o2, e2, c2, _⟩ := p'
      rw [z, e1] at e2
      cases e2
      rw [c1] at c2
      exact absurd (Value.type.inj c2) (by decide)
    have hte : t ≠ e := fun z => by
      obtain ⟨o2, e2, c2, _⟩ := p'
      rw [z, he] at e2
      cases e2
      exact absurd (Value.type.inj c2) (by decide)
    have Dr := Draws.tuple (prog := X.prog) (w := X.w) (A := X.A.in1) (I.ok.hd hc) it t htt its.toArray
    have hlt : i < its.toArray.size := by
      have z := (List.getElem?_eq_some_iff.mp hu).1
      simpa using z
    refine wpAny_pyNext_enum_itemD Dr he ⟨hit, p'⟩ hlt hne (fun z => ?_) fun u' h' tk hP ho hs' hT hsz hk => ?_
    · rcases List.mem_cons.mp z with z | z
      · exact hne z
      · exact hte (List.mem_singleton.mp z).symm
    have eu : u' = u := by
      have z : its.toArray[i]? = some u := by simpa using hu
      rw [z] at hP
      exact (Option.some.inj hP).symm
    subst eu
    refine ⟨_, rfl, wpAny_letOwnedTupleGo_enum (s := { s with heap := h', toks := tk + 1 }) ho fun h2 he2 sb => ?_⟩
    have new : ObjOk X.prog X.w (upd H s.heap.objs.size (.tup [.int (i : Nat), x])) h2 s.heap.objs.size (.tup [.int (i : Nat), x]) :=
      ⟨show 2 ≤ sizeLine from lim (by decide), [.int i tk, u'], .cons ⟨_, rfl⟩ (.cons ru .nil), ⟨_, (sb.2 _ (Nat.ne_of_gt lt1)).trans hT, rfl, _, rfl⟩⟩
    have J := I.turnedNew (t' := tk + 1) (ch := [e, it]) (h' := h2) (fun b ob hb q => (sb.2 b fun z => hb (z ▸ List.mem_cons_self)).trans (hk b ob (fun z => hb (z ▸ List.mem_cons_self)) (fun z => hb (z ▸ List.mem_cons_of_mem _ List.mem_cons_self)) q)) hf (Nat.le_refl _) new
    refine ⟨.ref s.heap.objs.size, _, J, rfl, ⟨_, x, rfl, I.hok.fresh (Nat.le_refl _), rfl, fun ys hy => I.tuple_inj hy hq ▸ hx⟩, ⟨⟨u', ?_⟩, hs'.1.at fun o q => (sb.2 it (Ne.symm hne)).trans q, hne⟩, fun b hb => ?_⟩
    · rw [show ((i + 1 : Nat) : Int) = (i : Int) + 1 by omega]
      exact he2
    · have lt : b < s.heap.objs.size := by
        rcases two hb with rfl | rfl
        · exact lt1
        · exact lt2
      rw [upd_ne (Nat.ne_of_lt lt)]
      exact (hf b hb).1
  · rintro X rfl rfl rfl hc i pins s σ H E I hf ⟨⟨old, he⟩, hit, hne⟩ ⟨xs, hq, hx⟩
    obtain ⟨its, rv, p, hz⟩ := I.tuple hq
    have p' : s.heap.IsTuple t its.toArray := p
    have htt : t ≠ it := fun z => by
      obtain ⟨o1, e1, c1, _⟩ := hit
      obtain ⟨o2, e2, c2, _⟩ := p'
      rw [z, e1] at e2
      cases e2
      rw [c1] at c2
      exact absurd (Value.type.inj c2) (by decide)
    have Dr := Draws.tuple (prog := X.prog) (w := X.w) (A := X.A.in1) (I.ok.hd hc) it t htt its.toArray
    have el : its.toArray.size = i := by
      have z := rv.length
      simp only [List.size_toArray]
      omega
    obtain ⟨f0, f1, f2, f3, f4, f5⟩ := hf it (List.mem_cons_of_mem _ List.mem_cons_self)
    exact wpAny_pyNext_enum_endD Dr he ⟨el.symm ▸ hit, p'⟩ fun h' eb => ⟨rfl, I.turned (t' := s.toks) (fun b o hb q => eb b o hb q) f0 f1 f3 f4 f5⟩
end
def iEnT (K : PySem.W.Frag) (ta : TA) : TI := fun σ H R => ta σ H fun vs H1 => ∃ a xs, vs = [.ref a] ∧ SqT K H1 a xs ∧ R (ItE K a) H1
theorem pi_enumT {X : Cx} {e : Expr} {ta : TA} {p pos tpos : Pos} {elts : List Expr} {kk : Nat} (hg : Gl X "enumerate") (hm : X.mg "enumerate" = none) (ha : PA X [e] ta) (hs : HeadP X e [] := by rfl) :
    PI X (.Tuple elts kk tpos) (.Call (.Name "enumerate" p) [e] [] pos) (iEnT X.K ta) := by
  refine ⟨fun pins s σ H R I h => Call_ (ld_blt I hg hm boot_enumerate (PyProof.Rows.callWith_type1 (thn (ha.run pos pins s σ H _ I h) fun us s1 ⟨vs, H1, I1, r1, a, xs, ex, hq, q⟩ => ?_) hs rfl))⟩
  subst ex
  obtain ⟨u, _, rfl, ru, rn⟩ : ∃ u r, us = u :: r ∧ RelV (.ref a) u ∧ Vals [] r := by
    cases r1 with
    | cons r rr => exact ⟨_, _, rfl, r, rr⟩
  cases rn
  obtain rfl : u = Value.ref a := ru
  obtain ⟨its, rv, p', hz⟩ := I1.tuple hq
  refine enumT_call (show s1.heap.IsTuple a its.toArray from p') fun h' he hit hk => wpAny_pyIter_enum he ?_
  refine ⟨s1.heap.objs.size + 1, [s1.heap.objs.size + 1, s1.heap.objs.size], _, _, H1, rfl, I1.kept (t' := s1.toks) hk, turn_enumT a _ s1.heap.objs.size, ⟨⟨.none, he⟩, hit, Nat.succ_ne_self _⟩, fun b hb => ?_, q⟩
  have ge : s1.heap.objs.size ≤ b := by
    rcases List.mem_cons.mp hb with rfl | hb
    · exact Nat.le_succ _
    · rw [List.mem_singleton.mp hb]
      exact Nat.le_refl _
  exact I1.fpOk ge (I1.hok.fresh ge)
def enumD : Nat → List D → List D
  | _, [] => []
  | n, d :: r => .tup [.int (n : Nat), d] :: enumD (n + 1) r
theorem enumD_len : ∀ (n : Nat) (l : List D), (enumD n l).length = l.length
  | _, [] => rfl
  | n, d :: r => by rw [enumD, List.length_cons, List.length_cons, enumD_len (n + 1) r]
theorem enumD_get : ∀ (n : Nat) (l : List D) (i : Nat), (enumD n l)[i]? = (l[i]?).map fun d => .tup [.int ((n + i : Nat) : Int), d]
  | _, [], i => by simp [enumD]
  | n, d :: r, 0 => rfl
  | n, d :: r, i + 1 => by
    have z := enumD_get (n + 1) r i
    rw [enumD, List.getElem?_cons_succ, List.getElem?_cons_succ, z, show n + 1 + i = n + (i + 1) by omega]
def seqD : D → Option (List D)
  | .lst l => some l
  | .tup l => some l
  | .scr l => some (l.map D.int)
  | _ => none
section
variable {X : Cx} {G : Gx} {W : WX}
theorem yld_pair {B' H' : Hp} {ρ R' : List Addr} {a' : Sto} (w : Wd G B' H' ρ a' R') {T : Addr} {d e : D} {x y : V} (hT : H' T = none) (rx : Rep G B' ρ d x) (ry : Rep G B' ρ e y) :
    ∃ B'', Wd G B'' (upd H' T (.tup [x, y])) ρ a' R' ∧ Same B' B'' ∧ Kp R' H' (upd H' T (.tup [x, y])) ∧ Rep G B'' ρ (.tup [d, e]) (.ref T) :=
  have s := same_new (o := .tup [x, y]) (w.noneB hT)
  ⟨upd B' T (.tup [x, y]), w.new hT, s, kp_new w hT, T, [x, y], rfl, SqT.of upd_same, Reps.cons (Rep.mono s d x rx) (Reps.cons (Rep.mono s e y ry) Reps.nil)⟩
theorem srv_enumL {B : Hp} {ρ : List Addr} {p : Addr} {xs : List V} {l : List D} (h : SqL G.K B p xs) (r : Reps G B ρ l xs) : Srv G B ρ (Ite G.K p) (enumD 0 l) := fun B' H' a' R' sm w => by
  have h' : SqL G.K H' p xs := (sm.trans w.ex).seq h
  have len := r.len
  rw [enumD_len]
  refine ⟨fun i hi => ⟨xs, xs[i]'(by omega), h', List.getElem?_eq_getElem (by omega)⟩, ⟨xs, h', by omega⟩, fun i d hd x H'' y => ?_⟩
  obtain ⟨T, x0, rfl, hT, rfl, y⟩ := y
  rw [enumD_get, Nat.zero_add] at hd
  cases c : l[i]? with
  | none =>
    rw [c] at hd
    cases hd
  | some d0 =>
    rw [c] at hd
    cases hd
    obtain ⟨x', hx, rx⟩ := r.get c
    have e := y xs h'
    rw [hx] at e
    cases e
    exact yld_pair w hT rfl (Rep.mono sm d0 _ rx)
theorem srv_enumT {B : Hp} {ρ : List Addr} {p : Addr} {xs : List V} {l : List D} (h : SqT G.K B p xs) (r : Reps G B ρ l xs) : Srv G B ρ (ItE G.K p) (enumD 0 l) := fun B' H' a' R' sm w => by
  have h' : SqT G.K H' p xs := sqt_same (sm.trans w.ex) h
  have len := r.len
  rw [enumD_len]
  refine ⟨fun i hi => ⟨xs, xs[i]'(by omega), h', List.getElem?_eq_getElem (by omega)⟩, ⟨xs, h', by omega⟩, fun i d hd x H'' y => ?_⟩
  obtain ⟨T, x0, rfl, hT, rfl, y⟩ := y
  rw [enumD_get, Nat.zero_add] at hd
  cases c : l[i]? with
  | none =>
    rw [c] at hd
    cases hd
  | some d0 =>
    rw [c] at hd
    cases hd
    obtain ⟨x', hx, rx⟩ := r.get c
    have e := y xs h'
    rw [hx] at e
    cases e
    exact yld_pair w hT rfl (Rep.mono sm d0 _ rx)
def gEn : List D → Option (List D)
  | [d] => (seqD d).map (enumD 0)
  | _ => none
def iEn (f : EA) : EI := fun δ a => (f δ a).opt gEn
theorem gEn_eq {ds l : List D} (h : gEn ds = some l) : ∃ d l0, ds = [d] ∧ seqD d = some l0 ∧ l = enumD 0 l0 := by
  match ds, h with
  | [d], h =>
    have h' : (seqD d).map (enumD 0) = some l := h
    cases c : seqD d with
    | none =>
      rw [c] at h'
      cases h'
    | some l0 =>
      rw [c] at h'
      cases h'
      exact ⟨d, l0, rfl, c, rfl⟩
theorem opt_some {β γ : Type} {g : β → Option γ} {b : β} {r : γ} {a : Sto} (h : g b = some r) : Out.opt g (.ok b a) = .ok r a := by
  unfold Out.opt Out.bind
  dsimp only
  rw [h]
theorem opt_none {β γ : Type} {g : β → Option γ} {b : β} {a : Sto} (h : g b = none) : Out.opt g (.ok b a) = .stuck := by
  unfold Out.opt Out.bind
  dsimp only
  rw [h]
theorem di_enum {e : Expr} {f : EA} {elts : List Expr} {kk : Nat} {p pos tpos : Pos} (hK : G.K = X.K) (hm : X.mg "enumerate" = none) (h : DA X G W [e] f) (hg : Gl X "enumerate" := by rfl) (hs : HeadP X e [] := by rfl) :
    DI X G W (.Tuple elts kk tpos) (.Call (.Name "enumerate" p) [e] [] pos) false (iEn f) := by
  obtain ⟨t, pa, s⟩ := h.ex
  refine ⟨_, pi_either (pi_enum hg hm pa hs) (pi_enumT hg hm pa hs), fun ρ R B H σ δ a K w sl q => ?_⟩
  rw [← hK]
  unfold iEn at q
  cases c : f δ a with
  | stuck =>
    rw [c] at q
    exact q.elim
  | exc k ns ds a1 =>
    refine .inl (s ρ R B H σ δ a _ w sl ?_)
    rw [c] at q ⊢
    exact q
  | ok ds a1 =>
    rw [c] at q
    cases c2 : gEn ds with
    | none =>
      rw [opt_none c2] at q
      exact q.elim
    | some l =>
      rw [opt_some c2] at q
      obtain ⟨d, l0, rfl, hd, rfl⟩ := gEn_eq c2
      cases d with
      | lst l1 =>
        cases hd
        refine .inl (s ρ R B H σ δ a _ w sl ?_)
        rw [c]
        intro B' H' w' sm kp vs r
        obtain ⟨v, rfl, rv⟩ := r.one
        obtain ⟨pp, xs, rfl, h1, h2⟩ := rv
        exact ⟨pp, xs, rfl, .of (w'.ex _ _ h1), q B' H' w' sm kp _ (srv_enumL (.of h1) h2)⟩
      | scr l1 =>
        cases hd
        refine .inl (s ρ R B H σ δ a _ w sl ?_)
        rw [c]
        intro B' H' w' sm kp vs r
        obtain ⟨v, rfl, rv⟩ := r.one
        obtain ⟨pp, rfl, h1⟩ := rv
        exact ⟨pp, _, rfl, w'.ex.seq h1, q B' H' w' sm kp _ (srv_enumL h1 (Reps.ints.mpr rfl))⟩
      | tup l1 =>
        cases hd
        refine .inr (s ρ R B H σ δ a _ w sl ?_)
        rw [c]
        intro B' H' w' sm kp vs r
        obtain ⟨v, rfl, rv⟩ := r.one
        obtain ⟨pp, xs, rfl, h1, h2⟩ := rv
        exact ⟨pp, xs, rfl, sqt_same w'.ex h1, q B' H' w' sm kp _ (srv_enumT h1 h2)⟩
      | _ => cases hd
end
end DL
namespace DL
open PySem PySem.Spec PyProof.Rows L2
def zipD : List D → List D → List D
  | d :: r, e :: s => .tup [d, e] :: zipD r s
  | _, _ => []
section
variable {X : Cx} {G : Gx} {W : WX}
def gZp : List D → Option (List D)
  | [.lst l, .lst m] => some (zipD l m)
  | [.tup l, .tup m] => some (zipD l m)
  | _ => none
def iZp (f : EA) : EI := fun δ a => (f δ a).opt gZp
end
end DL
namespace DL
open PySem PySem.Spec PyProof.Rows L2
def focL : List Int → M → Option (List M)
  | [], .lst ms => some ms
  | j :: js, .lst ms => match L2.atI ms j with
    | some m => focL js m
    | none => none
  | [], .pin _ (.lst ms) => some ms
  | j :: js, .pin _ (.lst ms) => match L2.atI ms j with
    | some m => focL js m
    | none => none
  | _, _ => none
def putL : List Int → List M → M → M
  | [], n, .pin q _ => .pin q (.lst n)
  | [], n, _ => .lst n
  | j :: js, n, .lst ms => match ixN ms.length j with
    | some k => (match ms[k]? with
      | some m => .lst (ms.set k (putL js n m))
      | none => .lst ms)
    | none => .lst ms
  | j :: js, n, .pin q (.lst ms) => match ixN ms.length j with
    | some k => (match ms[k]? with
      | some m => .pin q (.lst (ms.set k (putL js n m)))
      | none => .pin q (.lst ms))
    | none => .pin q (.lst ms)
  | _ :: _, _, m => m
theorem focL_pin (q : Nat) (ms : List M) : ∀ js : List Int, focL js (.pin q (.lst ms)) = focL js (.lst ms)
  | [] => rfl
  | _ :: _ => rfl
theorem putL_pin (q : Nat) (n ms : List M) : ∀ js : List Int, putL js n (.pin q (.lst ms)) = .pin q (putL js n (.lst ms))
  | [] => rfl
  | j :: js => by
    unfold putL
    split
    · split <;> rfl
    · rfl
def walkV (H : Hp) : List Int → V → Addr → Prop
  | [], v, p => v = .ref p
  | j :: js, v, p => ∃ (q : Addr) (xs : List V) (x : V), v = .ref q ∧ H q = some (.lst xs) ∧ L2.atI xs j = some x ∧ walkV H js x p
theorem walk_unsnoc {H : Hp} {k : Int} {p : Addr} : ∀ {js : List Int} {v : V}, walkV H (js ++ [k]) v p → ∃ (q : Addr) (xs : List V), walkV H js v q ∧ H q = some (.lst xs) ∧ L2.atI xs k = some (.ref p)
  | [], v, ⟨q, xs, x, e, h1, h2, h3⟩ => ⟨q, xs, e, h1, by rw [h2, show x = V.ref p from h3]⟩
  | j :: js, v, ⟨q', xs', x, e, g1, g2, g3⟩ => by
    obtain ⟨q, xs, a, b, c⟩ := walk_unsnoc g3
    exact ⟨q, xs, ⟨q', xs', x, e, g1, g2, a⟩, b, c⟩
section
variable {G : Gx} {B H : Hp} {ρ : List Addr}
theorem Owns.split : ∀ {ms : List M} {xs : List V} {F : List Addr} {k : Nat} {m : M}, Owns G B H ρ ms xs F → ms[k]? = some m →
    ∃ x F1 Fr, xs[k]? = some x ∧ Own G B H ρ m x F1 ∧ F.Perm (F1 ++ Fr) ∧ ∀ (B' H' : Hp) (m' : M) (F1' : List Addr), Same B B' → (∀ q ∈ Fr, H' q = H q) → Own G B' H' ρ m' x F1' → ∃ F', F'.Perm (F1' ++ Fr) ∧ Owns G B' H' ρ (ms.set k m') xs F'
  | [], xs, F, k, m, h, e => by simp at e
  | m0 :: ms, xs, F, 0, m, h, e => by
    obtain ⟨x, r, F1, F2, rfl, rfl, h3, h4⟩ := h
    have e' : m0 = m := by simpa using e
    subst e'
    exact ⟨x, F1, F2, rfl, h3, List.Perm.refl _, fun B' H' m' F1' s k o => ⟨F1' ++ F2, List.Perm.refl _, x, r, F1', F2, rfl, rfl, o, Owns.mono s ms r F2 k h4⟩⟩
  | m0 :: ms, xs, F, k + 1, m, h, e => by
    obtain ⟨x, r, F1, F2, rfl, rfl, h3, h4⟩ := h
    obtain ⟨y, G1, Gr, h5, h6, h7, h8⟩ := Owns.split (k := k) h4 (by simpa using e)
    refine ⟨y, G1, F1 ++ Gr, by simpa using h5, h6, ?_, fun B' H' m' F1' s kk o => ?_⟩
    · refine (List.Perm.append_left F1 h7).trans ?_
      rw [← List.append_assoc, ← List.append_assoc]
      exact List.Perm.append_right Gr List.perm_append_comm
    · obtain ⟨F', p', o'⟩ := h8 B' H' m' F1' s (fun q hq => kk q (List.mem_append_right _ hq)) o
      refine ⟨F1 ++ F', ?_, x, r, F1, F', rfl, rfl, Own.mono s m0 x F1 (fun q hq => kk q (List.mem_append_left _ hq)) h3, o'⟩
      refine (List.Perm.append_left F1 p').trans ?_
      rw [← List.append_assoc, ← List.append_assoc]
      exact List.Perm.append_right Gr List.perm_append_comm
theorem Own.foc : ∀ {js : List Int} {m : M} {v : V} {F : List Addr} {ms : List M}, Own G B H ρ m v F → focL js m = some ms →
    ∃ p xs Fm Fr, walkV H js v p ∧ H p = some (.lst xs) ∧ Owns G B H ρ ms xs Fm ∧ F.Perm (p :: (Fm ++ Fr)) ∧
      ∀ (B' H' : Hp) (ms' : List M) (xs' : List V) (Fm' : List Addr), Same B B' → (∀ q ∈ Fr, H' q = H q) → H' p = some (.lst xs') → Owns G B' H' ρ ms' xs' Fm' → ∃ F', F'.Perm (p :: (Fm' ++ Fr)) ∧ Own G B' H' ρ (putL js ms' m) v F'
  | [], .lst ms0, v, F, ms, h, e => by
    obtain ⟨p, xs, F', rfl, h2, rfl, h4⟩ := h
    have e' : ms0 = ms := Option.some.inj e
    subst e'
    exact ⟨p, xs, F', [], rfl, h2, h4, by rw [List.append_nil], fun B' H' ms' xs' Fm' s k hp o => ⟨p :: Fm', by rw [List.append_nil], p, xs', Fm', rfl, hp, rfl, o⟩⟩
  | j :: js, .lst ms0, v, F, ms, h, e => by
    obtain ⟨p0, xs0, F0, rfl, h2, rfl, h4⟩ := h
    unfold focL at e
    cases c : L2.atI ms0 j with
    | none =>
      rw [c] at e
      cases e
    | some m1 =>
      rw [c] at e
      dsimp only at e
      unfold L2.atI at c
      obtain ⟨k, c1, c2⟩ := Option.bind_eq_some_iff.mp c
      obtain ⟨x, F1, Fr1, g1, g2, g3, g4⟩ := Owns.split h4 c2
      obtain ⟨p, xs, Fm, Fr, a1, a2, a3, a4, a5⟩ := Own.foc g2 e
      refine ⟨p, xs, Fm, Fr ++ (p0 :: Fr1), ⟨p0, xs0, x, rfl, h2, ?_, a1⟩, a2, a3, ?_, fun B' H' ms' xs' Fm' s k' hp o => ?_⟩
      · unfold L2.atI
        rw [← h4.len, c1]
        exact g1
      · have z1 : (p0 :: F0).Perm (p0 :: ((p :: (Fm ++ Fr)) ++ Fr1)) := List.Perm.cons _ (g3.trans (List.Perm.append_right _ a4))
        refine z1.trans ?_
        have z2 : (p0 :: ((p :: (Fm ++ Fr)) ++ Fr1)).Perm ((p :: (Fm ++ Fr)) ++ (p0 :: Fr1)) := List.perm_middle.symm
        refine z2.trans ?_
        simp only [List.cons_append, List.append_assoc]
        exact List.Perm.refl _
      · obtain ⟨F', b1, b2⟩ := a5 B' H' ms' xs' Fm' s (fun q hq => k' q (List.mem_append_left _ hq)) hp o
        obtain ⟨F2, b3, b4⟩ := g4 B' H' (putL js ms' m1) F' s (fun q hq => k' q (List.mem_append_right _ (List.mem_cons_of_mem _ hq))) b2
        refine ⟨p0 :: F2, ?_, ?_⟩
        · have z1 : (p0 :: F2).Perm (p0 :: ((p :: (Fm' ++ Fr)) ++ Fr1)) := List.Perm.cons _ (b3.trans (List.Perm.append_right _ b1))
          refine z1.trans ?_
          have z2 : (p0 :: ((p :: (Fm' ++ Fr)) ++ Fr1)).Perm ((p :: (Fm' ++ Fr)) ++ (p0 :: Fr1)) := List.perm_middle.symm
          refine z2.trans ?_
          simp only [List.cons_append, List.append_assoc]
          exact List.Perm.refl _
        · unfold putL
          rw [c1]
          dsimp only
          rw [c2]
          exact ⟨p0, xs0, F2, rfl, (k' p0 (List.mem_append_right _ List.mem_cons_self)).trans h2, rfl, b4⟩
  | js, .pin k (.lst ms0), v, F, ms, h, e => by
    obtain ⟨h0, h⟩ := h
    rw [focL_pin] at e
    obtain ⟨p, xs, Fm, Fr, a1, a2, a3, a4, a5⟩ := Own.foc (js := js) h e
    refine ⟨p, xs, Fm, Fr, a1, a2, a3, a4, fun B' H' ms' xs' Fm' s k' hp o => ?_⟩
    obtain ⟨F', b1, b2⟩ := a5 B' H' ms' xs' Fm' s k' hp o
    rw [putL_pin]
    exact ⟨F', b1, h0, b2⟩
  | [], .val _, _, _, _, _, e => by cases e
  | [], .tup _, _, _, _, _, e => by cases e
  | [], .obj _ _ _, _, _, _, _, e => by cases e
  | _ :: _, .val _, _, _, _, _, e => by cases e
  | _ :: _, .tup _, _, _, _, _, e => by cases e
  | _ :: _, .obj _ _ _, _, _, _, _, e => by cases e
  | [], .pin _ (.val _), _, _, _, _, e => by cases e
  | [], .pin _ (.tup _), _, _, _, _, e => by cases e
  | [], .pin _ (.obj _ _ _), _, _, _, _, e => by cases e
  | [], .pin _ (.pin _ _), _, _, _, _, e => by cases e
  | _ :: _, .pin _ (.val _), _, _, _, _, e => by cases e
  | _ :: _, .pin _ (.tup _), _, _, _, _, e => by cases e
  | _ :: _, .pin _ (.obj _ _ _), _, _, _, _, e => by cases e
  | _ :: _, .pin _ (.pin _ _), _, _, _, _, e => by cases e
  termination_by js m => (js.length, sizeOf m)
end
abbrev QI := SlM → Option Int
def qVar (i : Nat) : QI := fun δ => match δ[i]? with
  | some (some (.val (.int k))) => some k
  | _ => none
structure DQ (X : Cx) (G : Gx) (e : Expr) (f : QI) : Prop where
  ex : ∃ t, PE X e t ∧ ∀ (ρ : List Addr) (B H : Hp) (σ : L2.St) (δ : SlM) (F : List Addr) (i : Int) (Q : VK), OwnS G B H ρ δ σ F → f δ = some i → Q (.int i) H → t σ H Q
section
variable {X : Cx} {G : Gx} {W : WX}
theorem OwnS.val {B H : Hp} {ρ : List Addr} {δ : SlM} {σ : L2.St} {F : List Addr} {i : Nat} {d : D} (os : OwnS G B H ρ δ σ F) (e : δ[i]? = some (some (.val d))) : ∃ v, σ[i]? = some (some v) ∧ Rep G B ρ d v := by
  obtain ⟨v, Fi, Fr, _, h1, h2, _⟩ := OwnS.take os e
  exact ⟨v, h1, h2.2⟩
theorem dq_var {i : Nat} {x : Str} {pos : Pos} (hN : X.N[i]? = some x) (hv : Vis X.env.scope x) (hd : NotDbg x := by decide) (hcd : (x == ("__classdict__" : Str)) = false := by decide) : DQ X G (.Name x pos) (qVar i) := by
  refine ⟨tVar i, pe_var hN hv hd hcd, fun ρ B H σ δ F k Q os e q => ?_⟩
  unfold qVar at e
  split at e
  · rename_i k' c
    cases e
    obtain ⟨v, h1, h2⟩ := os.val c
    have h3 : v = .int k := h2
    subst h3
    exact ⟨_, h1, q⟩
  · cases e
abbrev QP := SlM → Option (List Int)
structure DPt (X : Cx) (G : Gx) (e : Expr) (i : Nat) (f : QP) : Prop where
  ex : ∃ t, PE X e t ∧ ∀ (ρ : List Addr) (B H : Hp) (σ : L2.St) (δ : SlM) (F : List Addr) (js : List Int) (v : V) (p : Addr) (Q : VK), OwnS G B H ρ δ σ F → f δ = some js → σ[i]? = some (some v) → walkV H js v p → Q (.ref p) H → t σ H Q
def ptNil : QP := fun _ => some []
def ptAt (f : QP) (g : QI) : QP := fun δ => match f δ, g δ with
  | some js, some k => some (js ++ [k])
  | _, _ => none
theorem dpt_nil {i : Nat} {x : Str} {pos : Pos} (hN : X.N[i]? = some x) (hv : Vis X.env.scope x) (hd : NotDbg x := by decide) (hcd : (x == ("__classdict__" : Str)) = false := by decide) : DPt X G (.Name x pos) i ptNil := by
  refine ⟨tVar i, pe_var hN hv hd hcd, fun ρ B H σ δ F js v p Q os e h1 w q => ?_⟩
  cases e
  have w' : v = .ref p := w
  subst w'
  exact ⟨_, h1, q⟩
theorem dpt_at {e1 e2 : Expr} {i : Nat} {f : QP} {g : QI} {pos : Pos} (h : DPt X G e1 i f) (k : DQ X G e2 g) (hs : PlainIx e2) : DPt X G (.Subscript e1 e2 pos) i (ptAt f g) := by
  obtain ⟨t, p, s⟩ := h.ex
  obtain ⟨u, p2, s2⟩ := k.ex
  refine ⟨_, pe_ix ix_list p p2 hs, fun ρ B H σ δ F js v pp Q os e h1 w q => ?_⟩
  unfold ptAt at e
  cases c1 : f δ with
  | none =>
    rw [c1] at e
    cases e
  | some js1 =>
    rw [c1] at e
    cases c2 : g δ with
    | none =>
      rw [c2] at e
      cases e
    | some k1 =>
      rw [c2] at e
      cases e
      obtain ⟨q1, xs, w1, w2, w3⟩ := walk_unsnoc w
      exact s ρ B H σ δ F js1 v q1 _ os c1 h1 w1 (s2 ρ B H σ δ F k1 _ os c2 ⟨q1, xs, k1, _, rfl, rfl, SqL.of w2, w3, q⟩)
theorem OwnS.rewrite {B1 H2 : Hp} {ρ R : List Addr} {a1 : Sto} {δ1 : SlM} {σ : L2.St} {Fa Fi Fm Fm' F1 : List Addr} {i : Nat} {m2 : M} {v0 : V} {p : Addr} {Fr F' : List Addr}
    (w : Wd G B1 H2 ρ a1 (F1 ++ (Fa ++ (Fi ++ R)))) (h0 : σ[i]? = some (some v0)) (hi : i < δ1.length) (pf : Fi.Perm (p :: (Fm ++ Fr))) (p' : F'.Perm (p :: (Fm' ++ Fr))) (sub : ∃ Fx, (Fm ++ F1).Perm (Fm' ++ Fx))
    (os : OwnS G B1 H2 ρ δ1 σ Fa) (o : Own G B1 H2 ρ m2 v0 F') : ∃ F3, Wd G B1 H2 ρ a1 (F3 ++ R) ∧ OwnS G B1 H2 ρ (δ1.set i (some m2)) σ F3 := by
  obtain ⟨Fx, px⟩ := sub
  obtain ⟨Fa2, Fb2, F3, y1, y3, h6⟩ := OwnS.set o os hi
  have es : σ.set i (some v0) = σ := by
    obtain ⟨hlt, e⟩ := List.getElem?_eq_some_iff.mp h0
    rw [← e]
    exact List.set_getElem_self hlt
  rw [es] at h6
  refine ⟨F3, ?_, h6⟩
  have cnt : ∀ q : Addr, List.count q (F1 ++ (Fa ++ (Fi ++ R))) = List.count q ((Fx ++ Fa2) ++ (F3 ++ R)) := fun q => by
    have e1 := List.perm_iff_count.mp pf q
    have e2 := List.perm_iff_count.mp p' q
    have e3 := List.perm_iff_count.mp px q
    have e4 := List.perm_iff_count.mp y1 q
    have e5 := List.perm_iff_count.mp y3 q
    simp only [List.count_append, List.count_cons] at *
    omega
  exact (w.perm (List.perm_iff_count.mpr cnt)).drop
theorem hid_ok {t : TE} {f : EM} {I : List Nat} {B H : Hp} {ρ R F Fi Fr : List Addr} {a : Sto} {δ : SlM} {σ : L2.St} {i : Nat} {k : M → SM} {E : Ends} {Q : VK} (hf : MOk G W t f) (w : Wd G B H ρ a (F ++ R)) (pf : F.Perm (Fi ++ Fr)) (os2 : OwnS G B H ρ (δ.set i none) σ Fr)
    (q : FinS G W ρ R B H ((lift I f (δ.set i none) a).seq k) E)
    (hk : ∀ m δ1 a1 B1 H1 v F1 Fa, Wd G B1 H1 ρ a1 (F1 ++ (Fa ++ (Fi ++ R))) → Same B B1 → Own G B1 H1 ρ m v F1 → OwnS G B1 H1 ρ δ1 σ Fa → (∀ q ∈ Fi, H1 q = H q) → FinS G W ρ R B1 H1 (k m δ1 a1) E → Q v H1) : t σ H Q := by
  have w2 : Wd G B H ρ a (Fr ++ (Fi ++ R)) := by
    refine w.perm ?_
    have z := List.Perm.append_right R (pf.trans List.perm_append_comm)
    rw [List.append_assoc] at z
    exact z
  refine lift_ok (R := Fi ++ R) (I := I) hf w2 os2 ?_
  cases c : lift I f (δ.set i none) a with
  | stuck =>
    rw [c] at q
    exact q.elim
  | exc cc ns ds δ1 a1 =>
    rw [c] at q
    intro B1 H1 dd F1 w1 sm kp x os1
    refine q B1 H1 σ dd F1 ?_ sm kp.right x os1
    have z : (F1 ++ (Fi ++ R)).Perm (Fi ++ (F1 ++ R)) := by
      rw [← List.append_assoc, ← List.append_assoc]
      exact List.Perm.append_right R List.perm_append_comm
    exact (w1.perm z).drop
  | ok m δ1 a1 =>
    rw [c] at q
    intro B1 H1 v Fa F1 w1 sm kp om os1
    exact hk m δ1 a1 B1 H1 v F1 Fa w1 sm om os1 kp.left (FinS.base q sm kp.right)
theorem apart_at {ρ : List Addr} {B H : Hp} {a : Sto} {F1 Fa Fi Fm Fr R : List Addr} {p : Addr} (w : Wd G B H ρ a (F1 ++ (Fa ++ (Fi ++ R)))) (pf : Fi.Perm (p :: (Fm ++ Fr))) : ∀ q, q ∈ F1 ∨ q ∈ Fa ∨ q ∈ Fm ∨ q ∈ Fr ∨ q ∈ R → q ≠ p := fun q hq z => by
  subst z
  have nd := (List.nodup_append.mp w.nd).2.1
  have one : List.count q (F1 ++ (Fa ++ (Fi ++ R))) ≤ 1 := List.nodup_iff_count.mp nd q
  have e := List.perm_iff_count.mp pf q
  simp only [List.count_append, List.count_cons_self] at one e
  have pos : ∀ {l : List Addr}, q ∈ l → 0 < List.count q l := fun h => List.count_pos_iff.mpr h
  rcases hq with h | h | h | h | h
  all_goals
    have z := pos h
    omega
theorem rewrite_at {B H B1 H1 : Hp} {ρ R F1 Fa Fi Fm Fm' Fr : List Addr} {a1 : Sto} {δ1 : SlM} {σ : L2.St} {i : Nat} {js : List Int} {mo : M} {v0 : V} {p : Addr} {ms' : List M} {xs' : List V}
    (w : Wd G B1 H1 ρ a1 (F1 ++ (Fa ++ (Fi ++ R)))) (sm : Same B B1) (os : OwnS G B1 H1 ρ δ1 σ Fa) (h0 : σ[i]? = some (some v0)) (hi : i < δ1.length) (kp : ∀ q ∈ Fi, H1 q = H q) (pf : Fi.Perm (p :: (Fm ++ Fr)))
    (g : ∀ (B' H' : Hp) (ms' : List M) (xs' : List V) (Fm' : List Addr), Same B B' → (∀ q ∈ Fr, H' q = H q) → H' p = some (.lst xs') → Owns G B' H' ρ ms' xs' Fm' → ∃ F', F'.Perm (p :: (Fm' ++ Fr)) ∧ Own G B' H' ρ (putL js ms' mo) v0 F')
    (sub : ∃ Fx, (Fm ++ F1).Perm (Fm' ++ Fx)) (o : Owns G B1 (upd H1 p (.lst xs')) ρ ms' xs' Fm') :
    ∃ F3, Wd G B1 (upd H1 p (.lst xs')) ρ a1 (F3 ++ R) ∧ OwnS G B1 (upd H1 p (.lst xs')) ρ (δ1.set i (some (putL js ms' mo))) σ F3 ∧ Kp R H1 (upd H1 p (.lst xs')) := by
  have ne := apart_at w pf
  have inp : p ∈ F1 ++ (Fa ++ (Fi ++ R)) := List.mem_append_right _ (List.mem_append_right _ (List.mem_append_left _ (pf.mem_iff.mpr List.mem_cons_self)))
  obtain ⟨F', p', o'⟩ := g B1 (upd H1 p (.lst xs')) ms' xs' Fm' sm (fun q hq => by
    rw [upd_ne (ne q (.inr (.inr (.inr (.inl hq)))))]
    exact kp q (pf.mem_iff.mpr (List.mem_cons_of_mem _ (List.mem_append_right _ hq)))) upd_same o
  have os' : OwnS G B1 (upd H1 p (.lst xs')) ρ δ1 σ Fa := OwnS.mono (Same.refl _) _ _ _ (fun q hq => upd_ne (ne q (.inr (.inl hq)))) os
  obtain ⟨F3, w3, h3⟩ := OwnS.rewrite (w.updO inp) h0 hi pf p' sub os' o'
  exact ⟨F3, w3, h3, fun q hq => upd_ne (ne q (.inr (.inr (.inr (.inr hq)))))⟩
def sAppP (I : List Nat) (i : Nat) (fp : QP) (f : EM) : SM := fun δ a => match δ[i]? with
  | some (some mo) => (match fp δ with
    | some js => (match focL js mo with
      | some ms => (lift I f (δ.set i none) a).seq fun m δ1 a1 => if ms.length < 100000 ∧ i < δ1.length then .nx (δ1.set i (some (putL js (ms ++ [m]) mo))) a1 else .stuck
      | none => .stuck)
    | none => .stuck)
  | _ => .stuck
theorem ds_appendP {e o : Expr} {i : Nat} {fp : QP} {f : EM} {p2 p3 pos : Pos} (I : List Nat) (ho : DPt X G o i fp) (he : DM X G W e f)
    (hbase : NoSup X o "append" := by rfl) (hfew : FewA X p3 [e] := by rfl) (hline : OneRow p2 p3 := by rfl) (hs : HeadP X e [] := by rfl) (hpl : RestP X p3 [] := by rfl)
    (hsw : swapsWith (.Call (.Attribute o "append" p2) [e] [] p3) none pos.line X.env = pure false := by rfl) :
    DS X G W (.Expr (.Call (.Attribute o "append" p2) [e] [] p3) pos) (sAppP I i fp f) := by
  obtain ⟨te, pe, se⟩ := he.ex
  obtain ⟨to, po, so⟩ := ho.ex
  refine ⟨_, ps_expr (pe_bm PySem.F.plainAttrs_list PySem.F.slot_list_append PySem.F.type_list_append mt_append po (pa_cons pe pa_nil hs) hbase hfew hline hs hpl) hsw, fun ρ R B H σ δ a F Z w os q => ?_⟩
  unfold sAppP at q
  cases c0 : δ[i]? with
  | none =>
    rw [c0] at q
    exact q.elim
  | some o0 =>
    rw [c0] at q
    cases o0 with
    | none => exact q.elim
    | some mo =>
      dsimp only at q
      cases c1 : fp δ with
      | none =>
        rw [c1] at q
        exact q.elim
      | some js =>
        rw [c1] at q
        dsimp only at q
        cases c2 : focL js mo with
        | none =>
          rw [c2] at q
          exact q.elim
        | some ms =>
          rw [c2] at q
          dsimp only at q
          obtain ⟨v0, Fi, Fr', pf, h0, o0, os2⟩ := OwnS.take os c0
          obtain ⟨pp, xs, Fm, Fr, g1, g2, g3, g4, g5⟩ := Own.foc o0 c2
          refine so ρ B H σ δ F js v0 pp _ os c1 h0 g1 ⟨.inl ⟨rfl, _, SqL.of g2⟩, ?_⟩
          refine hid_ok se w pf os2 q fun m δ1 a1 B1 H1 v F1 Fa w1 sm om os1 kp q1 => ?_
          by_cases c3 : ms.length < 100000 ∧ i < δ1.length
          · rw [if_pos c3] at q1
            have inI : ∀ q, q = pp ∨ q ∈ Fm → q ∈ Fi := fun q hq => g4.mem_iff.mpr (hq.elim (fun z => z ▸ List.mem_cons_self) fun z => List.mem_cons_of_mem _ (List.mem_append_left _ z))
            have hp1 : H1 pp = some (.lst xs) := (kp pp (inI pp (.inl rfl))).trans g2
            have hl : xs.length < sizeLine := by
              rw [sizeLine_eq, ← g3.len]
              omega
            refine ⟨pp, xs, v, rfl, rfl, hp1, hl, ?_⟩
            have ne := apart_at w1 g4
            have ow : Owns G B1 (upd H1 pp (.lst (xs ++ [v]))) ρ (ms ++ [m]) (xs ++ [v]) (Fm ++ F1) := Owns.snoc
              (Owns.mono sm ms xs Fm (fun q hq => (upd_ne (ne q (.inr (.inr (.inl hq))))).trans (kp q (inI q (.inr hq)))) g3) (Own.mono (Same.refl _) m v F1 (fun q hq => upd_ne (ne q (.inl hq))) om)
            obtain ⟨F3, w3, h3, k3⟩ := rewrite_at w1 sm os1 h0 c3.2 kp g4 g5 ⟨[], by rw [List.append_nil]⟩ ow
            exact q1 B1 _ σ F3 w3 (Same.refl _) k3 h3
          · rw [if_neg c3] at q1
            exact q1.elim
def sSetP (I : List Nat) (i : Nat) (fp : QP) (fk : QI) (f : EM) : SM := fun δ a => (lift I f δ a).seq fun m δ1 a1 => match δ1[i]? with
  | some (some mo) => (match fp δ1 with
    | some js => (match focL js mo with
      | some ms => (match fk δ1 with
        | some k => (match ixN ms.length k with
          | some j => .nx (δ1.set i (some (putL js (ms.set j m) mo))) a1
          | none => .stuck)
        | none => .stuck)
      | none => .stuck)
    | none => .stuck)
  | _ => .stuck
theorem Owns.setAt {B H : Hp} {ρ : List Addr} {m : M} {v : V} {F1 : List Addr} (hm : Own G B H ρ m v F1) : ∀ {ms : List M} {xs : List V} {F : List Addr} {k : Nat}, Owns G B H ρ ms xs F → k < ms.length → ∃ Fo F', (F ++ F1).Perm (F' ++ Fo) ∧ Owns G B H ρ (ms.set k m) (xs.set k v) F'
  | [], xs, F, k, h, hk => absurd hk (Nat.not_lt_zero _)
  | m0 :: ms, xs, F, 0, h, hk => by
    obtain ⟨x, r, G1, G2, rfl, rfl, h3, h4⟩ := h
    refine ⟨G1, F1 ++ G2, ?_, v, r, F1, G2, rfl, rfl, hm, h4⟩
    have z : ((G1 ++ G2) ++ F1).Perm (G1 ++ (F1 ++ G2)) := by
      rw [List.append_assoc]
      exact List.Perm.append_left _ List.perm_append_comm
    exact z.trans List.perm_append_comm
  | m0 :: ms, xs, F, k + 1, h, hk => by
    obtain ⟨x, r, G1, G2, rfl, rfl, h3, h4⟩ := h
    obtain ⟨Fo, F', p1, o1⟩ := Owns.setAt (k := k) hm h4 (Nat.lt_of_succ_lt_succ hk)
    refine ⟨Fo, G1 ++ F', ?_, x, _, G1, F', rfl, rfl, h3, o1⟩
    rw [List.append_assoc, List.append_assoc]
    exact List.Perm.append_left _ p1
theorem ds_setP {e o e2 : Expr} {i : Nat} {fp : QP} {fk : QI} {f : EM} {tpos pos : Pos} (I : List Nat) (he : DM X G W e f) (ho : DPt X G o i fp) (hk : DQ X G e2 fk)
    (hs : swapsWithSole [.Subscript o e2 tpos] e pos.line X.env = pure false := by rfl) (hw : swappedStores [.Subscript o e2 tpos] e X.env = pure none := by rfl)
    (h1 : (assignEach [.Subscript o e2 tpos] X.env).map (·.2) = [assign (.Subscript o e2 tpos) X.env] := by rfl)
    (ha : SubF X o e2 tpos := by intro _; rfl) : DS X G W (.Assign [.Subscript o e2 tpos] e pos) (sSetP I i fp fk f) := by
  obtain ⟨te, pe, se⟩ := he.ex
  obtain ⟨to, po, so⟩ := ho.ex
  obtain ⟨tk, pk, sk⟩ := hk.ex
  refine ⟨_, ps_asg pe (pg_sub po pk set_list ha) hs hw h1, fun ρ R B H σ δ a F Z w os q => ?_⟩
  refine lift_ok se w os (Ox.fin q fun m δ1 a1 B1 H1 v F1 Fa w1 om os1 q1 => ?_)
  cases c0 : δ1[i]? with
  | none =>
    rw [c0] at q1
    exact q1.elim
  | some o0 =>
    rw [c0] at q1
    cases o0 with
    | none => exact q1.elim
    | some mo =>
      dsimp only at q1
      cases c1 : fp δ1 with
      | none =>
        rw [c1] at q1
        exact q1.elim
      | some js =>
        rw [c1] at q1
        dsimp only at q1
        cases c2 : focL js mo with
        | none =>
          rw [c2] at q1
          exact q1.elim
        | some ms =>
          rw [c2] at q1
          dsimp only at q1
          cases c3 : fk δ1 with
          | none =>
            rw [c3] at q1
            exact q1.elim
          | some k =>
            rw [c3] at q1
            dsimp only at q1
            cases c4 : ixN ms.length k with
            | none =>
              rw [c4] at q1
              exact q1.elim
            | some j =>
              rw [c4] at q1
              obtain ⟨v0, Fi, Fr', pf, h0, o0, os2⟩ := OwnS.take os1 c0
              obtain ⟨pp, xs, Fm, Fr, g1, g2, g3, g4, g5⟩ := Own.foc o0 c2
              refine so ρ B1 H1 σ δ1 Fa js v0 pp _ os1 c1 h0 g1 (sk ρ B1 H1 σ δ1 Fa k _ os1 c3 ?_)
              have hj : ixN xs.length k = some j := by
                rw [← g3.len]
                exact c4
              refine ⟨pp, xs, k, j, rfl, rfl, g2, hj, ?_⟩
              have w2 : Wd G B1 H1 ρ a1 (F1 ++ (Fr' ++ (Fi ++ R))) := by
                refine w1.perm (List.Perm.append_left F1 ?_)
                have z := List.Perm.append_right R (pf.trans List.perm_append_comm)
                rw [List.append_assoc] at z
                exact z
              have ne := apart_at w2 g4
              have om' : Own G B1 (upd H1 pp (.lst (xs.set j v))) ρ m v F1 := Own.mono (Same.refl _) m v F1 (fun q hq => upd_ne (ne q (.inl hq))) om
              have ow' : Owns G B1 (upd H1 pp (.lst (xs.set j v))) ρ ms xs Fm := Owns.mono (Same.refl _) ms xs Fm (fun q hq => upd_ne (ne q (.inr (.inr (.inl hq))))) g3
              obtain ⟨Fo, Fm', p1, ow⟩ := Owns.setAt om' ow' (ixN_seq c4).2.1
              have hi : i < (δ1.set i none).length := by
                rw [List.length_set]
                exact (List.getElem?_eq_some_iff.mp c0).1
              obtain ⟨F3, w3, h3, k3⟩ := rewrite_at w2 (Same.refl B1) os2 h0 hi (fun q hq => rfl) g4 g5 ⟨Fo, p1⟩ ow
              rw [List.set_set] at h3
              exact q1 B1 _ σ F3 w3 (Same.refl _) k3 h3
end
end DL
namespace DL
open PySem PySem.Spec PyProof.Rows L2
def blsD : List D → Option (List Bool)
  | [] => some []
  | .bl b :: r => (blsD r).map fun l => b :: l
  | _ => none
theorem blsD_map : ∀ bs : List Bool, blsD (bs.map D.bl) = some bs
  | [] => rfl
  | b :: bs => by
    show (blsD (bs.map D.bl)).map _ = _
    rw [blsD_map bs]
    rfl
theorem blsD_eq : ∀ {ds : List D} {bs : List Bool}, blsD ds = some bs → ds = bs.map D.bl
  | [], bs, h => by
    cases h
    rfl
  | d :: r, bs, h => by
    cases d with
    | bl b =>
      have h' : (blsD r).map (fun l => b :: l) = some bs := h
      obtain ⟨l, h1, h2⟩ := Option.map_eq_some_iff.mp h'
      rw [← h2, blsD_eq h1]
      rfl
    | _ => cases h
section
variable {α : Type} (le : α → α → Bool)
def insO (x : α) : List α → List α
  | [] => [x]
  | y :: r => if le x y = true then x :: y :: r else y :: insO x r
def sortO : List α → List α
  | [] => []
  | x :: r => insO le x (sortO r)
theorem insO_perm (x : α) : ∀ l : List α, (insO le x l).Perm (x :: l)
  | [] => List.Perm.refl _
  | y :: r => by
    unfold insO
    split
    · exact List.Perm.refl _
    · exact (List.Perm.cons y (insO_perm x r)).trans (List.Perm.swap x y r)
theorem sortO_perm : ∀ l : List α, (sortO le l).Perm l
  | [] => List.Perm.refl _
  | x :: r => (insO_perm le x _).trans (List.Perm.cons x (sortO_perm r))
end
def leS (x y : Str) : Bool := !ltCps y.cps.toList x.cps.toList
theorem CallR.two {X : Cx} {f : Value} {r r' : List V → Hp → VK → Prop} (h : CallR X f r) (h' : CallR X f r') : CallR X f (fun vs H Q => r vs H Q ∨ r' vs H Q) := fun pins s σ H xs us Q I rv q => q.elim (h pins s σ H xs us Q I rv) (h' pins s σ H xs us Q I rv)
def gAll (_ : Sto) : D → Option New
  | .lst ds => (blsD ds).map fun bs => .val (.bl (bs.all id))
  | _ => none
def gAny (_ : Sto) : D → Option New
  | .lst ds => (blsD ds).map fun bs => .val (.bl (bs.any id))
  | _ => none
section
variable {G : Gx}
theorem c_all : CallN G (rAll G.K) (un1 gAll) := .un fun ρ R B H a d nw x Q w r e q => by
  cases d with
  | lst ds =>
    obtain ⟨bs, h1, rfl⟩ := Option.map_eq_some_iff.mp (show (blsD ds).map _ = some nw from e)
    obtain ⟨p, xs, rfl, h2, h3⟩ := r
    rw [blsD_eq h1] at h3
    rw [Reps.bls.mp h3] at h2
    exact ⟨p, bs, rfl, SqL.of (w.ex _ _ h2), q _ rfl⟩
  | _ => cases e
theorem c_any : CallN G (rAny G.K) (un1 gAny) := .un fun ρ R B H a d nw x Q w r e q => by
  cases d with
  | lst ds =>
    obtain ⟨bs, h1, rfl⟩ := Option.map_eq_some_iff.mp (show (blsD ds).map _ = some nw from e)
    obtain ⟨p, xs, rfl, h2, h3⟩ := r
    rw [blsD_eq h1] at h3
    rw [Reps.bls.mp h3] at h2
    exact ⟨p, bs, rfl, SqL.of (w.ex _ _ h2), q _ rfl⟩
  | _ => cases e
end
section
variable {X : Cx} {G : Gx} {W : WX} {e : Expr} {es : List Expr} {ga : EA} {p pos : Pos}
theorem dv_all (hK : G.K = X.K) (hc : X.calm = true) (hm : X.mg "all" = none) (ha : DA X G W (e :: es) ga) (hg : Gl X "all" := by rfl) (he : HeadP X e es := by rfl) (hpl : RestP X pos es := by rfl) : DV X G W (.Call (.Name "all" p) (e :: es) [] pos) (cV (un1 gAll) ga) :=
  dv_callB (cr_all hc) (by have z := c_all (G := G); rw [hK] at z; exact z) hg hm PyProof.Rows.boot_all ha (by decide) (by decide) he hpl
theorem dv_any (hK : G.K = X.K) (hc : X.calm = true) (hm : X.mg "any" = none) (ha : DA X G W (e :: es) ga) (hg : Gl X "any" := by rfl) (he : HeadP X e es := by rfl) (hpl : RestP X pos es := by rfl) : DV X G W (.Call (.Name "any" p) (e :: es) [] pos) (cV (un1 gAny) ga) :=
  dv_callB (cr_any hc) (by have z := c_any (G := G); rw [hK] at z; exact z) hg hm PyProof.Rows.boot_any ha (by decide) (by decide) he hpl
def bmV (g : Str → List D → Option New) (fo : EV) (fa : EA) : EV := fun δ a => (fo δ a).bind fun o a1 => match o with
  | .str s => (fa δ a1).bind fun ds a2 => (match g s ds with | some nw => .ok nw.d a2 | none => .stuck)
  | _ => .stuck
def bmM (g : Str → List D → Option New) (fo : EV) (fa : EA) : EM := fun δ a => (fo δ a).bind fun o a1 => match o with
  | .str s => (fa δ a1).bind fun ds a2 => (match g s ds with | some nw => .ok nw.m a2 | none => .stuck)
  | _ => .stuck
abbrev EJ := Str → Sw → Sto → Out D
def jNil : EJ := fun acc _ a => .ok (.str acc) a
structure DJ (X : Cx) (G : Gx) (W : WX) (es : List Expr) (g : EJ) : Prop where
  ex : ∃ ts, PJ X es ts ∧ ∀ (ρ R : List Addr) (B H : Hp) (σ : L2.St) (δ : Sw) (a : Sto) (acc : Str) (Q : Str → Hp → Prop), Wd G B H ρ a R → Sls G B ρ δ σ →
    Fin G W ρ R B H σ (g acc δ a) (fun d _ _ H' => ∀ y, d = .str y → Q y H') → tJs ts acc σ H Q
def eJoi (g : EJ) : EV := fun δ a => (g Str.empty δ a).opt fun d => match d with
  | .str y => some (.str y)
  | _ => none
end
end DL
namespace DL
open PySem PySem.Spec PyProof.Rows L2
structure SpcD (P : Program) (w : World) (K : PySem.W.Frag) (mg : Str → Option Value) (base : Heap) (G : Gx) (m : Str) (k n : Nat) (p : Nat × FM) : Prop where
  ex : ∃ (f : Addr) (fd : FuncData) (ps : List Str), FnOk P w K mg base (L2.CX P w) k f fd ps (spD G p.2 n) ∧ PySem.W.findIn K (.ref (G.T p.1)) m = some (some (.ref f)) ∧ PySem.W.isFn K (.ref f) = true ∧ Binds K fd ps []
section
variable {X : Cx} {G : Gx} {W : WX} {k : Nat} {T : List (Nat × FM)}
abbrev noX : XK := fun _ _ _ => False
end
section
variable {X : Cx} {G : Gx} {W : WX} {k : Nat} {T : List (Nat × FM)}
variable {e e1 e2 : Expr} {es : List Expr} {fa fb : EV} {ga : EA} {p pos : Pos}
end
end DL
namespace DL
open PySem PySem.Spec PyProof.Rows L2
def visB (sc : Scope) (x : Str) : Bool := match sc.names.lookup x with
  | some .local => true
  | some .cell => true
  | some .free => true
  | _ => false
theorem vis_b {sc : Scope} {x : Str} (h : visB sc x = true) : Vis sc x := by
  unfold visB at h
  split at h
  · rename_i e
    exact .inl e
  · rename_i e
    exact .inr (.inl e)
  · rename_i e
    exact .inr (.inr e)
  · cases h
theorem vis_rows {env : Env} {x : Str} : ∀ {l : List (Str × NameKind)} {k : NameKind}, l.lookup x = some k → (k = .local ∨ k = .cell ∨ k = .free) →
    ∃ k', (l.map fun (n, k) => if (k == NameKind.free && env.scope.kind == .function && env.kindOf n == some .cell) then (n, NameKind.cell) else (n, k)).lookup x = some k' ∧ (k' = .local ∨ k' = .cell ∨ k' = .free)
  | [], k, h, _ => by cases h
  | (n, k0) :: r, k, h, hk => by
    rw [List.lookup_cons] at h
    rw [List.map_cons]
    cases c : x == n with
    | true =>
      rw [c] at h
      cases h
      dsimp only
      split
      · exact ⟨.cell, by rw [List.lookup_cons, c], .inr (.inl rfl)⟩
      · exact ⟨k0, by rw [List.lookup_cons, c], hk⟩
    | false =>
      rw [c] at h
      obtain ⟨k', h1, h2⟩ := vis_rows (env := env) h hk
      refine ⟨k', ?_, h2⟩
      dsimp only
      split
      · rw [List.lookup_cons, c]
        exact h1
      · rw [List.lookup_cons, c]
        exact h1
theorem vis_blk {X : Cx} {s : Shared} {H : Hp} {scope : Scope} {cl : List (Str × Addr)} {C : Addr} {fp : List Addr} {x : Str} (h : visB scope x = true) : Vis ((X.blk s H scope (compEnvC scope cl C X.env) fp).env.scope) x := by
  have z : ∃ k, scope.names.lookup x = some k ∧ (k = .local ∨ k = .cell ∨ k = .free) := by
    rcases vis_b h with e | e | e
    · exact ⟨_, e, .inl rfl⟩
    · exact ⟨_, e, .inr (.inl rfl)⟩
    · exact ⟨_, e, .inr (.inr rfl)⟩
  obtain ⟨k, e, hk⟩ := z
  obtain ⟨k', h1, h2⟩ := vis_rows (env := X.env) e hk
  rcases h2 with rfl | rfl | rfl
  · exact .inl h1
  · exact .inr (.inl h1)
  · exact .inr (.inr h1)
theorem MOk.vm {G : Gx} {W : WX} {t : TE} {f : EM} (s : MOk G W t f) : MOk G W t (mV (vM f)) := fun ρ R B H σ δ a Q w sl q => s ρ R B H σ δ a Q w sl (by
  unfold mV vM at q
  cases e : f δ a with
  | ok m a' =>
    rw [e] at q
    exact fun B' H' v F w' s' k' o => q (ov B' H' F) H' v [] w'.absorb (s'.trans w'.sameOv) k' ⟨rfl, Own.froze w'.sameOv m v F (fun p hp => ov_in hp) o⟩
  | exc c ns ds a' =>
    rw [e] at q
    exact q
  | stuck =>
    rw [e] at q
    exact q)
section
variable {X : Cx} {G : Gx} {W : WX}
theorem ds_setLcV {i : Nat} {y : Str} {py : Pos} {elt tg iter : Expr} {ifs : List Expr} {scope : Scope} {own : List (Str × Nat)} {pos spos : Pos} {it : EI} {fr : Bool} {gt : D → Sw → Option Sw} {ft : ET} {fe : EM} (I : List Nat) (hc : X.calm = true) (hN : X.N.Nodup) (hy : X.N[i]? = some y) (hyl : X.env.scope.names.lookup y = some .local)
    (hsw : swapsWith (.ListComp elt [⟨tg, iter, ifs, 0⟩] scope pos) (some (.Name y py)) spos.line X.env = pure true) (hi : DI X G W tg iter fr it) (ok : BlkOk X.N X.env.scope scope own)
    (hg : ∀ (s : Shared) (H : Hp) (C : Addr) (cl : List (Str × Addr)) (fp : List Addr), DGx (X.blk s H scope (compEnvC scope cl C X.env) fp) G (own.map (·.2)) tg gt)
    (ht : ∀ (s : Shared) (H : Hp) (C : Addr) (cl : List (Str × Addr)) (fp : List Addr), DPs (X.blk s H scope (compEnvC scope cl C X.env) fp) G W0 ifs ft)
    (he : ∀ (s : Shared) (H : Hp) (C : Addr) (cl : List (Str × Addr)) (fp : List Addr), DM (X.blk s H scope (compEnvC scope cl C X.env) fp) G W0 elt fe) (hs : ∀ x, foldedSetIterable iter X.env x = pure x := by intro _; rfl) :
    DS X G W (.Assign [.Name y py] (.ListComp elt [⟨tg, iter, ifs, 0⟩] scope pos) spos) (sSet i I (mV (vM (lcM (own.map (·.2)) it gt ft fe)))) := by
  obtain ⟨wi, pi, si⟩ := hi.ex
  exact ⟨_, ps_setLc hc hN hy hyl hsw pi ok (fun s H C cl fp => can_g (hg s H C cl fp)) (fun s H C cl fp => can_t (ht s H C cl fp)) (fun s H C cl fp => can_m (he s H C cl fp)) hs, SOk.set (MOk.vm (MOk.lc si))⟩
end
end DL
namespace DL
open PySem PySem.Spec PyProof.Rows L2
def spA (G : Gx) (g : FM) : Sp := fun vs H Q E => ∃ (ρ R : List Addr) (B : Hp) (ds : List D) (a : Sto), Wd G B H ρ a R ∧ Reps G B ρ ds vs ∧ FinM G (fun cls d _ H => E cls d H) ρ R B H [] (g ds a) (fun _ _ _ H' v _ => Q v H')
section
variable {X : Cx} {G : Gx} {W : WX} {x : Str} {c k : Nat} {g : FM} {e : Expr} {es : List Expr} {p pos sp_ : Pos}
structure InitS (P : Program) (w : World) (K : PySem.W.Frag) (mg : Str → Option Value) (base : Heap) (G : Gx) (x : Str) (c k : Nat) (g : FM) : Prop where
  ex : ∃ f : Addr, FnR P w K mg base (L2.CX P w) k f (spA G g) ∧ mg x = some (.ref (G.T c)) ∧ Mk K (G.T c) f
end
end DL
namespace DL
open PySem PySem.Spec PyProof.Rows L2
structure BinD (P : Program) (w : World) (K : PySem.W.Frag) (mg : Str → Option Value) (base : Heap) (G : Gx) (op : Operator) (k : Nat) (p : Nat × FM) : Prop where
  ex : ∃ (f : Addr) (fd : FuncData) (ps : List Str), FnOk P w K mg base (L2.CX P w) k f fd ps (spD G p.2 2) ∧ PySem.W.findIn K (.ref (G.T p.1)) (PySem.dunder op.info.2) = some (some (.ref f)) ∧ PySem.W.isFn K (.ref f) = true ∧ Binds K fd ps []
  first : PySem.W.selfFirst K (G.T p.1) = true
  right : ∃ rc fo ro, PySem.W.findIn K (.ref (G.T p.1)) (PySem.dunderR op.info.2) = some rc ∧ (rc = none ∨ ∃ g : Addr, rc = some (.ref g)) ∧ PySem.W.findIn K (.type "int") (PySem.dunder op.info.2) = some fo ∧ PySem.W.findIn K (.type "int") (PySem.dunderR op.info.2) = some ro ∧ PySem.W.subIn K (.type "int") (.ref (G.T p.1)) = some false
section
variable {X : Cx} {G : Gx} {W : WX} {k : Nat} {T : List (Nat × FM)}
structure ItmD (P : Program) (w : World) (K : PySem.W.Frag) (mg : Str → Option Value) (base : Heap) (G : Gx) (k : Nat) (p : Nat × FM) : Prop where
  ex : ∃ (f : Addr) (fd : FuncData) (ps : List Str), FnOk P w K mg base (L2.CX P w) k f fd ps (spD G p.2 2) ∧ PySem.W.findIn K (.ref (G.T p.1)) "__getitem__" = some (some (.ref f)) ∧ PySem.W.fnIn K f = true ∧ PySem.W.isFn K (.ref f) = true ∧ Binds K fd ps []
end
end DL
namespace DL
open PySem PySem.Spec PyProof.Rows L2
mutual
def noLocM (n : Nat) : M → Bool
  | .val d => noLoc n d
  | .lst ms => noLocMs n ms
  | .tup ms => noLocMs n ms
  | .obj _ _ ms => noLocMs n ms
  | .pin _ m => noLocM n m
def noLocMs (n : Nat) : List M → Bool
  | [] => true
  | m :: ms => noLocM n m && noLocMs n ms
end
def noLocS (n : Nat) : SlM → Bool
  | [] => true
  | none :: r => noLocS n r
  | some m :: r => noLocM n m && noLocS n r
section
variable {G : Gx} {B H : Hp} {ρ R : List Addr} {x : Addr}
mutual
theorem Own.less : ∀ (m : M) (v : V) (F : List Addr), noLocM ρ.length m = true → Own G B H (ρ ++ [x]) m v F → Own G B H ρ m v F
  | .val d, v, F, c, h => ⟨h.1, Rep.less d v c h.2⟩
  | .lst ms, v, F, c, h => by
    obtain ⟨p, xs, F1, h1, h2, h3, h4⟩ := h
    exact ⟨p, xs, F1, h1, h2, h3, Owns.less ms xs F1 c h4⟩
  | .tup ms, v, F, c, h => by
    obtain ⟨p, xs, F1, h1, h2, h3, h4⟩ := h
    exact ⟨p, xs, F1, h1, h2, h3, Owns.less ms xs F1 c h4⟩
  | .obj _ ns ms, v, F, c, h => by
    obtain ⟨p, dx, xs, F1, h1, h2, h3, h5, h6, h4⟩ := h
    exact ⟨p, dx, xs, F1, h1, h2, h3, h5, h6, Owns.less ms xs F1 c h4⟩
  | .pin _ m, v, F, c, h => ⟨h.1, Own.less m v F c h.2⟩
theorem Owns.less : ∀ (ms : List M) (xs : List V) (F : List Addr), noLocMs ρ.length ms = true → Owns G B H (ρ ++ [x]) ms xs F → Owns G B H ρ ms xs F
  | [], xs, F, c, h => h
  | m :: ms, xs, F, c, h => by
    obtain ⟨y, r, F1, F2, h1, h2, h3, h4⟩ := h
    have c' : (noLocM ρ.length m && noLocMs ρ.length ms) = true := c
    obtain ⟨c1, c2⟩ := Bool.and_eq_true_iff.mp c'
    exact ⟨y, r, F1, F2, h1, h2, Own.less m y F1 c1 h3, Owns.less ms r F2 c2 h4⟩
end
theorem OwnS.less : ∀ (δ : SlM) (σ : L2.St) (F : List Addr), noLocS ρ.length δ = true → OwnS G B H (ρ ++ [x]) δ σ F → OwnS G B H ρ δ σ F
  | [], σ, F, c, h => h
  | none :: δ, σ, F, c, h => by
    obtain ⟨o, r, h1, h2⟩ := h
    exact ⟨o, r, h1, OwnS.less δ r F c h2⟩
  | some m :: δ, σ, F, c, h => by
    obtain ⟨v, r, F1, F2, h1, h2, h3, h4⟩ := h
    have c' : (noLocM ρ.length m && noLocS ρ.length δ) = true := c
    obtain ⟨c1, c2⟩ := Bool.and_eq_true_iff.mp c'
    exact ⟨v, r, F1, F2, h1, h2, Own.less m v F1 c1 h3, OwnS.less δ r F2 c2 h4⟩
def clS (n : Nat) : SlM → SlM
  | [] => []
  | some (.val (.loc k)) :: r => (if k = n then none else some (.val (.loc k))) :: clS n r
  | o :: r => o :: clS n r
theorem OwnS.clean (n : Nat) : ∀ (δ : SlM) (σ : L2.St) (F : List Addr), OwnS G B H ρ δ σ F → OwnS G B H ρ (clS n δ) σ F
  | [], σ, F, h => h
  | none :: δ, σ, F, h => by
    obtain ⟨o, r, h1, h2⟩ := h
    exact ⟨o, r, h1, OwnS.clean n δ r F h2⟩
  | some m :: δ, σ, F, h => by
    have keep : OwnS G B H ρ (some m :: clS n δ) σ F := by
      obtain ⟨v, r, F1, F2, h1, h2, h3, h4⟩ := h
      exact ⟨v, r, F1, F2, h1, h2, h3, OwnS.clean n δ r F2 h4⟩
    cases m with
    | val d =>
      cases d with
      | loc k =>
        show OwnS G B H ρ ((if k = n then none else some (.val (.loc k))) :: clS n δ) σ F
        by_cases e : k = n
        · rw [if_pos e]
          obtain ⟨v, r, F1, F2, h1, rfl, ⟨rfl, h3⟩, h4⟩ := h
          exact ⟨some v, r, h1, OwnS.clean n δ r F2 h4⟩
        · rw [if_neg e]
          exact keep
      | _ => exact keep
    | _ => exact keep
theorem Wd.pushN {a : Sto} {p : Addr} {l : List Int} (w : Wd G B H ρ a (p :: R)) (hp : H p = some (.lst (l.map V.int))) : Wd G B H (ρ ++ [p]) (a ++ [.nums l]) R := by
  have pm : ((ρ ++ [p]) ++ R).Perm (ρ ++ p :: R) := by
    rw [List.append_assoc]
    exact List.Perm.refl _
  refine ⟨w.ex, by rw [List.length_append, List.length_append, w.len] <;> rfl, fun n q k h1 h2 => ?_, pm.nodup_iff.mpr w.nd, fun q hq => w.bn q (pm.mem_iff.mp hq), fun q hq => w.has q (pm.mem_iff.mp hq)⟩
  by_cases hn : n < ρ.length
  · rw [List.getElem?_append_left hn] at h1
    rw [List.getElem?_append_left (by rw [← w.len]; exact hn)] at h2
    have z := w.sto n q k h1 h2
    cases k with
    | nums l => exact z
    | obj cc ns ds =>
      obtain ⟨dy, ys, y1, y2, y3, y4, y5, y6⟩ := z
      exact ⟨dy, ys, y1, y2, y3, Reps.ext [p] ds ys y4, fun m => y5 (pm.mem_iff.mp m), y6⟩
    | vals ds =>
      obtain ⟨ys, y1, y4⟩ := z
      exact ⟨ys, y1, Reps.ext [p] ds ys y4⟩
  · have e1 : n = ρ.length := by
      have l1 := (List.getElem?_eq_some_iff.mp h1).1
      rw [List.length_append, List.length_singleton] at l1
      omega
    subst e1
    rw [List.getElem?_append_right (Nat.le_refl _), Nat.sub_self] at h1
    rw [w.len, List.getElem?_append_right (Nat.le_refl _), Nat.sub_self] at h2
    cases h1
    cases h2
    exact hp
def popN (n : Nat) (a : Sto) : Option (Sto × List Int) := match a[n]? with
  | some (.nums l) => if noLocA n (a.take n) = true then some (a.take n, l) else none
  | _ => none
theorem Wd.popN {a a3 : Sto} {p : Addr} {l : List Int} (w : Wd G B H (ρ ++ [p]) a R) (e : popN ρ.length a = some (a3, l)) : Wd G B H ρ a3 (p :: R) ∧ H p = some (.lst (l.map V.int)) := by
  have hl := w.len
  rw [List.length_append, List.length_singleton] at hl
  unfold DL.popN at e
  cases c1 : a[ρ.length]? with
  | none =>
    rw [c1] at e
    cases e
  | some cl =>
    rw [c1] at e
    cases cl with
    | obj c' ns' ds' => cases e
    | vals _ => cases e
    | nums l' =>
      dsimp only at e
      by_cases c4 : noLocA ρ.length (a.take ρ.length) = true
      · rw [if_pos c4] at e
        cases e
        have hx : (ρ ++ [p])[ρ.length]? = some p := by
          rw [List.getElem?_append_right (Nat.le_refl _), Nat.sub_self]
          rfl
        have hp := w.sto ρ.length p _ hx c1
        have pm : ((ρ ++ [p]) ++ R).Perm (ρ ++ p :: R) := by
          rw [List.append_assoc]
          exact List.Perm.refl _
        refine ⟨⟨w.ex, by rw [List.length_take]; omega, fun n q k h1 h2 => ?_, pm.nodup_iff.mp w.nd, fun q hq => w.bn q (pm.mem_iff.mpr hq), fun q hq => w.has q (pm.mem_iff.mpr hq)⟩, hp⟩
        have hn : n < ρ.length := (List.getElem?_eq_some_iff.mp h1).1
        have h2' : a[n]? = some k := by
          rw [List.getElem?_take] at h2
          rw [if_pos hn] at h2
          exact h2
        have y := w.sto n q k (by rw [List.getElem?_append_left hn]; exact h1) h2'
        cases k with
        | nums l => exact y
        | obj cc ms es =>
          obtain ⟨dy, ys, y1, y2, y3, y4, y5, y6⟩ := y
          exact ⟨dy, ys, y1, y2, y3, Reps.less es ys (noLocA_at c4 h2) y4, fun m => y5 (pm.mem_iff.mpr m), y6⟩
        | vals es =>
          obtain ⟨ys, y1, y4⟩ := y
          exact ⟨ys, y1, Reps.less es ys (noLocA_atV c4 h2) y4⟩
      · rw [if_neg c4] at e
        cases e
end
def shOut (j k n : Nat) : OutS → OutS
  | .nx δ a => (match popN n a with
    | some (a3, l) => (match (clS n δ)[j]? with
      | some (some (.lst ms)) => (match ms[k]? with
        | some (.val (.loc m)) => if m = n ∧ noLocS n ((clS n δ).set j (some (.lst (ms.set k (.lst ((l.map D.int).map M.val)))))) = true then .nx ((clS n δ).set j (some (.lst (ms.set k (.lst ((l.map D.int).map M.val)))))) a3 else .stuck
        | _ => .stuck)
      | _ => .stuck)
    | none => .stuck)
  | _ => .stuck
def sWith (j k : Nat) (f : SM) : SM := fun δ a => match δ[j]? with
  | some (some (.lst ms)) => (match ms[k]? with
    | some (.lst is) => (match intsM is with
      | some l => shOut j k a.length (f (δ.set j (some (.lst (ms.set k (.val (.loc a.length)))))) (a ++ [.nums l]))
      | none => .stuck)
    | _ => .stuck)
  | _ => .stuck
section
variable {G : Gx} {W : WX} {t : TS} {f : SM} {j k : Nat}
theorem OwnS.elem {B H : Hp} {ρ F : List Addr} {δ : SlM} {σ : L2.St} {ms : List M} {m : M} (os : OwnS G B H ρ δ σ F) (hj : δ[j]? = some (some (.lst ms))) (hk : ms[k]? = some m) :
    ∃ x F1 Fr, Own G B H ρ m x F1 ∧ F.Perm (F1 ++ Fr) ∧ (∃ p0 xs, σ[j]? = some (some (.ref p0)) ∧ H p0 = some (.lst xs) ∧ xs[k]? = some x) ∧ ∀ (m' : M) (F1' : List Addr), Own G B H ρ m' x F1' → ∃ F' Fd, (F1' ++ Fr).Perm (Fd ++ F') ∧ OwnS G B H ρ (δ.set j (some (.lst (ms.set k m')))) σ F' := by
  obtain ⟨v, Fi, Fr, pf, h1, ⟨p0, xs, F0, rfl, hp0, rfl, ow⟩, h3⟩ := OwnS.take os hj
  obtain ⟨x, F1, Fr1, g1, g2, g3, g4⟩ := Owns.split ow hk
  have hlt : j < δ.length := (List.getElem?_eq_some_iff.mp hj).1
  refine ⟨x, F1, p0 :: (Fr1 ++ Fr), g2, ?_, ⟨p0, xs, h1, hp0, g1⟩, fun m' F1' o => ?_⟩
  · refine List.perm_iff_count.mpr fun q => ?_
    have e1 := List.perm_iff_count.mp pf q
    have e2 := List.perm_iff_count.mp g3 q
    simp only [List.count_append, List.count_cons] at *
    omega
  · obtain ⟨F2, p2, o2⟩ := g4 B H m' F1' (Same.refl _) (fun _ _ => rfl) o
    obtain ⟨Fi', Fr', F3, y1, y2, y3⟩ := OwnS.set (i := j) (m := .lst (ms.set k m')) (v := .ref p0) (Fm := p0 :: F2) ⟨p0, xs, F2, rfl, hp0, rfl, o2⟩ h3 (by rw [List.length_set]; exact hlt)
    rw [List.set_set] at y3
    have es : σ.set j (some (.ref p0)) = σ := by
      obtain ⟨hlt, e⟩ := List.getElem?_eq_some_iff.mp h1
      rw [← e]
      exact List.set_getElem_self hlt
    rw [es] at y3
    refine ⟨F3, Fi', ?_, y3⟩
    refine List.perm_iff_count.mpr fun q => ?_
    have e1 := List.perm_iff_count.mp p2 q
    have e2 := List.perm_iff_count.mp y1 q
    have e3 := List.perm_iff_count.mp y2 q
    simp only [List.count_append, List.count_cons] at *
    omega
theorem Wd.swap {B H : Hp} {ρ R F Fd F' F0 : List Addr} {a : Sto} (w : Wd G B H ρ a (F ++ R)) (h : F.Perm (F0 ++ (Fd ++ F'))) : Wd G B H ρ a (F0 ++ (F' ++ R)) := by
  have z : Wd G B H ρ a (Fd ++ (F0 ++ (F' ++ R))) := w.perm (by
    refine List.perm_iff_count.mpr fun q => ?_
    have e1 := List.perm_iff_count.mp h q
    simp only [List.count_append] at *
    omega)
  exact z.drop
theorem SOk.with (s : SOk G W t f) : SOk G W t (sWith j k f) := fun ρ R B H σ δ a F Z w os q => by
  unfold sWith at q
  cases c1 : δ[j]? with
  | none =>
    rw [c1] at q
    exact q.elim
  | some o1 =>
    rw [c1] at q
    rcases o1 with _ | (_ | ms | _ | _ | _)
    · exact q.elim
    · exact q.elim
    · dsimp only at q
      cases c2 : ms[k]? with
      | none =>
        rw [c2] at q
        exact q.elim
      | some m =>
        rw [c2] at q
        rcases m with _ | is | _ | _ | _
        · exact q.elim
        · dsimp only at q
          cases c3 : intsM is with
          | none =>
            rw [c3] at q
            exact q.elim
          | some l =>
            rw [c3] at q
            dsimp only at q
            obtain ⟨x, F1, Fr, ⟨p, ys, F0, rfl, hp, rfl, ow⟩, pf, ⟨p0, xs, k1, k2, k3⟩, _⟩ := OwnS.elem os c1 c2
            obtain ⟨rfl, rfl⟩ := intsM_own c3 ow
            have w1 : Wd G B H ρ a (p :: (Fr ++ R)) := w.perm (by
              refine List.perm_iff_count.mpr fun q => ?_
              have e1 := List.perm_iff_count.mp pf q
              simp only [List.count_append, List.count_cons, List.count_nil] at *
              omega)
            have more : ∀ (n : Nat) (q : Addr), ρ[n]? = some q → (ρ ++ [p])[n]? = some q := fun n q e => by
              rw [List.getElem?_append_left (List.getElem?_eq_some_iff.mp e).1]
              exact e
            have hloc : (ρ ++ [p])[a.length]? = some p := by
              rw [← w.len, List.getElem?_append_right (Nat.le_refl _), Nat.sub_self]
              rfl
            obtain ⟨x', F1', Fr', ow', pf', ⟨p0', xs', k1', k2', k3'⟩, re⟩ := OwnS.elem (OwnS.more more δ σ F os) c1 c2
            have ex : x' = .ref p := by
              rw [k1] at k1'
              cases k1'
              rw [k2] at k2'
              cases k2'
              rw [k3] at k3'
              cases k3'
              rfl
            subst ex
            obtain ⟨p', ys', F0', e1, hp', rfl, ow'⟩ := ow'
            cases e1
            obtain ⟨_, rfl⟩ := intsM_own c3 ow'
            obtain ⟨F2, Fd, pd, os2⟩ := re (.val (.loc a.length)) [] ⟨rfl, p, hloc, rfl⟩
            have pfr : Fr.Perm Fr' := by
              refine List.perm_iff_count.mpr fun q => ?_
              have e1 := List.perm_iff_count.mp pf q
              have e2 := List.perm_iff_count.mp pf' q
              simp only [List.count_append, List.count_cons, List.count_nil] at *
              omega
            have w2 := (Wd.swap (F0 := [p]) (Fd := Fd) (F' := F2) (R := R) (F := p :: Fr) w1 (List.Perm.cons p (pfr.trans pd))).pushN hp
            refine s (ρ ++ [p]) R B H σ _ _ F2 Z w2 os2 ?_
            cases co : f (δ.set j (some (.lst (ms.set k (.val (.loc a.length)))))) (a ++ [.nums l]) with
            | nx δ2 a2 =>
              rw [co] at q
              intro B' H' σ' F' w' sm kp os'
              unfold shOut at q
              dsimp only at q
              cases d1 : popN a.length a2 with
              | none =>
                rw [d1] at q
                exact q.elim
              | some z =>
                obtain ⟨a3, l'⟩ := z
                rw [d1] at q
                dsimp only at q
                cases d2 : (clS a.length δ2)[j]? with
                | none =>
                  rw [d2] at q
                  exact q.elim
                | some o2 =>
                  rw [d2] at q
                  rcases o2 with _ | (_ | ms2 | _ | _ | _)
                  · exact q.elim
                  · exact q.elim
                  · dsimp only at q
                    cases d3 : ms2[k]? with
                    | none =>
                      rw [d3] at q
                      exact q.elim
                    | some m2 =>
                      rw [d3] at q
                      rcases m2 with d | _ | _ | _ | _
                      · cases d with
                        | loc m =>
                          dsimp only at q
                          by_cases hc : m = a.length ∧ noLocS a.length ((clS a.length δ2).set j (some (.lst (ms2.set k (.lst ((l'.map D.int).map M.val)))))) = true
                          · rw [if_pos hc] at q
                            obtain ⟨rfl, hn⟩ := hc
                            obtain ⟨y, G1, Gr, ⟨rfl, p2, hp2, rfl⟩, pg, _, re2⟩ := OwnS.elem (OwnS.clean a.length δ2 σ' F' os') d2 d3
                            rw [hloc] at hp2
                            cases hp2
                            rw [← w.len] at d1
                            obtain ⟨w3, hp3⟩ := Wd.popN w' d1
                            obtain ⟨F3, Fd3, pd3, os3⟩ := re2 (.lst ((l'.map D.int).map M.val)) [p] ⟨p, l'.map V.int, [], rfl, hp3, rfl, Owns.vals (Reps.ints.mpr rfl)⟩
                            refine q B' H' σ' F3 (Wd.swap (F0 := []) (Fd := Fd3) (F := p :: F') w3 (by
                              refine List.perm_iff_count.mpr fun q => ?_
                              have e1 := List.perm_iff_count.mp pd3 q
                              have e2 := List.perm_iff_count.mp pg q
                              simp only [List.count_append, List.count_cons, List.count_nil] at *
                              omega)) sm kp (OwnS.less _ _ _ (by rw [w.len]; exact hn) os3)
                          · rw [if_neg hc] at q
                            exact q.elim
                        | _ => exact q.elim
                      · exact q.elim
                      · exact q.elim
                      · exact q.elim
                      · exact q.elim
                  · exact q.elim
                  · exact q.elim
                  · exact q.elim
            | rt m a2 =>
              rw [co] at q
              exact q.elim
            | bk δ2 a2 =>
              rw [co] at q
              exact q.elim
            | ct δ2 a2 =>
              rw [co] at q
              exact q.elim
            | exc cc ns es δ2 a2 =>
              rw [co] at q
              exact q.elim
            | stuck =>
              rw [co] at q
              exact q.elim
        · exact q.elim
        · exact q.elim
        · exact q.elim
    · exact q.elim
    · exact q.elim
    · exact q.elim
end
end DL
namespace DL
open PySem PySem.Spec PyProof.Rows L2
section
variable {X : Cx} {G : Gx} {W : WX}
variable {k : Nat} {T : List (Nat × FM)} {e1 e2 : Expr} {pos : Pos} {fa fb : EV}
end
end DL
namespace DL
open PySem PySem.Spec PyProof.Rows L2
theorem tab_list {K : PySem.W.Frag} {G : Gx} : IsTab K G (.type "list") (tabT [.lst]) := ⟨fun t b h => by cases t <;> first | (cases h; done) | (cases h; rfl), (fun c b h => nomatch h), (fun c b h => nomatch h)⟩
section
variable {X : Cx} {G : Gx} {W : WX} {e : Expr}
def gAdd (i j : Int) : Option D := some (.int (i + j))
theorem o_addI : Op2 G (rI0 fun i j => .int (i + j)) (dI DL.gAdd) := op_I0 fun i j d e B ρ => some_rep e rfl
theorem vok_var {i : Nat} : VOk G W (tVar i) (eVar i) := fun ρ R B H σ δ a Q w sl q => by
  unfold eVar at q
  cases c : δ[i]? with
  | none =>
    rw [c] at q
    exact q.elim
  | some o =>
    rw [c] at q
    cases o with
    | none => exact q.elim
    | some d =>
      obtain ⟨v, h1, h2⟩ := sl.2 i d c
      exact ⟨v, h1, q.here w v h2⟩
theorem ds_aug {i : Nat} {x : Str} {op : Operator} {r : R2} {g : D → D → Option D} {f : EV} {p' pos : Pos} (I : List Nat) (ho : OpR X (inplaceOp op) r) (o : Op2 G r g) (hN : X.N.Nodup) (hi : X.N[i]? = some x) (hx : Loc X.env.scope x) (h : DV X G W e f) (hf : X.fn x = true ∨ X.env.scope.names.lookup x = some .local := by first | exact .inl rfl | exact .inr rfl | assumption) :
    DS X G W (.AugAssign (.Name x p') op e pos) (sSet i I (mV (ev2 g (eVar i) f))) := by
  obtain ⟨t, p, s⟩ := h.ex
  have k : SOk G W (tAsg (tOp r (tVar i) t) (gName i)) (sSet i I (mV (ev2 g (eVar i) f))) := SOk.set (mok_v (VOk.op o vok_var s))
  exact ⟨tAug i t r, ps_aug hN hi hx p (fun pins s σ H x y v u Q I r1 r2 h => ho pins s σ H x y v u Q I r1 r2 h) hf, k⟩
end
end DL
namespace DL
open PySem PySem.Spec PyProof.Rows L2
open PySem.AutoSeq1 (wpAny_loadPart')
section
variable {prog : Program} {w : World}
def EqJ (prog : Program) (w : World) (J : Shared → Prop) (A : Around) (y x : Value) (b : Bool) : Prop :=
  ∀ (s : Shared) (E : Value → Shared → Prop) (Q : Bool → Shared → Prop), J s → (∀ s', J s' → Q b s') → wpAny (model prog w) A (eqBool y x) Q E s
def EqW (prog : Program) (w : World) (J : Shared → Prop) (A : Around) (y x : V) (b : Bool) : Prop := ∀ u v, RelV y u → RelV x v → EqJ prog w J A u v b
inductive PJ (prog : Program) (w : World) (J : Shared → Prop) (A : Around) : List (V × V) → Bool → Prop where
  | nil : PJ prog w J A [] true
  | same {y x : V} {l : List (V × V)} {r : Bool} (h : EqW prog w J A y x true) (t : PJ prog w J A l r) : PJ prog w J A ((y, x) :: l) r
  | diff {y x : V} {l : List (V × V)} (h : EqW prog w J A y x false) : PJ prog w J A ((y, x) :: l) false
def PV : List (V × V) → List (Value × Value) → Prop
  | [], r => r = []
  | p :: l, r => ∃ u v t, r = (u, v) :: t ∧ RelV p.1 u ∧ RelV p.2 v ∧ PV l t
theorem PV.zip : ∀ {xs ys : List V} {us vs : List Value}, Vals xs us → Vals ys vs → PV (xs.zip ys) (us.zip vs)
  | _, _, _, _, .nil, _ => rfl
  | _, _, _, _, .cons _ _, .nil => rfl
  | _, _, _, _, .cons r1 t1, .cons r2 t2 => ⟨_, _, _, rfl, r1, r2, PV.zip t1 t2⟩
end
end DL
namespace DL
open PySem PySem.Spec PyProof.Rows L2
mutual
/-- plain data -/
def pl : D → Bool
  | .tup l => pls l
  | .lst l => pls l
  | .obj _ ns l => decide (ns.length = l.length) && pls l
  | .exc _ _ _ => false
  | .loc _ => false
  | .scr _ => false
  | _ => true
def pls : List D → Bool
  | [] => true
  | d :: ds => pl d && pls ds
end
mutual
/-- the same but for the numbers of classes -/
def simD : D → D → Bool
  | .non, .non => true
  | .bl a, .bl b => a == b
  | .int i, .int j => i == j
  | .str x, .str y => x == y
  | .tup l, .tup m => simDs l m
  | .lst l, .lst m => simDs l m
  | .obj _ ns l, .obj _ ns' m => (ns == ns') && simDs l m
  | _, _ => false
def simDs : List D → List D → Bool
  | [], [] => true
  | d :: ds, e :: es => simD d e && simDs ds es
  | _, _ => false
end
section
variable {X : Cx} {G : Gx} {B H : Hp} {ρ : List Addr} {pins : List (Addr × Obj)} {σ : L2.St} {s : Shared}
end
end DL
namespace DL
open PySem PySem.Spec PyProof.Rows L2
def eqZ (f : D → D → Option Bool) : List D → List D → Option Bool
  | x :: xs, y :: ys => (match f x y with
    | some true => eqZ f xs ys
    | some false => some false
    | none => none)
  | _, _ => some true
def chk (d e : D) (b : Bool) : Option Bool := if (pl d && pl e && (b || !simD d e)) = true then some b else none
open Classical in
noncomputable def eqR (o : Out M) (a : Sto) : Option Bool := match o with
  | .ok (.val (.bl b)) a' => if a' = a then some b else none
  | _ => none
noncomputable def eqO (T : List (Nat × FM)) (a : Sto) : Nat → D → D → Option Bool
  | 0, d, e => scE d e
  | n + 1, d, e => match d, e with
    | .obj c ns ds, e => (match T.lookup c with
      | some f => if isO c e = true then (eqR (f [.obj c ns ds, e] a) a).bind (chk (.obj c ns ds) e) else none
      | none => none)
    | .tup xs, .tup ys => ((eqZ (eqO T a n) xs ys).map fun r => r && xs.length == ys.length).bind (chk (.tup xs) (.tup ys))
    | .lst xs, .lst ys => ((if xs.length = ys.length then eqZ (eqO T a n) xs ys else some false).map fun r => r && xs.length == ys.length).bind (chk (.lst xs) (.lst ys))
    | d, e => scE d e
section
variable {X : Cx} {G : Gx} {T : List (Nat × FM)} {k : Nat} {B H : Hp} {ρ R : List Addr} {a : Sto} {pins : List (Addr × Obj)} {σ : L2.St}
end
end DL
namespace DL
open PySem PySem.Spec PyProof.Rows L2
section
variable {X : Cx} {G : Gx} {W : WX} {T : List (Nat × FM)} {k : Nat} {e1 e2 : Expr} {pos : Pos} {fa fb : EV}
theorem eqO_sc {a : Sto} {d e : D} {b : Bool} (n : Nat) (h : scE d e = some b) : eqO T a n d e = some b := by
  cases n with
  | zero => exact h
  | succ n => cases d <;> cases e <;> first | exact h | cases h
end
end DL
namespace DL
open PySem PySem.Spec PyProof.Rows L2
section
variable {X : Cx} {G : Gx} {W : WX}
end
structure StaD (P : Program) (w : World) (K : PySem.W.Frag) (mg : Str → Option Value) (base : Heap) (G : Gx) (x : Str) (c : Nat) (m : Str) (k : Nat) (g : FM) : Prop where
  ex : ∃ (f p : Addr) (mc : Value), FnR P w K mg base (L2.CX P w) k f (spA G g) ∧ mg x = some (.ref (G.T c)) ∧ PySem.W.readsIn K (G.T c) mc = true ∧ PySem.W.specialIn K (.ref (G.T c)) "__getattribute__" = some (some (.builtin "type.__getattribute__")) ∧
    PySem.W.findCls K (.ref (G.T c)) mc m = some (.get (.builtin "staticmethod.__get__") (.ref p) .none (.ref (G.T c))) ∧ (∃ rest, PySem.W.recIn K p "staticmethod" = some (.ref f :: rest)) ∧ PySem.W.keepIn K (.ref f) = true
def callS (g : FM) (fa : EA) : EM := fun δ a => (fa δ a).bind g
def tSta (C : Addr) (sp : Sp) (E : L2.St → XK) (ta : TE) (t : TA) : TE := fun σ H Q => ta σ H fun x H1 => x = .ref C ∧ t σ H1 fun vs H2 => sp vs H2 Q (E σ)
section
variable {X : Cx} {G : Gx} {W : WX} {c k : Nat} {m x : Str} {g : FM} {e : Expr} {es : List Expr} {apos p pos : Pos} {fa : EA} {pl : Sem Bool}
theorem MOk.callS {t : TA} (s : AOk G W t fa) : MOk G W (tSta (G.T c) (spA G g) (WE W) (tC (.ref (G.T c))) t) (DL.callS g fa) := fun ρ R B H σ δ a Q w sl q =>
  ⟨rfl, s ρ R B H σ δ a _ w sl (Fin.imp (Fin.seqM q) fun ds a1 B1 H1 w1 s1 k1 q1 vs r => ⟨ρ, R, B1, ds, a1, w1, r, FinM.wx q1 fun c d H z => z⟩)⟩
end
theorem rel_at {env : Env} {x : Str} : ∀ {l : List (Str × NameKind)}, (l.lookup x = some .cell ∨ l.lookup x = some .free) →
    ((l.map fun (n, k) => if (k == NameKind.free && env.scope.kind == .function && env.kindOf n == some .cell) then (n, NameKind.cell) else (n, k)).lookup x = some .cell ∨ (l.map fun (n, k) => if (k == NameKind.free && env.scope.kind == .function && env.kindOf n == some .cell) then (n, NameKind.cell) else (n, k)).lookup x = some .free)
  | [], h => by rcases h with h | h <;> cases h
  | (n, k0) :: r, h => by
    rw [List.lookup_cons] at h
    rw [List.map_cons]
    cases c : x == n with
    | true =>
      rw [c] at h
      dsimp only at h ⊢
      split
      · exact .inl (by rw [List.lookup_cons, c])
      · rcases h with h | h
        · cases h
          exact .inl (by rw [List.lookup_cons, c])
        · cases h
          exact .inr (by rw [List.lookup_cons, c])
    | false =>
      rw [c] at h
      have ih := rel_at (env := env) h
      dsimp only
      split
      · rw [List.lookup_cons, c]
        exact ih
      · rw [List.lookup_cons, c]
        exact ih
theorem blk_in {X : Cx} {s : Shared} {H : Hp} {sc scope : Scope} {cl : List (Str × Addr)} {C : Addr} {fp : List Addr} {N : List Str} {own : List (Str × Nat)} (h : BlkOk N sc scope own) : BlkOk N ((X.blk s H sc (compEnvC sc cl C X.env) fp).env.scope) scope own :=
  ⟨h.kind, h.uniq, h.ix, fun y hy e => rel_at (env := X.env) (h.free y hy e), h.own⟩
section
variable {P : Program} {w : World} {K : PySem.W.Frag} {mg : Str → Option Value} {base : Heap} {G : Gx} {k j : Nat} {p : Nat × FM}
end
end DL
namespace DL
open PySem PySem.Spec PyProof.Rows L2
def sSetF (i : Nat) (I : List Nat) (f : EM) : SM := fun δ a => (lift I f δ a).seq fun m δ' a' => put i (.val (freeze m)) δ' a'
section
variable {X : Cx} {G : Gx} {W : WX}
theorem SOk.setF {t : TE} {f : EM} {i : Nat} {I : List Nat} (h : MOk G W t f) : SOk G W (tAsg t (gName i)) (sSetF i I f) := fun ρ R B H σ δ a F D w os q =>
  lift_ok h w os (Ox.fin q fun m δ' a' B' H' v F' F1 w' om os' q' =>
    put_ok (m := .val (freeze m)) (F' := []) w'.absorb ⟨rfl, Own.froze w'.sameOv m v F' (fun p hp => ov_in hp) om⟩ (OwnS.mono w'.sameOv _ _ _ (fun _ _ => rfl) os') (FinS.base q' w'.sameOv Kp.refl))
theorem ds_setF {i : Nat} {x : Str} {e : Expr} {f : EM} {pos pos' : Pos} (I : List Nat) (hN : X.N.Nodup) (hi : X.N[i]? = some x) (hx : Loc X.env.scope x) (h : DM X G W e f) (hs : swapsWith e (some (.Name x pos')) pos.line X.env = pure false := by rfl) (hf : X.fn x = true ∨ X.env.scope.names.lookup x = some .local := by first | exact .inl rfl | exact .inr rfl | assumption) :
    DS X G W (.Assign [.Name x pos'] e pos) (sSetF i I f) := by
  obtain ⟨t, p, s⟩ := h.ex
  exact ⟨_, ps_set hN hi hx p hs hf, SOk.setF s⟩
end
section
variable {X : Cx} {G : Gx} {W : WX}
theorem ds_setLcF {i : Nat} {y : Str} {py : Pos} {elt tg iter : Expr} {ifs : List Expr} {scope : Scope} {own : List (Str × Nat)} {pos spos : Pos} {it : EI} {fr : Bool} {gt : D → Sw → Option Sw} {ft : ET} {fe : EM} (I : List Nat) (hc : X.calm = true) (hN : X.N.Nodup) (hy : X.N[i]? = some y) (hyl : X.env.scope.names.lookup y = some .local)
    (hsw : swapsWith (.ListComp elt [⟨tg, iter, ifs, 0⟩] scope pos) (some (.Name y py)) spos.line X.env = pure true) (hi : DI X G W tg iter fr it) (ok : BlkOk X.N X.env.scope scope own)
    (hg : ∀ (s : Shared) (H : Hp) (C : Addr) (cl : List (Str × Addr)) (fp : List Addr), DGx (X.blk s H scope (compEnvC scope cl C X.env) fp) G (own.map (·.2)) tg gt)
    (ht : ∀ (s : Shared) (H : Hp) (C : Addr) (cl : List (Str × Addr)) (fp : List Addr), DPs (X.blk s H scope (compEnvC scope cl C X.env) fp) G W0 ifs ft)
    (he : ∀ (s : Shared) (H : Hp) (C : Addr) (cl : List (Str × Addr)) (fp : List Addr), DM (X.blk s H scope (compEnvC scope cl C X.env) fp) G W0 elt fe) (hs : ∀ x, foldedSetIterable iter X.env x = pure x := by intro _; rfl) :
    DS X G W (.Assign [.Name y py] (.ListComp elt [⟨tg, iter, ifs, 0⟩] scope pos) spos) (sSetF i I (lcM (own.map (·.2)) it gt ft fe)) := by
  obtain ⟨wi, pi, si⟩ := hi.ex
  exact ⟨_, ps_setLc hc hN hy hyl hsw pi ok (fun s H C cl fp => can_g (hg s H C cl fp)) (fun s H C cl fp => can_t (ht s H C cl fp)) (fun s H C cl fp => can_m (he s H C cl fp)) hs, SOk.setF (MOk.lc si)⟩
end
end DL
namespace DL
open PySem PySem.Spec PyProof.Rows L2
section
variable {prog : Program} {w : World} {A : Around} {E : Value → Shared → Prop} {s : Shared} {x C dx : Addr}
end
structure BinR (P : Program) (w : World) (K : PySem.W.Frag) (mg : Str → Option Value) (base : Heap) (G : Gx) (k : Nat) (p : Nat × FM) : Prop where
  ex : ∃ (f f' : Addr) (fd : FuncData) (ps : List Str), FnOk P w K mg base (L2.CX P w) k f fd ps (spD G p.2 2) ∧ PySem.W.findIn K (.ref (G.T p.1)) (PySem.dunder "add") = some (some (.ref f')) ∧ PySem.W.findIn K (.ref (G.T p.1)) (PySem.dunderR "add") = some (some (.ref f)) ∧ PySem.W.isFn K (.ref f) = true ∧ Binds K fd ps []
  first : PySem.W.selfFirst K (G.T p.1) = true
  sub : PySem.W.subIn K (.ref (G.T p.1)) (.type "int") = some false
section
variable {X : Cx} {G : Gx} {W : WX} {k : Nat} {T : List (Nat × FM)}
end
end DL
namespace DL
open PySem L2
structure GTup (K : PySem.W.Frag) (p : Addr) (ns : List Int) : Prop where
  ex : ∃ (o : Obj) (its : Array Value) (n : Nat), K.lookup p = some o ∧ o.cls = .type "tuple" ∧ o.data = .seq its n ∧ its.size ≤ sizeLine ∧ Vals (ns.map V.int) its.toList
end DL
namespace DL
open PySem PySem.Spec PyProof.Rows L2
structure PrpD (P : Program) (w : World) (K : PySem.W.Frag) (mg : Str → Option Value) (base : Heap) (G : Gx) (x : Str) (k : Nat) (p : Nat × FM) : Prop where
  ex : ∃ (f pa : Addr) (fd : FuncData) (ps : List Str), FnOk P w K mg base (L2.CX P w) k f fd ps (spD G p.2 1) ∧ L2.PropOf K (G.T p.1) x pa f ∧ Cls K (G.T p.1) ∧ Binds K fd ps []
section
variable {X : Cx} {G : Gx} {W : WX} {k c : Nat} {g : FM} {fe : EV} {e : Expr} {f : Str} {pos : Pos}
end
end DL
namespace DL
open PySem PySem.Spec PyProof.Rows L2
section
variable {X : Cx} {G : Gx} {W : WX} {e e1 e2 : Expr} {es : List Expr} {fa fb : EV} {ga : EA} {p pos : Pos} {k : Nat}
end
end DL
namespace DL
open PySem PySem.Spec PyProof.Rows L2
section
variable {X : Cx} {G : Gx} {W : WX} {tg e : Expr}
end
end DL
namespace DL
open PySem PySem.Spec PyProof.Rows L2
section
variable (G : Gx) (W : WX)
end
section
variable {X : Cx} {G : Gx} {W : WX}
end
end DL
namespace DL
open PySem PySem.Spec PyProof.Rows L2
def argJ : Nat → List D → Option SlM
  | 0, .lst l :: r => some (some (.lst (l.map M.val)) :: r.map fun d => some (.val d))
  | j + 1, d :: r => (argJ j r).map fun δ => some (.val d) :: δ
  | _, _ => none
def spJ (G : Gx) (g : FM) (n j : Nat) : Sp := fun vs H Q E => vs.length = n ∧ ∃ (ρ R : List Addr) (B : Hp) (F : List Addr) (ds : List D) (δ0 : SlM) (a : Sto), Wd G B H ρ a (F ++ R) ∧ argJ j ds = some δ0 ∧ OwnS G B H ρ δ0 (vs.map some) F ∧ FinM G (fun cls d _ H => E cls d H) ρ R B H [] (g ds a) (fun _ _ _ H' v _ => Q v H')
section
variable {G : Gx} {B H : Hp} {ρ : List Addr}
theorem OwnS.longer (k : Nat) : ∀ {δ : SlM} {σ : L2.St} {F : List Addr}, OwnS G B H ρ δ σ F → OwnS G B H ρ (δ ++ List.replicate k none) (σ ++ List.replicate k none) F
  | [], σ, F, h => by
    obtain ⟨rfl, rfl⟩ := h
    exact OwnS.nones k
  | none :: δ, σ, F, h => by
    obtain ⟨o, r, rfl, h2⟩ := h
    exact ⟨o, r ++ List.replicate k none, rfl, OwnS.longer k h2⟩
  | some m :: δ, σ, F, h => by
    obtain ⟨v, r, F1, F2, rfl, rfl, h1, h2⟩ := h
    exact ⟨v, r ++ List.replicate k none, F1, F2, rfl, rfl, h1, OwnS.longer k h2⟩
theorem OwnS.size : ∀ {δ : SlM} {σ : L2.St} {F : List Addr}, OwnS G B H ρ δ σ F → δ.length = σ.length
  | [], σ, F, h => by
    obtain ⟨rfl, rfl⟩ := h
    rfl
  | none :: δ, σ, F, h => by
    obtain ⟨o, r, rfl, h2⟩ := h
    rw [List.length_cons, List.length_cons, OwnS.size h2]
  | some m :: δ, σ, F, h => by
    obtain ⟨v, r, F1, F2, rfl, rfl, h1, h2⟩ := h
    rw [List.length_cons, List.length_cons, OwnS.size h2]
theorem OwnS.sls : ∀ {δ : SlM} {σ : L2.St} {F : List Addr} (n : Nat), OwnS G B H ρ δ σ F → Sls G B ρ (see [] n δ) σ
  | [], σ, F, n, h => by
    obtain ⟨rfl, rfl⟩ := h
    exact ⟨rfl, fun i d e => by simp [see] at e⟩
  | none :: δ, σ, F, n, h => by
    obtain ⟨o, r, rfl, h2⟩ := h
    exact Sls.cons (OwnS.sls (n + 1) h2) fun d e => by cases e
  | some m :: δ, σ, F, n, h => by
    obtain ⟨v, r, F1, F2, rfl, rfl, h1, h2⟩ := h
    have ih := OwnS.sls (n + 1) h2
    cases m with
    | val d =>
      refine Sls.cons ih fun d' e => ?_
      cases e
      exact ⟨v, rfl, h1.2⟩
    | lst _ => exact Sls.cons ih fun d' e => by simp at e
    | tup _ => exact Sls.cons ih fun d' e => by simp at e
    | obj _ _ _ => exact Sls.cons ih fun d' e => by simp at e
    | pin k m0 =>
      cases m0 with
      | val d =>
        refine Sls.cons ih fun d' e => ?_
        cases e
        exact ⟨v, rfl, h1.2.2⟩
      | _ => exact Sls.cons ih fun d' e => by simp at e
end
structure DefGv (P : Program) (w : World) (K : PySem.W.Frag) (mg : Str → Option Value) (base : Heap) (G : Gx) (x : Str) (k n j : Nat) (g : FM) : Prop where
  ex : ∃ (f : Addr) (fd : FuncData) (ps : List Str), ps.length = n ∧ FnOk P w K mg base (L2.CX P w) k f fd ps (spJ G g n j) ∧ mg x = some (.ref f) ∧ PySem.W.keepIn K (.ref f) = true ∧ Binds K fd ps []
abbrev EGv := SlM → Sto → Out (List D)
def FinGv (G : Gx) (W : WX) (ρ R : List Addr) (B H : Hp) (σ : L2.St) (δ : SlM) (j i : Nat) (o : Out (List D)) (Q : List V → Hp → Prop) : Prop := match o with
  | .ok ds a => ∀ B' H' vs Fm Fr δ0, Wd G B' H' ρ a (Fm ++ (Fr ++ R)) → Same B B' → Kp R H H' → argJ j ds = some δ0 → OwnS G B' H' ρ δ0 (vs.map some) Fm → OwnS G B' H' ρ (δ.set i none) σ Fr → Q vs H'
  | .exc c ns ds a => ∀ B' H' dd, Wd G B' H' ρ a R → Same B B' → Kp R H H' → XdO G B' ρ ns ds dd → W (.ref (G.T c)) dd σ H'
  | .stuck => False
def GvOk (G : Gx) (W : WX) (t : TA) (j i : Nat) (f : EGv) : Prop := ∀ (ρ R : List Addr) (B H : Hp) (σ : L2.St) (δ : SlM) (a : Sto) (F : List Addr) (Q : List V → Hp → Prop), Wd G B H ρ a (F ++ R) → OwnS G B H ρ δ σ F → FinGv G W ρ R B H σ δ j i (f δ a) Q → t σ H Q
structure DGv (X : Cx) (G : Gx) (W : WX) (es : List Expr) (j i : Nat) (f : EGv) : Prop where
  ex : ∃ t, PA X es t ∧ GvOk G W t j i f
def gvCons (f : EV) (g : EGv) : EGv := fun δ a => match f (see [] 0 δ) a with
  | .ok d a1 => (g δ a1).map fun ds => d :: ds
  | _ => .stuck
def gvHere (i : Nat) (f : EA) : EGv := fun δ a => match δ[i]? with
  | some (some (.lst ms)) => (match f (see [] 0 (δ.set i none)) a with
    | .ok ds a1 => .ok (.lst (ms.map freeze) :: ds) a1
    | _ => .stuck)
  | _ => .stuck
section
variable {X : Cx} {G : Gx} {W : WX}
theorem OwnS.vals {B H : Hp} {ρ : List Addr} : ∀ {ds : List D} {vs : List V}, Reps G B ρ ds vs → OwnS G B H ρ (ds.map fun d => some (.val d)) (vs.map some) []
  | [], vs, r => by
    have e : vs = [] := r
    rw [e]
    exact ⟨rfl, rfl⟩
  | d :: ds, vs, r => by
    obtain ⟨x, t, rfl, h1, h2⟩ := r
    exact ⟨x, t.map some, [], [], rfl, rfl, ⟨rfl, h1⟩, OwnS.vals h2⟩
theorem GvOk.cons {te : TE} {t : TA} {j i : Nat} {f : EV} {g : EGv} (sv : VOk G W te f) (sj : GvOk G W t j i g) : GvOk G W (tCons te t) (j + 1) i (gvCons f g) := fun ρ R B H σ δ a F Q w os q =>
  sv ρ (F ++ R) B H σ (see [] 0 δ) a _ w (os.sls 0) (by
    unfold gvCons at q
    cases c : f (see [] 0 δ) a with
    | stuck =>
      rw [c] at q
      exact q.elim
    | exc _ _ _ _ =>
      rw [c] at q
      exact q.elim
    | ok d a1 =>
      rw [c] at q
      dsimp only at q
      intro B1 H1 w1 s1 k1 v r
      have kR : Kp R H H1 := fun p hp => k1 p (List.mem_append_right _ hp)
      refine sj ρ R B1 H1 σ δ a1 F _ w1 (OwnS.mono s1 δ σ F (fun p hp => k1 p (List.mem_append_left _ hp)) os) ?_
      cases c2 : g δ a1 with
      | stuck =>
        rw [c2] at q
        exact q
      | exc c' ns es a2 =>
        rw [c2] at q
        exact fun B' H' dd w' s' k' x => q B' H' dd w' (s1.trans s') (kR.trans k') x
      | ok ds a2 =>
        rw [c2] at q
        intro B' H' vs Fm Fr δ0 w' s' k' e o1 o2
        refine q B' H' (v :: vs) Fm Fr (some (.val d) :: δ0) w' (s1.trans s') (kR.trans k') ?_ ⟨v, vs.map some, [], Fm, rfl, rfl, ⟨rfl, Rep.mono s' d v r⟩, o1⟩ o2
        show (argJ j ds).map _ = _
        rw [e]
        rfl)
theorem GvOk.here {tr : TA} {i : Nat} {f : EA} (s : AOk G W tr f) : GvOk G W (tCons (tVar i) tr) 0 i (gvHere i f) := fun ρ R B H σ δ a F Q w os q => by
  unfold gvHere at q
  cases e : δ[i]? with
  | none =>
    rw [e] at q
    exact q.elim
  | some o =>
    cases o with
    | none =>
      rw [e] at q
      exact q.elim
    | some m =>
      cases m with
      | val _ =>
        rw [e] at q
        exact q.elim
      | tup _ =>
        rw [e] at q
        exact q.elim
      | obj _ _ _ =>
        rw [e] at q
        exact q.elim
      | pin _ _ =>
        rw [e] at q
        exact q.elim
      | lst ms =>
        rw [e] at q
        dsimp only at q
        obtain ⟨v, Fi, Fr, p1, h1, h2, h3⟩ := OwnS.take os e
        have w0 : Wd G B H ρ a ((Fi ++ Fr) ++ R) := w.perm (List.Perm.append_right R p1)
        refine ⟨v, h1, s ρ ((Fi ++ Fr) ++ R) B H σ (see [] 0 (δ.set i none)) a _ w0 (h3.sls 0) ?_⟩
        cases c : f (see [] 0 (δ.set i none)) a with
        | stuck =>
          rw [c] at q
          exact q.elim
        | exc _ _ _ _ =>
          rw [c] at q
          exact q.elim
        | ok ds a1 =>
          rw [c] at q
          intro B1 H1 w1 s1 k1 vs r
          have h2' := Own.mono s1 (.lst ms) v Fi (fun p hp => k1 p (List.mem_append_left _ (List.mem_append_left _ hp))) h2
          obtain ⟨p, xs, F1, rfl, hp, rfl, ho⟩ := h2'
          have pm : (((p :: F1) ++ Fr) ++ R).Perm (F1 ++ ([p] ++ (Fr ++ R))) := by
            have z : (p :: F1).Perm (F1 ++ [p]) := (List.perm_append_comm (l₁ := [p]) (l₂ := F1))
            have z2 := List.Perm.append_right (Fr ++ R) z
            simpa only [List.append_assoc] using z2
          have w2 := (w1.perm pm).absorb
          have so := (w1.perm pm).sameOv
          have rs : Reps G (ov B1 H1 F1) ρ (ms.map freeze) xs := freezes_map ms ▸ Owns.froze so ms xs F1 (fun q hq => ov_in hq) ho
          refine q (ov B1 H1 F1) H1 (.ref p :: vs) [p] Fr _ w2 (s1.trans so) (fun q hq => k1 q (List.mem_append_right _ hq)) rfl ⟨.ref p, vs.map some, [p], [], rfl, rfl, ⟨p, xs, [], rfl, hp, rfl, Owns.vals rs⟩, OwnS.vals (Reps.mono so ds vs r)⟩ (OwnS.mono (s1.trans so) _ _ Fr (fun q hq => k1 q (List.mem_append_left _ (List.mem_append_right _ hq))) h3)
end
end DL
namespace DL
open PySem PySem.Spec PyProof.Rows L2
section
variable {G : Gx} {B H : Hp} {ρ R : List Addr}
end
section
variable {G : Gx} {W : WX} {t : TS} {f : SM} {i : Nat}
theorem set_same {σ : L2.St} {i : Nat} {v : V} (h : σ[i]? = some (some v)) : σ.set i (some v) = σ := by
  obtain ⟨hlt, e⟩ := List.getElem?_eq_some_iff.mp h
  rw [← e]
  exact List.set_getElem_self hlt
variable {X : Cx} {st : Stmt}
end
end DL
namespace DL
open PySem PySem.Spec PyProof.Rows L2
abbrev Gx.w (G : Gx) (P : Nat → V → Prop) : Gx := ⟨G.K, G.T, P⟩
class NoPin (G : Gx) : Prop where
  no : ∀ n v, ¬ G.P n v
section
variable {G : Gx} {P : Nat → V → Prop} {B H : Hp} {ρ R : List Addr}
mutual
theorem Rep.weq : ∀ (d : D) (v : V), Rep (G.w P) B ρ d v ↔ Rep G B ρ d v
  | .non, v => Iff.rfl
  | .bl _, v => Iff.rfl
  | .int _, v => Iff.rfl
  | .str _, v => Iff.rfl
  | .loc _, v => Iff.rfl
  | .scr _, v => Iff.rfl
  | .tup l, v => ⟨fun ⟨p, xs, h1, h2, h3⟩ => ⟨p, xs, h1, h2, (Reps.weq l xs).mp h3⟩, fun ⟨p, xs, h1, h2, h3⟩ => ⟨p, xs, h1, h2, (Reps.weq l xs).mpr h3⟩⟩
  | .lst l, v => ⟨fun ⟨p, xs, h1, h2, h3⟩ => ⟨p, xs, h1, h2, (Reps.weq l xs).mp h3⟩, fun ⟨p, xs, h1, h2, h3⟩ => ⟨p, xs, h1, h2, (Reps.weq l xs).mpr h3⟩⟩
  | .obj c ns l, v => ⟨fun ⟨p, dx, xs, h1, h2, h4, h3⟩ => ⟨p, dx, xs, h1, h2, h4, (Reps.weq l xs).mp h3⟩, fun ⟨p, dx, xs, h1, h2, h4, h3⟩ => ⟨p, dx, xs, h1, h2, h4, (Reps.weq l xs).mpr h3⟩⟩
  | .exc c ns l, v => ⟨fun ⟨p, dd, h1, h2, h3⟩ => ⟨p, dd, h1, h2, h3.imp id fun ⟨d, xs, h4, h5, h6, h7⟩ => ⟨d, xs, h4, h5, h6, (Reps.weq l xs).mp h7⟩⟩, fun ⟨p, dd, h1, h2, h3⟩ => ⟨p, dd, h1, h2, h3.imp id fun ⟨d, xs, h4, h5, h6, h7⟩ => ⟨d, xs, h4, h5, h6, (Reps.weq l xs).mpr h7⟩⟩⟩
theorem Reps.weq : ∀ (ds : List D) (xs : List V), Reps (G.w P) B ρ ds xs ↔ Reps G B ρ ds xs
  | [], xs => Iff.rfl
  | d :: ds, xs => ⟨fun ⟨x, r, h1, h2, h3⟩ => ⟨x, r, h1, (Rep.weq d x).mp h2, (Reps.weq ds r).mp h3⟩, fun ⟨x, r, h1, h2, h3⟩ => ⟨x, r, h1, (Rep.weq d x).mpr h2, (Reps.weq ds r).mpr h3⟩⟩
end
theorem CellAt.weq {p : Addr} (c : Cell) : CellAt (G.w P) B H ρ R p c ↔ CellAt G B H ρ R p c := by
  cases c with
  | nums l => exact Iff.rfl
  | obj c ns ds => exact ⟨fun ⟨dx, xs, h1, h2, h3, h4, h5⟩ => ⟨dx, xs, h1, h2, h3, (Reps.weq ds xs).mp h4, h5⟩, fun ⟨dx, xs, h1, h2, h3, h4, h5⟩ => ⟨dx, xs, h1, h2, h3, (Reps.weq ds xs).mpr h4, h5⟩⟩
  | vals ds => exact ⟨fun ⟨xs, h1, h2⟩ => ⟨xs, h1, (Reps.weq ds xs).mp h2⟩, fun ⟨xs, h1, h2⟩ => ⟨xs, h1, (Reps.weq ds xs).mpr h2⟩⟩
theorem Wd.w {a : Sto} (h : Wd G B H ρ a R) : Wd (G.w P) B H ρ a R := ⟨h.ex, h.len, fun n p c e1 e2 => (CellAt.weq c).mpr (h.sto n p c e1 e2), h.nd, h.bn, h.has⟩
theorem Wd.unw {a : Sto} (h : Wd (G.w P) B H ρ a R) : Wd G B H ρ a R := ⟨h.ex, h.len, fun n p c e1 e2 => (CellAt.weq c).mp (h.sto n p c e1 e2), h.nd, h.bn, h.has⟩
theorem XdO.weq {ns : List Str} {ds : List D} {dd : Option Addr} : XdO (G.w P) B ρ ns ds dd ↔ XdO G B ρ ns ds dd :=
  ⟨fun h => h.imp id fun ⟨d, xs, h4, h5, h6, h7⟩ => ⟨d, xs, h4, h5, h6, (Reps.weq ds xs).mp h7⟩, fun h => h.imp id fun ⟨d, xs, h4, h5, h6, h7⟩ => ⟨d, xs, h4, h5, h6, (Reps.weq ds xs).mpr h7⟩⟩
mutual
theorem Own.w (hP : ∀ n v, G.P n v → P n v) : ∀ (m : M) (v : V) (F : List Addr), Own G B H ρ m v F → Own (G.w P) B H ρ m v F
  | .val d, v, F, h => ⟨h.1, (Rep.weq d v).mpr h.2⟩
  | .lst ms, v, F, h => by
    obtain ⟨p, xs, F', h1, h2, h3, h4⟩ := h
    exact ⟨p, xs, F', h1, h2, h3, Owns.w hP ms xs F' h4⟩
  | .tup ms, v, F, h => by
    obtain ⟨p, xs, F', h1, h2, h3, h4⟩ := h
    exact ⟨p, xs, F', h1, h2, h3, Owns.w hP ms xs F' h4⟩
  | .obj c ns ms, v, F, h => by
    obtain ⟨p, dx, xs, F', h1, h2, h3, h5, h6, h4⟩ := h
    exact ⟨p, dx, xs, F', h1, h2, h3, h5, h6, Owns.w hP ms xs F' h4⟩
  | .pin n m, v, F, h => ⟨hP n v h.1, Own.w hP m v F h.2⟩
theorem Owns.w (hP : ∀ n v, G.P n v → P n v) : ∀ (ms : List M) (xs : List V) (F : List Addr), Owns G B H ρ ms xs F → Owns (G.w P) B H ρ ms xs F
  | [], xs, F, h => h
  | m :: ms, xs, F, h => by
    obtain ⟨x, r, F1, F2, h1, h2, h3, h4⟩ := h
    exact ⟨x, r, F1, F2, h1, h2, Own.w hP m x F1 h3, Owns.w hP ms r F2 h4⟩
end
theorem FinM.w {W : WX} {σ : L2.St} {o : Out M} {k : M → Sto → Hp → Hp → V → List Addr → Prop} (hP : ∀ n v, G.P n v → P n v) (h : FinM (G.w P) W ρ R B H σ o k) : FinM G W ρ R B H σ o k := by
  cases o with
  | ok m a => exact fun B' H' v F w s kp om => h B' H' v F w.w s kp (Own.w hP m v F om)
  | exc c ns ds a => exact fun B' H' dd w s kp x => h B' H' dd w.w s kp (XdO.weq.mpr x)
  | stuck => exact h
mutual
def npM : M → Bool
  | .val _ => true
  | .lst ms => npMs ms
  | .tup ms => npMs ms
  | .obj _ _ ms => npMs ms
  | .pin _ _ => false
def npMs : List M → Bool
  | [] => true
  | m :: ms => npM m && npMs ms
end
mutual
theorem Own.unw : ∀ (m : M) (v : V) (F : List Addr), npM m = true → Own (G.w P) B H ρ m v F → Own G B H ρ m v F
  | .val d, v, F, c, h => ⟨h.1, (Rep.weq d v).mp h.2⟩
  | .lst ms, v, F, c, h => by
    obtain ⟨p, xs, F', h1, h2, h3, h4⟩ := h
    exact ⟨p, xs, F', h1, h2, h3, Owns.unw ms xs F' c h4⟩
  | .tup ms, v, F, c, h => by
    obtain ⟨p, xs, F', h1, h2, h3, h4⟩ := h
    exact ⟨p, xs, F', h1, h2, h3, Owns.unw ms xs F' c h4⟩
  | .obj _ ns ms, v, F, c, h => by
    obtain ⟨p, dx, xs, F', h1, h2, h3, h5, h6, h4⟩ := h
    exact ⟨p, dx, xs, F', h1, h2, h3, h5, h6, Owns.unw ms xs F' c h4⟩
  | .pin n m, v, F, c, h => nomatch c
theorem Owns.unw : ∀ (ms : List M) (xs : List V) (F : List Addr), npMs ms = true → Owns (G.w P) B H ρ ms xs F → Owns G B H ρ ms xs F
  | [], xs, F, c, h => h
  | m :: ms, xs, F, c, h => by
    obtain ⟨x, r, F1, F2, h1, h2, h3, h4⟩ := h
    have c' : (npM m && npMs ms) = true := c
    obtain ⟨c1, c2⟩ := Bool.and_eq_true_iff.mp c'
    exact ⟨x, r, F1, F2, h1, h2, Own.unw m x F1 c1 h3, Owns.unw ms r F2 c2 h4⟩
end
end
def isVal : Option M → Bool
  | some (.val _) => true
  | _ => false
def ln1 (I : List Nat) (k : Kd) (n : Nat) (o : Option M) : Option M → Option M
  | some (.pin j _) => if j = n ∧ (n ∈ I ∨ isVal o = true) then o else none
  | some m => if (!decide (n ∈ I) && (clM k m && npM m)) = true then some m else none
  | none => none
def lnS (I : List Nat) (k : Kd) : Nat → SlM → SlM → Option SlM
  | _, [], [] => some []
  | n, o :: r, o' :: r' => (lnS I k (n + 1) r r').map fun t => ln1 I k n o o' :: t
  | _, _, _ => none
section
variable {G : Gx} [NoPin G] {P : Nat → V → Prop} {B H : Hp} {ρ : List Addr}
end
end DL
namespace DL
open PySem PySem.Spec PyProof.Rows L2
section
variable {G : Gx} {B H B1 H1 : Hp} {ρ R X Fv : List Addr} {k : Kd} {a a1 : Sto}
theorem Wd.give (w : Wd G B H ρ a (Fv ++ X)) (st : ∀ p ∈ Fv, B1 p = H p ∧ H1 p = H p) (kd : KdAt H k Fv) (w1 : Wd G B1 H1 ρ a1 R) (ca : clA k a1 = true) : Wd G (wo B1 Fv) H1 ρ a1 (Fv ++ R) := by
  have there : ∀ p ∈ Fv, (H p).isSome = true := fun p hp => w.has p (List.mem_append_right _ (List.mem_append_left _ hp))
  have vis : ∀ p ∈ Fv, (B1 p).isSome = true := fun p hp => by
    rw [(st p hp).1]
    exact there p hp
  have kd1 : KdAt B1 k Fv := fun p hp => by
    have e := (st p hp).1
    rcases kd p hp with ⟨xs, e', q⟩ | ⟨xs, e', q⟩ | ⟨C, dx, fs, e', q⟩ | ⟨z, e', q⟩
    · exact .inl ⟨xs, e.trans e', q⟩
    · exact .inr (.inl ⟨xs, e.trans e', q⟩)
    · exact .inr (.inr (.inl ⟨C, dx, fs, e.trans e', q⟩))
    · exact .inr (.inr (.inr ⟨z, e.trans e', q⟩))
  have no1 : ∀ p ∈ ρ ++ R, p ∉ Fv := fun p hp hv => by
    have h1 := w1.bn p hp
    have h2 := vis p hv
    rw [h1] at h2
    cases h2
  refine ⟨fun p o e => ?_, w1.len, fun n p c e1 e2 => ?_, ?_, fun p hp => ?_, fun p hp => ?_⟩
  · by_cases hp : p ∈ Fv
    · rw [wo_in hp] at e
      cases e
    · rw [wo_out hp] at e
      exact w1.ex p o e
  · have z := w1.sto n p c e1 e2
    cases c with
    | nums l => exact z
    | obj c ns ds =>
      obtain ⟨dx, xs, z1, z2, z3, z4, z5, z6⟩ := z
      have hv : dx ∉ Fv := fun y => by
        have y' := vis dx y
        rw [z6] at y'
        cases y'
      refine ⟨dx, xs, z1, z2, z3, Reps.wo kd1 ds xs (clA_at ca e2) z4, fun y => ?_, by rw [wo_out hv]; exact z6⟩
      rcases List.mem_append.mp y with y | y
      · exact z5 (List.mem_append_left _ y)
      · rcases List.mem_append.mp y with y | y
        · exact hv y
        · exact z5 (List.mem_append_right _ y)
    | vals ds =>
      obtain ⟨xs, z1, z4⟩ := z
      exact ⟨xs, z1, Reps.wo kd1 ds xs (clA_atV ca e2) z4⟩
  · have q : (ρ ++ (Fv ++ R)).Perm (Fv ++ (ρ ++ R)) := by
      have y := List.Perm.append_right R (List.perm_append_comm (l₁ := ρ) (l₂ := Fv))
      simpa only [List.append_assoc] using y
    refine q.nodup_iff.mpr (List.nodup_append.mpr ⟨?_, w1.nd, fun p hp z hz e => ?_⟩)
    · exact (List.nodup_append.mp (List.nodup_append.mp w.nd).2.1).1
    · subst e
      exact no1 p hz hp
  · by_cases hv : p ∈ Fv
    · exact wo_in hv
    · rw [wo_out hv]
      refine w1.bn p ?_
      rcases List.mem_append.mp hp with h | h
      · exact List.mem_append_left _ h
      · exact List.mem_append_right _ ((List.mem_append.mp h).resolve_left hv)
  · by_cases hv : p ∈ Fv
    · rw [(st p hv).2]
      exact there p hv
    · refine w1.has p ?_
      rcases List.mem_append.mp hp with h | h
      · exact List.mem_append_left _ h
      · exact List.mem_append_right _ ((List.mem_append.mp h).resolve_left hv)
end
section
variable {G : Gx} [NoPin G] {W : WX} {X : Cx} {st : Stmt} {f : SM}
end
section
variable {P : Program} {w : World} {K : PySem.W.Frag} {mg : Str → Option Value} {base : Heap} {G : Gx} [NoPin G] {Q : Nat → V → Prop}
theorem np : ∀ n v, G.P n v → Q n v := fun n v h => (NoPin.no n v h).elim
end
end DL
namespace DL
open PySem PySem.Spec PyProof.Rows L2
abbrev XM := SlM → Sto → Ox M
def XOk (G : Gx) (W : WX) (t : TE) (x : XM) : Prop := ∀ (ρ R : List Addr) (B H : Hp) (σ : L2.St) (δ : SlM) (a : Sto) (F : List Addr) (Q : VK), Wd G B H ρ a (F ++ R) → OwnS G B H ρ δ σ F → FinX G W ρ R B H σ (x δ a) (fun _ _ _ _ H' v _ _ => Q v H') → t σ H Q
structure DE (X : Cx) (G : Gx) (W : WX) (e : Expr) (x : XM) : Prop where
  ex : ∃ t, PE X e t ∧ XOk G W t x
abbrev FT := List M → Sto → Out (M × List M)
def FinTo (G : Gx) (W : WX) (ρ R : List Addr) (B H : Hp) (js : List Nat) (vs : List V) (o : Out (M × List M)) (Q : VK) : Prop := match o with
  | .ok (m, ms) a => ∀ B' H' v F1 F2, Wd G B' H' ρ a (F1 ++ (F2 ++ R)) → Same B B' → Kp R H H' → Own G B' H' ρ m v F1 → Owns G B' H' ρ ms (js.map fun j => vs.getD j .non) F2 → Q v H'
  | .exc c ns ds a => ∀ B' H' dd, Wd G B' H' ρ a R → Same B B' → Kp R H H' → XdO G B' ρ ns ds dd → W (.ref (G.T c)) dd [] H'
  | .stuck => False
def spT (G : Gx) (g : FT) (n : Nat) (js : List Nat) : Sp := fun vs H Q E => vs.length = n ∧ ∃ (ρ R : List Addr) (B : Hp) (F : List Addr) (ms : List M) (a : Sto), Wd G B H ρ a (F ++ R) ∧ OwnS G B H ρ (ms.map some) (vs.map some) F ∧ FinTo G (fun cls d _ H => E cls d H) ρ R B H js vs (g ms a) Q
inductive OutT where
  | nx (δ : SlM) (a : Sto)
  | rt (m : M) (δ : SlM) (a : Sto)
  | exc (c : Nat) (ns : List Str) (ds : List D) (a : Sto)
  | stuck
abbrev TM := SlM → Sto → OutT
def FinTT (G : Gx) (W : WX) (ρ R : List Addr) (B H : Hp) (o : OutT) (D : Ends) : Prop := match o with
  | .nx δ a => ∀ B' H' σ' F', Wd G B' H' ρ a (F' ++ R) → Same B B' → Kp R H H' → OwnS G B' H' ρ δ σ' F' → D.nx σ' H'
  | .rt m δ a => ∀ B' H' v σ' F1 F2, Wd G B' H' ρ a (F1 ++ (F2 ++ R)) → Same B B' → Kp R H H' → Own G B' H' ρ m v F1 → OwnS G B' H' ρ δ σ' F2 → D.rt v H'
  | .exc c ns ds a => ∀ B' H' σ' dd, Wd G B' H' ρ a R → Same B B' → Kp R H H' → XdO G B' ρ ns ds dd → W (.ref (G.T c)) dd σ' H'
  | .stuck => False
def SOkT (G : Gx) (W : WX) (t : TS) (g : TM) : Prop := ∀ (ρ R : List Addr) (B H : Hp) (σ : L2.St) (δ : SlM) (a : Sto) (F : List Addr) (D : Ends), Wd G B H ρ a (F ++ R) → OwnS G B H ρ δ σ F → FinTT G W ρ R B H (g δ a) D → t D σ H
structure DSsT (X : Cx) (G : Gx) (W : WX) (st : List Stmt) (g : TM) : Prop where
  ex : ∃ t, PSs X st t ∧ SOkT G W t g
theorem FinTT.base {G : Gx} {W : WX} {ρ R : List Addr} {B B1 H H1 : Hp} {o : OutT} {D : Ends} (h : FinTT G W ρ R B H o D) (s : Same B B1) (kp : Kp R H H1) : FinTT G W ρ R B1 H1 o D := by
  cases o with
  | nx δ a => exact fun B' H' σ' F' w s' k' x => h B' H' σ' F' w (s.trans s') (kp.trans k') x
  | rt m δ a => exact fun B' H' v σ' F1 F2 w s' k' x y => h B' H' v σ' F1 F2 w (s.trans s') (kp.trans k') x y
  | exc c ns ds a => exact fun B' H' σ' dd w s' k' x => h B' H' σ' dd w (s.trans s') (kp.trans k') x
  | stuck => exact h
def seqT (f : SM) (g : TM) : TM := fun δ a => match f δ a with
  | .nx δ' a' => g δ' a'
  | .exc c ns ds _ a' => .exc c ns ds a'
  | _ => .stuck
def retTO (i : Nat) : TM := fun δ a => match δ[i]? with
  | some (some m) => .rt m (δ.set i none) a
  | _ => .stuck
section
variable {X : Cx} {G : Gx} {W : WX}
theorem dsst_cons {st : Stmt} {rest : List Stmt} {f : SM} {g : TM} (h : DS X G W st f) (k : DSsT X G W rest g) : DSsT X G W (st :: rest) (seqT f g) := by
  obtain ⟨t, p, s⟩ := h.ex
  obtain ⟨u, p2, s2⟩ := k.ex
  refine ⟨_, pss_cons p p2, fun ρ R B H σ δ a F D w os q => s ρ R B H σ δ a F _ w os ?_⟩
  unfold seqT at q
  cases c : f δ a with
  | nx δ' a' =>
    rw [c] at q
    exact fun B' H' σ' F' w' sm kp os' => s2 ρ R B' H' σ' δ' a' F' D w' os' (FinTT.base q sm kp)
  | exc cc ns ds δ' a' =>
    rw [c] at q
    exact fun B' H' σ' dd F' w' sm kp x os' => q B' H' σ' dd w'.drop sm kp x
  | rt _ _ =>
    rw [c] at q
    exact q.elim
  | bk _ _ =>
    rw [c] at q
    exact q.elim
  | ct _ _ =>
    rw [c] at q
    exact q.elim
  | stuck =>
    rw [c] at q
    exact q.elim
theorem dsst_retO {i : Nat} {x : Str} {p pos : Pos} (hN : X.N[i]? = some x) (hv : Vis X.env.scope x) (hd : (x == ("__debug__" : Str)) = false := by decide) (hcd : (x == ("__classdict__" : Str)) = false := by decide) : DSsT X G W [.Return (some (.Name x p)) pos] (retTO i) := by
  refine ⟨_, pss_one (ps_ret (pe_var hN hv hd hcd)), fun ρ R B H σ δ a F D w os q => ?_⟩
  unfold retTO at q
  cases e : δ[i]? with
  | none =>
    rw [e] at q
    exact q.elim
  | some o =>
    cases o with
    | none =>
      rw [e] at q
      exact q.elim
    | some m =>
      rw [e] at q
      obtain ⟨v, Fi, Fr, p1, h1, h2, h3⟩ := OwnS.take os e
      exact ⟨v, h1, q B H v σ Fi Fr (w.perm (perm3 p1)) (Same.refl _) Kp.refl h2 h3⟩
end
def pinT (js : List Nat) : Nat → List M → SlM
  | _, [] => []
  | n, m :: ms => (if n ∈ js then some (.pin n m) else some m) :: pinT js (n + 1) ms
def gets : List Nat → SlM → Option (List M)
  | [], _ => some []
  | j :: js, δ => match δ[j]? with
    | some (some (.pin k m)) => if k = j then (gets js (δ.set j none)).map fun ms => m :: ms else none
    | _ => none
def fromT (js : List Nat) (m : M) (δ : SlM) (a : Sto) : Out (M × List M) := match gets js δ with
  | some ms => if (npM m && npMs ms) = true then .ok (m, ms) a else .stuck
  | none => .stuck
def bodyT (js : List Nat) (n : Nat) (g : TM) : FT := fun ms a => match g (pinT js 0 ms ++ List.replicate (n - ms.length) none) a with
  | .nx δ a' => fromT js (.val .non) δ a'
  | .rt m δ a' => fromT js m δ a'
  | .exc c ns ds a' => .exc c ns ds a'
  | .stuck => .stuck
section
variable {G : Gx} {P : Nat → V → Prop} {B H : Hp} {ρ : List Addr}
theorem OwnS.pinT (hG : ∀ n v, G.P n v → P n v) (js : List Nat) : ∀ (ms : List M) (vs : List V) (n : Nat) (F : List Addr), (∀ k v, vs[k]? = some v → P (n + k) v) → OwnS G B H ρ (ms.map some) (vs.map some) F → OwnS (G.w P) B H ρ (DL.pinT js n ms) (vs.map some) F
  | [], vs, n, F, hp, h => h
  | m :: ms, vs, n, F, hp, h => by
    obtain ⟨v, r, F1, F2, e, rfl, h1, h2⟩ := h
    cases vs with
    | nil => cases e
    | cons v' vs =>
      cases e
      have ih := OwnS.pinT hG js ms vs (n + 1) F2 (fun k v e => by
        have := hp (k + 1) v (by simpa using e)
        rw [show n + (k + 1) = n + 1 + k by omega] at this
        exact this) h2
      have o := Own.w hG m v F1 h1
      have pv : P n v := hp 0 v rfl
      show OwnS (G.w P) B H ρ ((if n ∈ js then some (.pin n m) else some m) :: DL.pinT js (n + 1) ms) _ _
      split
      · exact ⟨v, vs.map some, F1, F2, rfl, rfl, ⟨pv, o⟩, ih⟩
      · exact ⟨v, vs.map some, F1, F2, rfl, rfl, o, ih⟩
theorem OwnS.gets {vs : List V} : ∀ (js : List Nat) (δ : SlM) (σ : L2.St) (F : List Addr) (ms : List M), OwnS (G.w fun j v => vs[j]? = some v) B H ρ δ σ F → DL.gets js δ = some ms → ∃ F3 Fd, F.Perm (F3 ++ Fd) ∧ Owns (G.w fun j v => vs[j]? = some v) B H ρ ms (js.map fun j => vs.getD j .non) F3
  | [], δ, σ, F, ms, os, e => by
    cases e
    exact ⟨[], F, List.Perm.refl _, rfl, rfl⟩
  | j :: js, δ, σ, F, ms, os, e => by
    unfold DL.gets at e
    split at e
    · rename_i k m c
      by_cases hk : k = j
      · rw [if_pos hk] at e
        subst hk
        obtain ⟨v, Fi, Fr, p1, h1, h2, h3⟩ := OwnS.take os c
        cases c2 : DL.gets js (δ.set k none) with
        | none =>
          rw [c2] at e
          cases e
        | some ms2 =>
          rw [c2] at e
          cases e
          obtain ⟨F3, Fd, q1, q2⟩ := OwnS.gets js _ σ Fr ms2 h3 c2
          have hv : vs.getD k .non = v := by
            have z : vs[k]? = some v := h2.1
            rw [List.getD_eq_getElem?_getD, z] <;> rfl
          refine ⟨Fi ++ F3, Fd, ?_, v, js.map (fun j => vs.getD j .non), Fi, F3, by rw [← hv] <;> rfl, rfl, h2.2, q2⟩
          rw [List.append_assoc]
          exact p1.trans (List.Perm.append_left Fi q1)
      · rw [if_neg hk] at e
        cases e
    · cases e
end
section
variable {P : Program} {w : World} {K : PySem.W.Frag} {mg : Str → Option Value} {base : Heap} {G : Gx} [NoPin G]
theorem fn_okT {x qual : Str} {st : Stmt} {f : Addr} {fd : FuncData} {N ps : List Str} {k : Nat} {js : List Nat} {g : TM} (F : Fun K x qual st f fd) (S : FnScope N ps (defScope st))
    (hb : ∀ (Pn : Nat → V → Prop) (cdv : Value) (A : Around) (outer : List Env) (s : Shared) (H : Hp) (E : XK), Room k (A.deeper (envOfC qual (defScope st) s.heap.objs.size f cdv)) →
      DSsT (cxOf (L2.CX P w) P w K mg base N qual (defScope st) f cdv A outer s H E) (G.w Pn) (fun cls d _ H => E cls d H) (defBody st) g) :
    FnOk P w K mg base (L2.CX P w) (k + 1) f fd ps (spT G (bodyT js N.length g) ps.length js) := by
  refine F.okX S (fun vs H Q E h => h.1) (fun cdv A outer s H vs Q E hr h => ?_)
  obtain ⟨t, p, so⟩ := (hb (fun j v => vs[j]? = some v) cdv A outer s H E hr).ex
  refine ⟨t, p, ?_⟩
  obtain ⟨hl, ρ, R, B, F0, ms, a, w, os0, q⟩ := h
  unfold bodyT at q
  have len : ms.length = vs.length := by
    have := os0.size
    rw [List.length_map, List.length_map] at this
    exact this
  have os : OwnS (G.w fun j v => vs[j]? = some v) B H ρ (pinT js 0 ms ++ List.replicate (N.length - ms.length) none) (L2.start N vs) F0 := by
    unfold L2.start
    rw [len]
    exact (OwnS.pinT (fun n v h => (NoPin.no n v h).elim) js ms vs 0 F0 (fun k v e => by rw [Nat.zero_add]; exact e) os0).longer _
  refine so ρ R B H (L2.start N vs) _ a F0 _ w.w os ?_
  have fin : ∀ (m : M) (δ : SlM) (a' : Sto), FinTo G (fun cls d _ H => E cls d H) ρ R B H js vs (fromT js m δ a') Q → ∀ B' H' v σ' F1 F2, Wd (G.w fun j v => vs[j]? = some v) B' H' ρ a' (F1 ++ (F2 ++ R)) → Same B B' → Kp R H H' → Own (G.w fun j v => vs[j]? = some v) B' H' ρ m v F1 → OwnS (G.w fun j v => vs[j]? = some v) B' H' ρ δ σ' F2 → Q v H' := fun m δ a' q B' H' v σ' F1 F2 w' sm kp om os' => by
    unfold fromT at q
    cases c : gets js δ with
    | none =>
      rw [c] at q
      exact q.elim
    | some ms' =>
      rw [c] at q
      dsimp only at q
      by_cases hc : (npM m && npMs ms') = true
      · rw [if_pos hc] at q
        obtain ⟨c1, c2⟩ := Bool.and_eq_true_iff.mp hc
        obtain ⟨F3, Fd, z1, z2⟩ := OwnS.gets js δ σ' F2 ms' os' c
        refine q B' H' v F1 F3 ?_ sm kp (Own.unw m v F1 c1 om) (Owns.unw ms' _ F3 c2 z2)
        have pm : (F1 ++ (F2 ++ R)).Perm (Fd ++ (F1 ++ (F3 ++ R))) := List.perm_iff_count.mpr fun x => by
          have e1 := List.perm_iff_count.mp z1 x
          simp only [List.count_append] at *
          omega
        exact (w'.unw.perm pm).drop
      · rw [if_neg hc] at q
        exact q.elim
  cases c : g (pinT js 0 ms ++ List.replicate (N.length - ms.length) none) a with
  | nx δ a' =>
    rw [c] at q
    exact fun B' H' σ' F' w' sm kp os' => fin (.val .non) δ a' q B' H' .non σ' [] F' w' sm kp ⟨rfl, rfl⟩ os'
  | rt m δ a' =>
    rw [c] at q
    exact fun B' H' v σ' F1 F2 w' sm kp om os' => fin m δ a' q B' H' v σ' F1 F2 w' sm kp om os'
  | exc cc ns es a' =>
    rw [c] at q
    exact fun B' H' σ' dd w' sm kp x => q B' H' dd w'.unw sm kp (XdO.weq.mp x)
  | stuck =>
    rw [c] at q
    exact q.elim
end
structure DefT (P : Program) (w : World) (K : PySem.W.Frag) (mg : Str → Option Value) (base : Heap) (G : Gx) (x : Str) (k n : Nat) (js : List Nat) (g : FT) : Prop where
  ex : ∃ (f : Addr) (fd : FuncData) (ps : List Str), ps.length = n ∧ FnOk P w K mg base (L2.CX P w) k f fd ps (spT G g n js) ∧ mg x = some (.ref f) ∧ PySem.W.keepIn K (.ref f) = true ∧ Binds K fd ps []
theorem defT {P : Program} {w : World} {K : PySem.W.Frag} {mg : Str → Option Value} {base : Heap} {G : Gx} [NoPin G] {x : Str} {st : Stmt} {f : Addr} {fd : FuncData} {N ps : List Str} {k : Nat} {js : List Nat} {g : TM} (F : Fun K x x st f fd) (S : FnScope N ps (defScope st)) (b : Binds K fd ps []) (hm : mg x = some (.ref f))
    (hb : ∀ (Pn : Nat → V → Prop) (cdv : Value) (A : Around) (outer : List Env) (s : Shared) (H : Hp) (E : XK), Room k (A.deeper (envOfC x (defScope st) s.heap.objs.size f cdv)) →
      DSsT (cxOf (L2.CX P w) P w K mg base N x (defScope st) f cdv A outer s H E) (G.w Pn) (fun cls d _ H => E cls d H) (defBody st) g) :
    DefT P w K mg base G x (k + 1) ps.length js (bodyT js N.length g) := ⟨f, fd, ps, rfl, fn_okT F S hb, hm, F.kp, b⟩
theorem FinTo.w {G : Gx} {P : Nat → V → Prop} {W : WX} {ρ R : List Addr} {B H : Hp} {js : List Nat} {vs : List V} {o : Out (M × List M)} {Q : VK} (hP : ∀ n v, G.P n v → P n v) (h : FinTo (G.w P) W ρ R B H js vs o Q) (np : ∀ m ms a, o = .ok (m, ms) a → True) : FinTo G W ρ R B H js vs o Q := by
  cases o with
  | ok m a =>
    obtain ⟨m, ms⟩ := m
    exact fun B' H' v F1 F2 w s kp om os => h B' H' v F1 F2 w.w s kp (Own.w hP m v F1 om) (Owns.w hP ms _ F2 os)
  | exc c ns ds a => exact fun B' H' dd w s kp x => h B' H' dd w.w s kp (XdO.weq.mpr x)
  | stuck => exact h
abbrev EGt := SlM → Sto → Out (List M × SlM)
def GvAt (sp : List (Option Nat)) (σ : L2.St) (vs : List V) : Prop := ∀ (k i : Nat), sp[k]? = some (some i) → ∃ v, σ[i]? = some (some v) ∧ vs[k]? = some v
def FinGt (G : Gx) (ρ R : List Addr) (B H : Hp) (σ : L2.St) (sp : List (Option Nat)) (o : Out (List M × SlM)) (Q : List V → Hp → Prop) : Prop := match o with
  | .ok (ms, δ') a => ∀ B' H' vs Fm Fr, Wd G B' H' ρ a (Fm ++ (Fr ++ R)) → Same B B' → Kp R H H' → OwnS G B' H' ρ (ms.map some) (vs.map some) Fm → OwnS G B' H' ρ δ' σ Fr → GvAt sp σ vs → Q vs H'
  | _ => False
def GtOk (G : Gx) (t : TA) (sp : List (Option Nat)) (f : EGt) : Prop := ∀ (ρ R : List Addr) (B H : Hp) (σ : L2.St) (δ : SlM) (a : Sto) (F : List Addr) (Q : List V → Hp → Prop), Wd G B H ρ a (F ++ R) → OwnS G B H ρ δ σ F → FinGt G ρ R B H σ sp (f δ a) Q → t σ H Q
structure DGt (X : Cx) (G : Gx) (W : WX) (es : List Expr) (sp : List (Option Nat)) (f : EGt) : Prop where
  ex : ∃ t, PA X es t ∧ GtOk G t sp f
def gtNil : EGt := fun δ a => .ok ([], δ) a
def gtCons (f : EV) (g : EGt) : EGt := fun δ a => match f (see [] 0 δ) a with
  | .ok d a1 => (match g δ a1 with
    | .ok (ms, δ') a2 => .ok (.val d :: ms, δ') a2
    | _ => .stuck)
  | _ => .stuck
def gtHere (i : Nat) (g : EGt) : EGt := fun δ a => match δ[i]? with
  | some (some m) => (match g (δ.set i none) a with
    | .ok (ms, δ') a2 => .ok (m :: ms, δ') a2
    | _ => .stuck)
  | _ => .stuck
section
variable {X : Cx} {G : Gx} {W : WX}
theorem dgt_nil : DGt X G W [] [] gtNil := ⟨tNil, pa_nil, fun ρ R B H σ δ a F Q w os q => q B H [] [] F w (Same.refl _) Kp.refl ⟨rfl, rfl⟩ os fun k i e => by simp at e⟩
theorem GvAt.cons {sp : List (Option Nat)} {σ : L2.St} {vs : List V} {o : Option Nat} {v : V} (h : GvAt sp σ vs) (h0 : ∀ i, o = some i → σ[i]? = some (some v)) : GvAt (o :: sp) σ (v :: vs) := fun k i e => by
  cases k with
  | zero =>
    have e' : o = some i := by simpa using e
    exact ⟨v, h0 i e', rfl⟩
  | succ k =>
    obtain ⟨w, h1, h2⟩ := h k i (by simpa using e)
    exact ⟨w, h1, by simpa using h2⟩
theorem dgt_cons {e : Expr} {es : List Expr} {sp : List (Option Nat)} {f : EV} {g : EGt} (h : DV X G W e f) (k : DGt X G W es sp g) (hs : starEach (e :: es) X.env = (false, eval e X.env) :: starEach es X.env := by rfl) : DGt X G W (e :: es) (none :: sp) (gtCons f g) := by
  obtain ⟨t, p, s⟩ := h.ex
  obtain ⟨u, p2, s2⟩ := k.ex
  refine ⟨_, pa_cons p p2 hs, fun ρ R B H σ δ a F Q w os q => s ρ (F ++ R) B H σ (see [] 0 δ) a _ w (os.sls 0) ?_⟩
  unfold gtCons at q
  cases c : f (see [] 0 δ) a with
  | stuck =>
    rw [c] at q
    exact q.elim
  | exc _ _ _ _ =>
    rw [c] at q
    exact q.elim
  | ok d a1 =>
    rw [c] at q
    dsimp only at q
    intro B1 H1 w1 s1 k1 v r
    have kR : Kp R H H1 := fun p hp => k1 p (List.mem_append_right _ hp)
    refine s2 ρ R B1 H1 σ δ a1 F _ w1 (OwnS.mono s1 δ σ F (fun p hp => k1 p (List.mem_append_left _ hp)) os) ?_
    cases c2 : g δ a1 with
    | stuck =>
      rw [c2] at q
      exact q.elim
    | exc _ _ _ _ =>
      rw [c2] at q
      exact q.elim
    | ok z a2 =>
      obtain ⟨ms, δ'⟩ := z
      rw [c2] at q
      intro B' H' vs Fm Fr w' s' k' o1 o2 o3
      exact q B' H' (v :: vs) Fm Fr w' (s1.trans s') (kR.trans k') ⟨v, vs.map some, [], Fm, rfl, rfl, ⟨rfl, Rep.mono s' d v r⟩, o1⟩ o2 (o3.cons fun i e => nomatch e)
theorem dgt_here {i : Nat} {x : Str} {pos : Pos} {es : List Expr} {sp : List (Option Nat)} {g : EGt} (hN : X.N[i]? = some x) (hv : Vis X.env.scope x) (k : DGt X G W es sp g) (hd : (x == ("__debug__" : Str)) = false := by decide) (hcd : (x == ("__classdict__" : Str)) = false := by decide) (hs : starEach (.Name x pos :: es) X.env = (false, eval (.Name x pos) X.env) :: starEach es X.env := by rfl) : DGt X G W (.Name x pos :: es) (some i :: sp) (gtHere i g) := by
  obtain ⟨u, p2, s2⟩ := k.ex
  refine ⟨_, pa_cons (pe_var hN hv hd hcd) p2 hs, fun ρ R B H σ δ a F Q w os q => ?_⟩
  unfold gtHere at q
  cases e : δ[i]? with
  | none =>
    rw [e] at q
    exact q.elim
  | some o =>
    cases o with
    | none =>
      rw [e] at q
      exact q.elim
    | some m =>
      rw [e] at q
      dsimp only at q
      obtain ⟨v, Fi, Fr, p1, h1, h2, h3⟩ := OwnS.take os e
      have w1 : Wd G B H ρ a (Fr ++ (Fi ++ R)) := w.perm (List.perm_iff_count.mpr fun x => by
        have e1 := List.perm_iff_count.mp p1 x
        simp only [List.count_append] at *
        omega)
      refine ⟨v, h1, s2 ρ (Fi ++ R) B H σ (δ.set i none) a Fr _ w1 h3 ?_⟩
      cases c2 : g (δ.set i none) a with
      | stuck =>
        rw [c2] at q
        exact q.elim
      | exc _ _ _ _ =>
        rw [c2] at q
        exact q.elim
      | ok z a2 =>
        obtain ⟨ms, δ'⟩ := z
        rw [c2] at q
        intro B' H' vs Fm Fr' w' s' k' o1 o2 o3
        refine q B' H' (v :: vs) (Fi ++ Fm) Fr' (w'.perm (List.perm_iff_count.mpr fun x => by
          simp only [List.count_append]
          omega)) s' k'.right ⟨v, vs.map some, Fi, Fm, rfl, rfl, Own.mono s' m v Fi (fun q hq => k' q (List.mem_append_left _ hq)) h2, o1⟩ o2 (o3.cons fun j e => by
            cases e
            exact h1)
end
def puts : List Nat → List M → SlM → Option SlM
  | [], [], δ => some δ
  | i :: is, m :: ms, δ => if i < δ.length then puts is ms (δ.set i (some m)) else none
  | _, _, _ => none
def giveM (n : Nat) (is : List Nat) (g : FT) (fa : EGt) : XM := fun δ a => match fa δ a with
  | .ok (ms, δ') a1 => if ms.length = n then (match g ms a1 with
    | .ok (m, ms') a2 => (match puts is ms' δ' with
      | some δ2 => .ok m δ2 a2
      | none => .stuck)
    | .exc c ns ds a2 => .exc c ns ds δ' a2
    | .stuck => .stuck) else .stuck
  | _ => .stuck
section
variable {G : Gx} {B H : Hp} {ρ : List Addr}
theorem OwnS.puts {σ : L2.St} : ∀ (is : List Nat) (ms : List M) (ws : List V) (δ δ2 : SlM) (Fr F2 : List Addr), (∀ (k i : Nat), is[k]? = some i → ∃ v, σ[i]? = some (some v) ∧ ws[k]? = some v) → OwnS G B H ρ δ σ Fr → Owns G B H ρ ms ws F2 → DL.puts is ms δ = some δ2 → ∃ Fd F3, (F2 ++ Fr).Perm (Fd ++ F3) ∧ OwnS G B H ρ δ2 σ F3
  | [], [], ws, δ, δ2, Fr, F2, al, os, ow, e => by
    cases e
    exact ⟨F2, Fr, List.Perm.refl _, os⟩
  | i :: is, m :: ms, ws, δ, δ2, Fr, F2, al, os, ow, e => by
    unfold DL.puts at e
    by_cases hi : i < δ.length
    · rw [if_pos hi] at e
      obtain ⟨w, r, G1, G2, rfl, rfl, h1, h2⟩ := ow
      obtain ⟨v, a1, a2⟩ := al 0 i rfl
      cases a2
      obtain ⟨Fa, Fb, F3, z1, z2, z3⟩ := OwnS.set h1 os hi
      rw [set_same a1] at z3
      obtain ⟨Fd, F4, y1, y2⟩ := OwnS.puts is ms r _ δ2 F3 G2 (fun k j ej => by
        obtain ⟨v, b1, b2⟩ := al (k + 1) j (by simpa using ej)
        exact ⟨v, b1, by simpa using b2⟩) z3 h2 e
      refine ⟨Fa ++ Fd, F4, ?_, y2⟩
      refine List.perm_iff_count.mpr fun x => ?_
      have e1 := List.perm_iff_count.mp z1 x
      have e2 := List.perm_iff_count.mp z2 x
      have e3 := List.perm_iff_count.mp y1 x
      simp only [List.count_append] at *
      omega
    · rw [if_neg hi] at e
      cases e
  | [], _ :: _, _, _, _, _, _, _, _, _, e => by cases e
  | _ :: _, [], _, _, _, _, _, _, _, _, e => by cases e
end
theorem al_of {sp : List (Option Nat)} {σ : L2.St} {vs : List V} (h : GvAt sp σ vs) : ∀ (js is : List Nat), js.map (fun j => sp.getD j none) = is.map some → ∀ (k i : Nat), is[k]? = some i → ∃ v, σ[i]? = some (some v) ∧ (js.map fun j => vs.getD j .non)[k]? = some v
  | [], [], _, k, i, e => by simp at e
  | j :: js, i0 :: is, hj, k, i, e => by
    have h1 : sp.getD j none = some i0 := List.head_eq_of_cons_eq hj
    have h2 := List.tail_eq_of_cons_eq hj
    cases k with
    | zero =>
      have e' : i0 = i := by simpa using e
      subst e'
      have h3 : sp[j]? = some (some i0) := by
        rw [List.getD_eq_getElem?_getD] at h1
        cases c : sp[j]? with
        | none =>
          rw [c] at h1
          cases h1
        | some o =>
          rw [c] at h1
          exact congrArg some h1
      obtain ⟨v, a1, a2⟩ := h j i0 h3
      refine ⟨v, a1, ?_⟩
      show some (vs.getD j .non) = some v
      rw [List.getD_eq_getElem?_getD, a2] <;> rfl
    | succ k =>
      obtain ⟨v, a1, a2⟩ := al_of h js is h2 k i (by simpa using e)
      exact ⟨v, a1, by simpa using a2⟩
  | [], _ :: _, hj, _, _, _ => by cases hj
  | _ :: _, [], hj, _, _, _ => by cases hj
section
variable {X : Cx} {G : Gx} {W : WX}
theorem XOk.give {t : TA} {n : Nat} {js is : List Nat} {sp : List (Option Nat)} {g : FT} {fa : EGt} (hsp : js.map (fun j => sp.getD j none) = is.map some) (s : GtOk G t sp fa) : XOk G W (tCallSD (spT G g n js) [] (WE W) t) (giveM n is g fa) := fun ρ R B H σ δ a F Q w os q => by
  refine s ρ R B H σ δ a F _ w os ?_
  unfold giveM at q
  cases c : fa δ a with
  | stuck =>
    rw [c] at q
    exact q.elim
  | exc _ _ _ _ =>
    rw [c] at q
    exact q.elim
  | ok z a1 =>
    obtain ⟨ms, δ'⟩ := z
    rw [c] at q
    dsimp only at q
    intro B1 H1 vs Fm Fr w1 s1 k1 o1 o2 o3
    by_cases hl : ms.length = n
    · rw [if_pos hl] at q
      rw [List.append_nil]
      refine ⟨?_, ρ, Fr ++ R, B1, Fm, ms, a1, w1, o1, ?_⟩
      · have := o1.size
        rw [List.length_map, List.length_map] at this
        rw [← this, hl]
      · cases c2 : g ms a1 with
        | stuck =>
          rw [c2] at q
          exact q.elim
        | exc cc ns ds a2 =>
          rw [c2] at q
          exact fun B2 H2 dd w2 s2 k2 x => q B2 H2 dd Fr w2 (s1.trans s2) (k1.trans k2.right) x (OwnS.mono s2 δ' σ Fr k2.left o2)
        | ok z2 a2 =>
          obtain ⟨m, ms'⟩ := z2
          rw [c2] at q
          dsimp only at q
          cases c3 : puts is ms' δ' with
          | none =>
            rw [c3] at q
            exact q.elim
          | some δ2 =>
            rw [c3] at q
            dsimp only at q
            intro B2 H2 v F1 F2 w2 s2 k2 om ow
            obtain ⟨Fd, F3, z1, z2⟩ := OwnS.puts is ms' _ δ' δ2 Fr F2 (al_of o3 js is hsp) (OwnS.mono s2 δ' σ Fr k2.left o2) ow c3
            refine q B2 H2 v F3 F1 ?_ (s1.trans s2) (k1.trans k2.right) om z2
            have pm : (F1 ++ (F2 ++ (Fr ++ R))).Perm (Fd ++ (F1 ++ (F3 ++ R))) := List.perm_iff_count.mpr fun x => by
              have e1 := List.perm_iff_count.mp z1 x
              simp only [List.count_append] at *
              omega
            exact (w2.perm pm).drop
    · rw [if_neg hl] at q
      exact q.elim
theorem de_give {x : Str} {k n : Nat} {js : List Nat} (is : List Nat) {sp : List (Option Nat)} {g : FT} {e : Expr} {es : List Expr} {p pos : Pos} {fa : EGt} (F : DefT X.prog X.w X.K X.mg X.base G x k n js g) (hr : Room k X.A) (tk : Takes X W) (ha : DGt X G W (e :: es) sp fa) (hsp : js.map (fun j => sp.getD j none) = is.map some) (hg : Gl X x := by rfl)
    (hdb : NotDbg x := by decide) (he : HeadP X e es := by rfl) (hpl : RestP X pos es := by rfl) : DE X G W (.Call (.Name x p) (e :: es) [] pos) (giveM n is g fa) := by
  obtain ⟨t, pa, s⟩ := ha.ex
  obtain ⟨f, fd, ps, hn, FF, hm, hk, hb⟩ := F.ex
  exact ⟨_, pe_callSD FF hr hg hm hk hb .nil (fun σ => passAt tk σ) pa hdb he hpl, XOk.give hsp s⟩
theorem hidX_ok {t : TE} {x : XM} {B H : Hp} {ρ R F Fi Fr : List Addr} {a : Sto} {δ : SlM} {σ : L2.St} {i : Nat} {k : M → SM} {E : Ends} {Q : VK} (hf : XOk G W t x) (w : Wd G B H ρ a (F ++ R)) (pf : F.Perm (Fi ++ Fr)) (os2 : OwnS G B H ρ (δ.set i none) σ Fr)
    (q : FinS G W ρ R B H ((x (δ.set i none) a).seq k) E)
    (hk : ∀ m δ1 a1 B1 H1 v F1 Fa, Wd G B1 H1 ρ a1 (F1 ++ (Fa ++ (Fi ++ R))) → Same B B1 → Own G B1 H1 ρ m v F1 → OwnS G B1 H1 ρ δ1 σ Fa → (∀ q ∈ Fi, H1 q = H q) → FinS G W ρ R B1 H1 (k m δ1 a1) E → Q v H1) : t σ H Q := by
  have w2 : Wd G B H ρ a (Fr ++ (Fi ++ R)) := by
    refine w.perm ?_
    have z := List.Perm.append_right R (pf.trans List.perm_append_comm)
    rw [List.append_assoc] at z
    exact z
  refine hf ρ (Fi ++ R) B H σ _ a Fr Q w2 os2 ?_
  cases c : x (δ.set i none) a with
  | stuck =>
    rw [c] at q
    exact q.elim
  | exc cc ns ds δ1 a1 =>
    rw [c] at q
    intro B1 H1 dd F1 w1 sm kp x os1
    refine q B1 H1 σ dd F1 ?_ sm kp.right x os1
    have z : (F1 ++ (Fi ++ R)).Perm (Fi ++ (F1 ++ R)) := by
      rw [← List.append_assoc, ← List.append_assoc]
      exact List.Perm.append_right R List.perm_append_comm
    exact (w1.perm z).drop
  | ok m δ1 a1 =>
    rw [c] at q
    intro B1 H1 v Fa F1 w1 sm kp om os1
    exact hk m δ1 a1 B1 H1 v F1 Fa w1 sm om os1 kp.left (FinS.base q sm kp.right)
def extM : M → Option (List M)
  | .lst ms => some ms
  | .val (.lst ds) => some (ds.map M.val)
  | _ => none
def sExt (i : Nat) (fp : QP) (x : XM) : SM := fun δ a => match δ[i]? with
  | some (some mo) => (match fp δ with
    | some js => (match focL js mo with
      | some ms => (x (δ.set i none) a).seq fun m δ1 a1 => match extM m with
        | some ms2 => if (ms.length < 100000 ∧ ms2.length < 100000) ∧ i < δ1.length then .nx (δ1.set i (some (putL js (ms ++ ms2) mo))) a1 else .stuck
        | none => .stuck
      | none => .stuck)
    | none => .stuck)
  | _ => .stuck
theorem extM_own {B H : Hp} {ρ : List Addr} {m : M} {v : V} {F : List Addr} {ms : List M} (e : extM m = some ms) (o : Own G B H ρ m v F) (hb : Same B H) : ∃ b zs F' Fx, v = .ref b ∧ H b = some (.lst zs) ∧ Owns G B H ρ ms zs F' ∧ F.Perm (F' ++ Fx) := by
  cases m with
  | lst ms0 =>
    cases e
    obtain ⟨p, xs, F', h1, h2, rfl, h4⟩ := o
    exact ⟨p, xs, F', [p], h1, h2, h4, List.perm_append_comm (l₁ := [p])⟩
  | val d =>
    cases d with
    | lst ds =>
      cases e
      obtain ⟨rfl, p, xs, h1, h2, h3⟩ := o
      exact ⟨p, xs, [], [], h1, hb p _ h2, Owns.vals h3, List.Perm.refl _⟩
    | _ => cases e
  | _ => cases e
theorem ds_extE {e o : Expr} {i : Nat} {fp : QP} {x : XM} {p2 p3 pos : Pos} (ho : DPt X G o i fp) (he : DE X G W e x)
    (hbase : NoSup X o "extend" := by rfl) (hfew : FewA X p3 [e] := by rfl) (hline : OneRow p2 p3 := by rfl) (hs : HeadP X e [] := by rfl) (hpl : RestP X p3 [] := by rfl)
    (hsw : swapsWith (.Call (.Attribute o "extend" p2) [e] [] p3) none pos.line X.env = pure false := by rfl) :
    DS X G W (.Expr (.Call (.Attribute o "extend" p2) [e] [] p3) pos) (sExt i fp x) := by
  obtain ⟨te, pe, se⟩ := he.ex
  obtain ⟨to, po, so⟩ := ho.ex
  refine ⟨_, ps_expr (pe_bm PySem.F.plainAttrs_list PySem.F.slot_list_extend PySem.F.type_list_extend mt_extend po (pa_cons pe pa_nil hs) hbase hfew hline hs hpl) hsw, fun ρ R B H σ δ a F Z w os q => ?_⟩
  unfold sExt at q
  cases c0 : δ[i]? with
  | none =>
    rw [c0] at q
    exact q.elim
  | some o0 =>
    rw [c0] at q
    cases o0 with
    | none => exact q.elim
    | some mo =>
      dsimp only at q
      cases c1 : fp δ with
      | none =>
        rw [c1] at q
        exact q.elim
      | some js =>
        rw [c1] at q
        dsimp only at q
        cases c2 : focL js mo with
        | none =>
          rw [c2] at q
          exact q.elim
        | some ms =>
          rw [c2] at q
          dsimp only at q
          obtain ⟨v0, Fi, Fr', pf, h0, o0, os2⟩ := OwnS.take os c0
          obtain ⟨pp, xs, Fm, Fr, g1, g2, g3, g4, g5⟩ := Own.foc o0 c2
          refine so ρ B H σ δ F js v0 pp _ os c1 h0 g1 ⟨.inl ⟨rfl, _, SqL.of g2⟩, ?_⟩
          refine hidX_ok se w pf os2 q fun m δ1 a1 B1 H1 v F1 Fa w1 sm om os1 kp q1 => ?_
          cases c4 : extM m with
          | none =>
            rw [c4] at q1
            exact q1.elim
          | some ms2 =>
            rw [c4] at q1
            dsimp only at q1
            by_cases c3 : (ms.length < 100000 ∧ ms2.length < 100000) ∧ i < δ1.length
            · rw [if_pos c3] at q1
              obtain ⟨b, zs, F1', Fx, rfl, hb, oz, pz⟩ := extM_own c4 om w1.ex
              have inI : ∀ q, q = pp ∨ q ∈ Fm → q ∈ Fi := fun q hq => g4.mem_iff.mpr (hq.elim (fun z => z ▸ List.mem_cons_self) fun z => List.mem_cons_of_mem _ (List.mem_append_left _ z))
              have hp1 : H1 pp = some (.lst xs) := (kp pp (inI pp (.inl rfl))).trans g2
              have hl : xs.length + zs.length ≤ sizeLine := by
                rw [sizeLine_eq, ← g3.len, ← oz.len]
                omega
              refine ⟨pp, b, xs, zs, rfl, rfl, hp1, hb, hl, ?_⟩
              have w1' : Wd G B1 H1 ρ a1 (F1' ++ (Fa ++ (Fi ++ R))) := by
                have pm : (F1 ++ (Fa ++ (Fi ++ R))).Perm (Fx ++ (F1' ++ (Fa ++ (Fi ++ R)))) := List.perm_iff_count.mpr fun x => by
                  have e1 := List.perm_iff_count.mp pz x
                  simp only [List.count_append] at *
                  omega
                exact (w1.perm pm).drop
              have ne := apart_at w1' g4
              have ow : Owns G B1 (upd H1 pp (.lst (xs ++ zs))) ρ (ms ++ ms2) (xs ++ zs) (Fm ++ F1') := Owns.append
                (Owns.mono sm ms xs Fm (fun q hq => (upd_ne (ne q (.inr (.inr (.inl hq))))).trans (kp q (inI q (.inr hq)))) g3) (Owns.mono (Same.refl _) ms2 zs F1' (fun q hq => upd_ne (ne q (.inl hq))) oz)
              obtain ⟨F3, w3, h3, k3⟩ := rewrite_at w1' sm os1 h0 c3.2 kp g4 g5 ⟨[], by rw [List.append_nil]⟩ ow
              exact q1 B1 _ σ F3 w3 (Same.refl _) k3 h3
            · rw [if_neg c3] at q1
              exact q1.elim
end
end DL
namespace DL
open PySem PySem.Spec PyProof.Rows L2
section
variable {X : Cx} {G : Gx} {W : WX} {e e1 e2 e3 : Expr}
def gTru : D → Option Bool
  | .non => some false
  | .bl b => some b
  | .int i => some (i != 0)
  | .tup l => some (!l.isEmpty)
  | .lst l => some (!l.isEmpty)
  | _ => none
def tTr (f : EV) : ET := fun δ a => (f δ a).opt gTru
theorem isEmpty_reps {B : Hp} {ρ : List Addr} {ds : List D} {xs : List V} (r : Reps G B ρ ds xs) : ds.isEmpty = xs.isEmpty := by
  have h := r.len
  cases ds <;> cases xs <;> first | rfl | simp at h
theorem dt_tru {f : EV} (hK : G.K = X.K) (h : DV X G W e f) (he : ∀ whole, isTrue e X.env whole = (do let v ← whole; standAt e.pos; holding [v] (truthy v)) := by intro _; rfl) : DT X G W e (tTr f) := by
  obtain ⟨t, p, s⟩ := h.ex
  refine ⟨_, pt_truth p he, fun ρ R B H σ δ a Q w sl q => s ρ R B H σ δ a _ w sl (Fin.imp (Fin.seqo q) fun d a1 B1 H1 w1 s1 k1 q1 x r => ?_)⟩
  obtain ⟨b, e, q2⟩ := q1
  refine ⟨b, ?_, q2⟩
  cases d with
  | non =>
    cases e
    rw [show x = V.non from r] <;> rfl
  | bl b' =>
    cases e
    rw [show x = V.bl _ from r] <;> rfl
  | int i =>
    cases e
    rw [show x = V.int _ from r] <;> rfl
  | tup l =>
    cases e
    obtain ⟨p, xs, rfl, h2, h3⟩ := r
    have h2' : SqT X.K H1 p xs := by
      rw [← hK]
      rcases h2 with (h2 | ⟨o, h2⟩) | h2
      · exact .inl (.inl (w1.ex _ _ h2))
      · exact .inl (.inr ⟨o, w1.ex _ _ h2⟩)
      · exact .inr h2
    exact .inr (.inl ⟨xs, h2', by rw [isEmpty_reps h3]⟩)
  | lst l =>
    cases e
    obtain ⟨p, xs, rfl, h2, h3⟩ := r
    exact .inl ⟨xs, SqL.of (w1.ex _ _ h2), by rw [isEmpty_reps h3]⟩
  | _ => cases e
def vCh (g g' : D → D → Option D) (f1 f2 f3 : EV) : EV := fun δ a => (f1 δ a).bind fun d1 a1 => (f2 δ a1).bind fun d2 a2 => match g d1 d2 with
  | some (.bl true) => (f3 δ a2).opt (g' d2)
  | some (.bl false) => .ok (.bl false) a2
  | _ => .stuck
theorem vok_chain {op op' : CmpOp} {r r' : R2} {g g' : D → D → Option D} {f1 f2 f3 : EV} {ta tb tc : TE} (o : Op2 G r g) (o' : Op2 G r' g') (sa : VOk G W ta f1) (sb : VOk G W tb f2) (sc : VOk G W tc f3) : VOk G W (tChain r r' ta tb tc) (vCh g g' f1 f2 f3) := by
  refine fun ρ R B H σ δ a Q w sl q => sa ρ R B H σ δ a _ w sl (Fin.imp (Fin.seq q) fun d1 a1 B1 H1 w1 s1 k1 q1 x r1 => sb ρ R B1 H1 σ δ a1 _ w1 (sl.mono s1) (Fin.imp (Fin.seq q1) fun d2 a2 B2 H2 w2 s2 k2 q2 y r2 => ?_))
  cases c : g d1 d2 with
  | none =>
    rw [c] at q2
    exact q2.elim
  | some d =>
    rw [c] at q2
    cases d with
    | bl b =>
      refine o B2 H2 ρ d1 d2 (.bl b) x y _ w2.ex (Rep.mono s2 d1 x r1) r2 c fun v rv => ⟨b, rv, ?_⟩
      cases b with
      | true =>
        rw [if_pos rfl]
        refine sc ρ R B2 H2 σ δ a2 _ w2 ((sl.mono s1).mono s2) (Fin.imp (Fin.seqo q2) fun d3 a3 B3 H3 w3 s3 k3 q3 z r3 => ?_)
        obtain ⟨d, e, q4⟩ := q3
        exact o' B3 H3 ρ d2 d3 d y z Q w3.ex (Rep.mono s3 d2 y r2) r3 e q4
      | false =>
        rw [if_neg (by decide)]
        exact q2 B2 H2 w2 (Same.refl _) Kp.refl _ rfl
    | _ => exact q2.elim
theorem dt_chain {op op' : CmpOp} {r r' : R2} {g g' : D → D → Option D} {pos : Pos} {f1 f2 f3 : EV} (ho : OpR X (compareOp op) r) (o : Op2 G r g) (ho' : OpR X (compareOp op') r') (o' : Op2 G r' g') (h1 : DV X G W e1 f1) (h2 : DV X G W e2 f2) (h3 : DV X G W e3 f3)
    (hm : lastMarks [op, op'] [e2, e3] = false := by with_unfolding_all rfl) : DT X G W (.Compare e1 [op, op'] [e2, e3] pos) (tV (vCh g g' f1 f2 f3)) := by
  obtain ⟨ta, pa, sa⟩ := h1.ex
  obtain ⟨tb, pb, sb⟩ := h2.ex
  obtain ⟨tc, pc, sc⟩ := h3.ex
  exact ⟨_, pt_chain ho ho' pa pb pc hm, TOk.ofV (vok_chain (op := op) (op' := op') o o' sa sb sc)⟩
end
def eqb (k : Bool) (v : Value) : Bool := match v with
  | .bool n => n == k
  | _ => false
theorem bools_val : ∀ {bs : List Bool} {us : List Value}, Vals (bs.map V.bl) us → us = bs.map Value.bool
  | [], us, h => by
    cases h
    rfl
  | b :: bs, us, h => by
    cases h with
    | cons r h2 =>
      rw [List.map_cons, ← bools_val h2]
      cases r
      rfl
theorem eqb_count {k : Bool} : ∀ bs : List Bool, (bs.map Value.bool).countP (eqb k) = bs.count k
  | [] => rfl
  | b :: bs => by
    rw [List.map_cons, List.countP_cons, List.count_cons, eqb_count bs] <;> rfl
def rCntB (K : PySem.W.Frag) : V → List V → Hp → VK → Prop := fun x xs H Q => ∃ (p : Addr) (bs : List Bool) (k : Bool), x = .ref p ∧ xs = [.bl k] ∧ SqL K H p (bs.map V.bl) ∧ Q (.int (bs.count k : Nat)) H
section
variable {X : Cx}
theorem mt_countB : MtR X "list.count" (rCntB X.K) := by
  intro pins s σ H x xs v us Q I rx rxs h
  obtain ⟨p, bs, k, rfl, rfl, hs, q⟩ := h
  cases rx
  obtain ⟨u, rfl, ru⟩ := rxs.one
  cases ru
  obtain ⟨its, rv, ⟨⟨cls, dd, data, sl⟩, n, ho, hc, hdn, hd⟩, hlen⟩ := I.list hs
  simp only at hc hd
  subst hc hd
  have ei := bools_val rv
  subst ei
  refine call_meets PySem.F.slot_list_count ⟨_, ho, rfl⟩ PySem.F.entry_list_count (PySem.F.args_list_count_2 _ _)
    (SeqAt.list_countAt p _ n dd sl (.bool k) (eqb k)) ⟨ho, fun y hy => ?_, ?_⟩
  · have hy' : y ∈ bs.map Value.bool := by simpa using hy
    obtain ⟨b, _, rfl⟩ := List.mem_map.mp hy'
    exact SeqAt.EqAt.bool_bool b k
  have ec : ((bs.map Value.bool).toArray.toList.countP (eqb k)) = bs.count k := eqb_count bs
  refine ⟨.int (bs.count k : Nat), H, I.tok _, ⟨s.toks, ?_⟩, q⟩
  show Value.int (((bs.map Value.bool).toArray.toList.countP (eqb k) : Nat) : Int) s.toks = Value.int ((bs.count k : Nat) : Int) s.toks
  rw [ec]
end
def allB : List D → Option (List Bool)
  | [] => some []
  | .bl b :: r => (allB r).map fun l => b :: l
  | _ => none
def gCnt (k : Bool) : D → Option D
  | .lst l => (allB l).map fun bs => .int (bs.count k : Nat)
  | _ => none
theorem allB_reps {G : Gx} {B : Hp} {ρ : List Addr} : ∀ {l : List D} {bs : List Bool} {xs : List V}, allB l = some bs → Reps G B ρ l xs → xs = bs.map V.bl
  | [], bs, xs, e, r => by
    cases e
    exact r
  | d :: l, bs, xs, e, r => by
    obtain ⟨x, t, rfl, h1, h2⟩ := r
    cases d with
    | bl b =>
      have e' : (allB l).map (fun l => b :: l) = some bs := e
      cases c : allB l with
      | none =>
        rw [c] at e'
        cases e'
      | some bs' =>
        rw [c] at e'
        cases e'
        rw [allB_reps c h2, show x = V.bl b from h1] <;> rfl
    | _ => cases e
theorem dv_count {X : Cx} {G : Gx} {W : WX} {o : Expr} {f : EV} {k : Bool} {j p p2 p3 : _} (ho : DV X G W o f)
    (hbase : NoSup X o "count" := by rfl) (hfew : FewA X p3 [.Constant (.bool k) j p] := by rfl) (hline : OneRow p2 p3 := by rfl) (hs : HeadP X (.Constant (.bool k) j p) [] := by rfl) (hpl : RestP X p3 [] := by rfl) :
    DV X G W (.Call (.Attribute o "count" p2) [.Constant (.bool k) j p] [] p3) (ev1 (gCnt k) f) := by
  obtain ⟨to, po, so⟩ := ho.ex
  refine ⟨_, pe_bm PySem.F.plainAttrs_list PySem.F.slot_list_count PySem.F.type_list_count mt_countB po (pa_cons pe_bl pa_nil hs) hbase hfew hline hs hpl, fun ρ R B H σ δ a Q w sl q => so ρ R B H σ δ a _ w sl (Fin.imp (Fin.seqo q) fun d a1 B1 H1 w1 s1 k1 q1 x r => ?_)⟩
  obtain ⟨d2, e, q2⟩ := q1
  cases d with
  | lst l =>
    have e' : (allB l).map (fun bs => D.int (bs.count k : Nat)) = some d2 := e
    cases c : allB l with
    | none =>
      rw [c] at e'
      cases e'
    | some bs =>
      rw [c] at e'
      cases e'
      obtain ⟨p, xs, rfl, h2, h3⟩ := r
      have hx := allB_reps c h3
      subst hx
      have hq : SqL X.K H1 p (bs.map V.bl) := SqL.of (w1.ex _ _ h2)
      exact ⟨.inl ⟨rfl, _, hq⟩, p, bs, k, rfl, rfl, hq, q2 _ rfl⟩
  | _ => cases e
end DL
namespace DL
open PySem PySem.Spec PyProof.Rows L2
section
variable {X : Cx}
theorem get_list : PGet X (rIxL X.K) := by
  intro pins s σ H x y v u Q I rx ry h
  obtain ⟨p, xs, i, z, rfl, rfl, hq, he, q⟩ := h
  cases rx
  obtain ⟨t, rfl⟩ := ry
  obtain ⟨its, r, pl, hz⟩ := I.list hq
  obtain ⟨j, h1, h2, h3, h4, h5⟩ := atI_get he
  obtain ⟨w, ew, rw'⟩ := r.get h2
  have hl := r.length
  have hn := line63
  have fin : EP X pins σ Q w s := ⟨z, H, I, rw', q⟩
  by_cases h0 : 0 ≤ i
  · have hj : i.toNat = j := by
      rw [seqIndex_of h0 h5] at h1
      exact Option.some.inj h1
    exact wpAny_getItem_list pl.isList h0 (by omega) (by rw [hj]; simpa using ew) fin
  · have hj : (i + (its.toArray.size : Int)).toNat = j := by
      rw [seqIndex_neg (by omega) h4] at h1
      rw [List.size_toArray, ← hl]
      exact Option.some.inj h1
    exact wpAny_getItem_list_neg pl.isList (by omega) (by rw [List.size_toArray] <;> omega) (by omega) (by rw [hj]; simpa using ew) fin
end
def intM : M → Option Int
  | .val (.int i) => some i
  | _ => none
theorem intM_own {G : Gx} {B H : Hp} {ρ : List Addr} {m : M} {i : Int} {v : V} {F : List Addr} (e : intM m = some i) (o : Own G B H ρ m v F) : v = .int i := by
  cases m with
  | val d =>
    cases d with
    | int k =>
      cases e
      exact o.2
    | _ => cases e
  | _ => cases e
def sAugP (I : List Nat) (i : Nat) (fp : QP) (fk : QI) (g : Int → Int → Int) (f : EM) : SM := fun δ a => match δ[i]? with
  | some (some mo) => (match fp δ with
    | some js => (match focL js mo with
      | some ms => (match fk δ with
        | some k => (match ixN ms.length k with
          | some j => (match ms[j]? with
            | some m0 => (match intM m0 with
              | some x => (lift I f (δ.set i none) a).seq fun m δ1 a1 => match intM m with
                | some y => if i < δ1.length then .nx (δ1.set i (some (putL js (ms.set j (.val (.int (g x y)))) mo))) a1 else .stuck
                | none => .stuck
              | none => .stuck)
            | none => .stuck)
          | none => .stuck)
        | none => .stuck)
      | none => .stuck)
    | none => .stuck)
  | _ => .stuck
section
variable {X : Cx} {G : Gx} {W : WX}
theorem ds_augP {op : Operator} {g : Int → Int → Int} {e o e2 : Expr} {i : Nat} {fp : QP} {fk : QI} {f : EM} {tpos pos : Pos} (I : List Nat) (hop : PIp X op (ipI g)) (he : DM X G W e f) (ho : DPt X G o i fp) (hk : DQ X G e2 fk)
    (ha : ∀ ov iv new, augStore e2 ov iv new = (do holding [new, ov, iv] (setItem ov iv new); release [new, ov, iv] []; pure .next) := by intros; rfl) : DS X G W (.AugAssign (.Subscript o e2 tpos) op e pos) (sAugP I i fp fk g f) := by
  obtain ⟨te, pe, se⟩ := he.ex
  obtain ⟨to, po, so⟩ := ho.ex
  obtain ⟨tk, pk, sk⟩ := hk.ex
  refine ⟨_, ps_augS po pk get_list pe hop set_list ha, fun ρ R B H σ δ a F Z w os q => ?_⟩
  unfold sAugP at q
  cases c0 : δ[i]? with
  | none =>
    rw [c0] at q
    exact q.elim
  | some o0 =>
    rw [c0] at q
    cases o0 with
    | none => exact q.elim
    | some mo =>
      dsimp only at q
      cases c1 : fp δ with
      | none =>
        rw [c1] at q
        exact q.elim
      | some js =>
        rw [c1] at q
        dsimp only at q
        cases c2 : focL js mo with
        | none =>
          rw [c2] at q
          exact q.elim
        | some ms =>
          rw [c2] at q
          dsimp only at q
          cases c3 : fk δ with
          | none =>
            rw [c3] at q
            exact q.elim
          | some k =>
            rw [c3] at q
            dsimp only at q
            cases c4 : ixN ms.length k with
            | none =>
              rw [c4] at q
              exact q.elim
            | some j =>
              rw [c4] at q
              dsimp only at q
              cases c5 : ms[j]? with
              | none =>
                rw [c5] at q
                exact q.elim
              | some m0 =>
                rw [c5] at q
                dsimp only at q
                cases c6 : intM m0 with
                | none =>
                  rw [c6] at q
                  exact q.elim
                | some x =>
                  rw [c6] at q
                  dsimp only at q
                  obtain ⟨v0, Fi, Fr', pf, h0, o0, os2⟩ := OwnS.take os c0
                  obtain ⟨pp, xs, Fm, Fr, g1, g2, g3, g4, g5⟩ := Own.foc o0 c2
                  obtain ⟨xv, F5, Fr5, d1, d2, _, _⟩ := Owns.split g3 c5
                  have hx := intM_own c6 d2
                  subst hx
                  have hj : ixN xs.length k = some j := by
                    rw [← g3.len]
                    exact c4
                  refine so ρ B H σ δ F js v0 pp _ os c1 h0 g1 (sk ρ B H σ δ F k _ os c3 ⟨pp, xs, k, .int x, rfl, rfl, SqL.of g2, ?_, ?_⟩)
                  · unfold L2.atI
                    rw [hj]
                    exact d1
                  · refine hid_ok se w pf os2 q fun m δ1 a1 B1 H1 v F1 Fa w1 sm om os1 kp q1 => ?_
                    cases c7 : intM m with
                    | none =>
                      rw [c7] at q1
                      exact q1.elim
                    | some y =>
                      rw [c7] at q1
                      dsimp only at q1
                      by_cases c8 : i < δ1.length
                      · rw [if_pos c8] at q1
                        have hy := intM_own c7 om
                        subst hy
                        refine ⟨x, y, rfl, rfl, ?_⟩
                        have inI : ∀ q, q = pp ∨ q ∈ Fm → q ∈ Fi := fun q hq => g4.mem_iff.mpr (hq.elim (fun z => z ▸ List.mem_cons_self) fun z => List.mem_cons_of_mem _ (List.mem_append_left _ z))
                        have hp1 : H1 pp = some (.lst xs) := (kp pp (inI pp (.inl rfl))).trans g2
                        refine ⟨pp, xs, k, j, rfl, rfl, hp1, hj, ?_⟩
                        have ne := apart_at w1 g4
                        have ow0 : Owns G B1 (upd H1 pp (.lst (xs.set j (.int (g x y))))) ρ ms xs Fm := Owns.mono sm ms xs Fm (fun q hq => (upd_ne (ne q (.inr (.inr (.inl hq))))).trans (kp q (inI q (.inr hq)))) g3
                        have hjl : j < ms.length := (List.getElem?_eq_some_iff.mp c5).1
                        obtain ⟨Fo, F', p5, ow⟩ := Owns.setAt (m := .val (.int (g x y))) (v := .int (g x y)) (F1 := []) ⟨rfl, rfl⟩ ow0 hjl
                        obtain ⟨F3, w3, h3, k3⟩ := rewrite_at w1 sm os1 h0 c8 kp g4 g5 ⟨Fo ++ F1, by
                          refine List.perm_iff_count.mpr fun x => ?_
                          have e1 := List.perm_iff_count.mp p5 x
                          simp only [List.count_append, List.count_nil] at *
                          omega⟩ ow
                        exact q1 B1 _ σ F3 w3 (Same.refl _) k3 h3
                      · rw [if_neg c8] at q1
                        exact q1.elim
end
def sFz (I : List Nat) (f : SM) : SM := fun δ a => f (frz I 0 δ) a
theorem ds_fz {X : Cx} {G : Gx} {W : WX} {st : Stmt} {f : SM} (I : List Nat) (h : DS X G W st f) : DS X G W st (sFz I f) := by
  obtain ⟨t, p, s⟩ := h.ex
  refine ⟨t, p, fun ρ R B H σ δ a F D w os q => ?_⟩
  obtain ⟨Fv, Fh, sn⟩ := seen I δ 0 σ F os
  have so := sn.sameOv w
  exact s ρ R (ov B H Fv) H σ (frz I 0 δ) a Fh D (sn.start w) (sn.fz _ H so (fun p hp => ov_in hp) fun _ _ => rfl) (FinS.base q so Kp.refl)
end DL
namespace HX
open PySem PySem.Spec PyProof.Rows L2
end HX
namespace DL
open PySem PySem.Spec PyProof.Rows L2
section
variable {δ : Sw} {a : Sto}
@[simp] theorem x_lcM (vs : List Nat) (it : EI) (gt : D → Sw → Option Sw) (ft : ET) (fe : EM) : lcM vs it gt ft fe δ a = (it δ a).bind fun ds a1 => (lcGo gt ft fe (wipeD δ vs) ds [] a1).map M.lst := rfl
@[simp] theorem x_iEn (f : EA) : iEn f δ a = (f δ a).opt gEn := rfl
@[simp] theorem x_iZp (f : EA) : iZp f δ a = (f δ a).opt gZp := rfl
@[simp] theorem x_bmV (g : Str → List D → Option New) (f : EV) (l : EA) : bmV g f l δ a = (f δ a).bind fun o a1 => match o with
  | .str s => (l δ a1).bind fun ds a2 => newV a2 (g s ds)
  | _ => .stuck := by
  unfold bmV
  congr
@[simp] theorem x_bmM (g : Str → List D → Option New) (f : EV) (l : EA) : bmM g f l δ a = (f δ a).bind fun o a1 => match o with
  | .str s => (l δ a1).bind fun ds a2 => newM a2 (g s ds)
  | _ => .stuck := by
  unfold bmM
  congr
@[simp] theorem x_eJoi (g : EJ) : eJoi g δ a = (g Str.empty δ a).opt fun d => match d with
  | .str y => some (.str y)
  | _ => none := rfl
@[simp] theorem x_jNil (acc : Str) : jNil acc δ a = .ok (.str acc) a := rfl
@[simp] theorem tT_e : tT δ a = .ok true a := rfl
@[simp] theorem gNm_e (i : Nat) (d : D) : gNm i d δ = some (δ.set i (some d)) := rfl
@[simp] theorem gxNil_e : gxNil [] δ = some δ := rfl
@[simp] theorem gxCons_e (g : D → Sw → Option Sw) (gs : List D → Sw → Option Sw) (d : D) (r : List D) : gxCons g gs (d :: r) δ = (g d δ).bind (gs r) := by
  unfold gxCons
  dsimp only
  cases g d δ <;> rfl
@[simp] theorem gxTup_e (n : Nat) (gs : List D → Sw → Option Sw) (l : List D) : gxTup n gs (.tup l) δ = if l.length = n then gs l δ else none := rfl
end
section
variable {δ : SlM} {a : Sto}
@[simp] theorem gTp_e (n : Nat) (gs : List D → SlM → Option SlM) (l : List D) : gTp n gs (.tup l) δ = if l.length = n then gs l δ else none := rfl
@[simp] theorem gsNil_e : gsNil [] δ = some δ := rfl
end
def St4 (a : Sto) : Prop := ∃ p q u v : Int, a = [.nums [p, q, u, v]]
theorem St4.mk (p q u v : Int) : St4 [.nums [p, q, u, v]] := ⟨p, q, u, v, rfl⟩
theorem draw4 (ns : List Int) {lim : Int} (h : 0 < lim) (h2 : lim < 18446744073709551616) {a : Sto} (ha : St4 a) : ∃ (r : Int) (a' : Sto), 0 ≤ r ∧ r < lim ∧ f_draw [.scr ns, .loc 0, .int lim] a = .ok (.val (.int r)) a' ∧ St4 a' := by
  obtain ⟨p, q, u, v, rfl⟩ := ha
  obtain ⟨r, a', b', c', d', h0, h1, e⟩ := draw_ok ns h h2 p q u v
  exact ⟨r, _, h0, h1, e, St4.mk _ _ _ _⟩
theorem clA_st {a : Sto} (h : St4 a) (k : Kd) : clA k a = true := by
  obtain ⟨p, q, u, v, rfl⟩ := h
  rfl
end DL
namespace DL
open PySem PySem.Spec PyProof.Rows L2
section
variable {a : Sto} {c : Nat} {ns : List Str} {ds : List D} {x y : Cell}
def Fresh (a : Sto) : Prop := noLocA a.length a = true
theorem St4.fresh {a : Sto} (h : St4 a) : Fresh a := by
  obtain ⟨p, q, u, v, rfl⟩ := h
  rfl
end
end DL
namespace DL
open PySem PySem.Spec PyProof.Rows L2
inductive Fl (ν κ : Type) where
  | nx (s : ν) (a : Sto)
  | rt (m : M) (a : Sto)
  | bk (k : κ) (a : Sto)
  | ct (k : κ) (a : Sto)
  | exc (c : Nat) (ns : List Str) (ds : List D) (a : Sto)
  | stuck
abbrev Fw (ν κ : Type) := Sto → Fl ν κ
inductive Fit : SlM → SlM → Prop where
  | nil : Fit [] []
  | any {S δ : SlM} {o : Option M} : Fit S δ → Fit (none :: S) (o :: δ)
  | is {S δ : SlM} {m : M} : Fit S δ → Fit (some m :: S) (some m :: δ)
inductive FitD : Sw → Sw → Prop where
  | nil : FitD [] []
  | any {S δ : Sw} {o : Option D} : FitD S δ → FitD (none :: S) (o :: δ)
  | is {S δ : Sw} {m : D} : FitD S δ → FitD (some m :: S) (some m :: δ)
theorem Fit.refl : ∀ S : SlM, Fit S S
  | [] => .nil
  | none :: S => .any (Fit.refl S)
  | some m :: S => .is (Fit.refl S)
theorem Fit.trans : ∀ {A B C : SlM}, Fit A B → Fit B C → Fit A C
  | _, _, _, .nil, .nil => .nil
  | _, _, _, .any h, .any k => .any (Fit.trans h k)
  | _, _, _, .any h, .is k => .any (Fit.trans h k)
  | _, _, _, .is h, .is k => .is (Fit.trans h k)
theorem Fit.len : ∀ {S δ : SlM}, Fit S δ → δ.length = S.length
  | _, _, .nil => rfl
  | _, _, .any h => by rw [List.length_cons, List.length_cons, h.len]
  | _, _, .is h => by rw [List.length_cons, List.length_cons, h.len]
theorem Fit.get : ∀ {S δ : SlM} {i : Nat} {m : M}, Fit S δ → S[i]? = some (some m) → δ[i]? = some (some m)
  | _, _, i, m, .nil, e => by simp at e
  | _, _, 0, m, .any h, e => by simp at e
  | _, _, 0, m, .is h, e => by simpa using e
  | _, _, i + 1, m, .any h, e => by
    have := Fit.get (i := i) h (by simpa using e)
    simpa using this
  | _, _, i + 1, m, .is h, e => by
    have := Fit.get (i := i) h (by simpa using e)
    simpa using this
theorem FitD.get : ∀ {S δ : Sw} {i : Nat} {m : D}, FitD S δ → S[i]? = some (some m) → δ[i]? = some (some m)
  | _, _, i, m, .nil, e => by simp at e
  | _, _, 0, m, .any h, e => by simp at e
  | _, _, 0, m, .is h, e => by simpa using e
  | _, _, i + 1, m, .any h, e => by
    have := FitD.get (i := i) h (by simpa using e)
    simpa using this
  | _, _, i + 1, m, .is h, e => by
    have := FitD.get (i := i) h (by simpa using e)
    simpa using this
theorem Fit.set : ∀ {S δ : SlM} (i : Nat) (o : Option M), Fit S δ → Fit (S.set i o) (δ.set i o)
  | _, _, i, o, .nil => .nil
  | _, _, 0, none, .any h => .any h
  | _, _, 0, some m, .any h => .is h
  | _, _, 0, none, .is h => .any h
  | _, _, 0, some m, .is h => .is h
  | _, _, i + 1, o, .any h => .any (Fit.set i o h)
  | _, _, i + 1, o, .is h => .is (Fit.set i o h)
theorem FitD.set : ∀ {S δ : Sw} (i : Nat) (o : Option D), FitD S δ → FitD (S.set i o) (δ.set i o)
  | _, _, i, o, .nil => .nil
  | _, _, 0, none, .any h => .any h
  | _, _, 0, some m, .any h => .is h
  | _, _, 0, none, .is h => .any h
  | _, _, 0, some m, .is h => .is h
  | _, _, i + 1, o, .any h => .any (FitD.set i o h)
  | _, _, i + 1, o, .is h => .is (FitD.set i o h)
theorem FitD.wipe {S δ : Sw} (h : FitD S δ) : ∀ vs, FitD (wipeD S vs) (wipeD δ vs)
  | [] => h
  | v :: vs => FitD.set v none (FitD.wipe h vs)
theorem Fit.see {I : List Nat} : ∀ {S δ : SlM} {n : Nat}, Fit S δ → FitD (see I n S) (see I n δ)
  | _, _, n, .nil => .nil
  | _, _, n, .any (o := o) h => by
    have k := Fit.see (I := I) (n := n + 1) h
    cases o with
    | none => exact .any k
    | some m =>
      cases m with
      | pin _ m0 => cases m0 <;> exact .any k
      | _ => exact .any k
  | _, _, n, .is (m := m) h => by
    have k := Fit.see (I := I) (n := n + 1) h
    cases m with
    | val d => exact .is k
    | lst l =>
      show FitD ((if n ∈ I then some (freeze (.lst l)) else none) :: _) ((if n ∈ I then some (freeze (.lst l)) else none) :: _)
      split
      · exact .is k
      · exact .any k
    | tup l =>
      show FitD ((if n ∈ I then some (freeze (.tup l)) else none) :: _) ((if n ∈ I then some (freeze (.tup l)) else none) :: _)
      split
      · exact .is k
      · exact .any k
    | obj c ns l =>
      show FitD ((if n ∈ I then some (freeze (.obj c ns l)) else none) :: _) ((if n ∈ I then some (freeze (.obj c ns l)) else none) :: _)
      split
      · exact .is k
      · exact .any k
    | pin k0 m0 =>
      cases m0 with
      | val d => exact .is k
      | lst l =>
        show FitD ((if n ∈ I then some (freeze (.pin k0 (.lst l))) else none) :: _) ((if n ∈ I then some (freeze (.pin k0 (.lst l))) else none) :: _)
        split
        · exact .is k
        · exact .any k
      | tup l =>
        show FitD ((if n ∈ I then some (freeze (.pin k0 (.tup l))) else none) :: _) ((if n ∈ I then some (freeze (.pin k0 (.tup l))) else none) :: _)
        split
        · exact .is k
        · exact .any k
      | obj c ns l =>
        show FitD ((if n ∈ I then some (freeze (.pin k0 (.obj c ns l))) else none) :: _) ((if n ∈ I then some (freeze (.pin k0 (.obj c ns l))) else none) :: _)
        split
        · exact .is k
        · exact .any k
      | pin k1 m1 =>
        show FitD ((if n ∈ I then some (freeze (.pin k0 (.pin k1 m1))) else none) :: _) ((if n ∈ I then some (freeze (.pin k0 (.pin k1 m1))) else none) :: _)
        split
        · exact .is k
        · exact .any k
theorem Fit.frz {I : List Nat} : ∀ {S δ : SlM} {n : Nat}, Fit S δ → Fit (frz I n S) (frz I n δ)
  | _, _, n, .nil => .nil
  | _, _, n, .any (o := o) h => by
    have k := Fit.frz (I := I) (n := n + 1) h
    cases o with
    | none => exact .any k
    | some m =>
      cases m with
      | pin _ m0 => cases m0 <;> exact .any k
      | _ => exact .any k
  | _, _, n, .is (m := m) h => by
    have k := Fit.frz (I := I) (n := n + 1) h
    cases m with
    | val d => exact .is k
    | lst l =>
      unfold DL.frz
      split <;> exact .is k
    | tup l =>
      unfold DL.frz
      split <;> exact .is k
    | obj c ns l =>
      unfold DL.frz
      split <;> exact .is k
    | pin k0 m0 =>
      cases m0 with
      | val d => exact .is k
      | _ =>
        unfold DL.frz
        split <;> exact .is k
def knows (I : List Nat) : Nat → SlM → Bool
  | _, [] => true
  | n, none :: r => !decide (n ∈ I) && knows I (n + 1) r
  | n, some _ :: r => knows I (n + 1) r
theorem Fit.kin {I : List Nat} : ∀ {S δ : SlM} {n : Nat}, Fit S δ → knows I n S = true → kin I n δ = kin I n S
  | _, _, n, .nil, _ => rfl
  | _, _, n, .any (S := S) (δ := δ) (o := o) h, e => by
    have e' : (!decide (n ∈ I) && knows I (n + 1) S) = true := e
    obtain ⟨e1, e2⟩ := Bool.and_eq_true_iff.mp e'
    have hn : n ∉ I := by simpa using e1
    have k := Fit.kin (I := I) (n := n + 1) h e2
    cases o with
    | none => exact k
    | some m =>
      cases m with
      | val d => exact k
      | lst l =>
        show (if n ∈ I then _ else DL.kin I (n + 1) δ) = DL.kin I (n + 1) S
        rw [if_neg hn, k]
      | tup l =>
        show (if n ∈ I then _ else DL.kin I (n + 1) δ) = DL.kin I (n + 1) S
        rw [if_neg hn, k]
      | obj c ns l =>
        show (if n ∈ I then _ else DL.kin I (n + 1) δ) = DL.kin I (n + 1) S
        rw [if_neg hn, k]
      | pin k0 m0 =>
        cases m0 with
        | val d => exact k
        | lst l =>
          show (if n ∈ I then _ else DL.kin I (n + 1) δ) = DL.kin I (n + 1) S
          rw [if_neg hn, k]
        | tup l =>
          show (if n ∈ I then _ else DL.kin I (n + 1) δ) = DL.kin I (n + 1) S
          rw [if_neg hn, k]
        | obj c ns l =>
          show (if n ∈ I then _ else DL.kin I (n + 1) δ) = DL.kin I (n + 1) S
          rw [if_neg hn, k]
        | pin k1 m1 =>
          show (if n ∈ I then _ else DL.kin I (n + 1) δ) = DL.kin I (n + 1) S
          rw [if_neg hn, k]
  | _, _, n, .is (S := S) (δ := δ) (m := m) h, e => by
    have k := Fit.kin (I := I) (n := n + 1) h e
    cases m with
    | val d => exact k
    | lst l =>
      show (if n ∈ I then Kd.or (kdM (.lst l)) (DL.kin I (n + 1) δ) else DL.kin I (n + 1) δ) = (if n ∈ I then Kd.or (kdM (.lst l)) (DL.kin I (n + 1) S) else DL.kin I (n + 1) S)
      rw [k]
    | tup l =>
      show (if n ∈ I then Kd.or (kdM (.tup l)) (DL.kin I (n + 1) δ) else DL.kin I (n + 1) δ) = (if n ∈ I then Kd.or (kdM (.tup l)) (DL.kin I (n + 1) S) else DL.kin I (n + 1) S)
      rw [k]
    | obj c ns l =>
      show (if n ∈ I then Kd.or (kdM (.obj c ns l)) (DL.kin I (n + 1) δ) else DL.kin I (n + 1) δ) = (if n ∈ I then Kd.or (kdM (.obj c ns l)) (DL.kin I (n + 1) S) else DL.kin I (n + 1) S)
      rw [k]
    | pin k0 m0 =>
      cases m0 with
      | val d => exact k
      | lst l =>
        show (if n ∈ I then Kd.or (kdM (.pin k0 (.lst l))) (DL.kin I (n + 1) δ) else DL.kin I (n + 1) δ) = (if n ∈ I then Kd.or (kdM (.pin k0 (.lst l))) (DL.kin I (n + 1) S) else DL.kin I (n + 1) S)
        rw [k]
      | tup l =>
        show (if n ∈ I then Kd.or (kdM (.pin k0 (.tup l))) (DL.kin I (n + 1) δ) else DL.kin I (n + 1) δ) = (if n ∈ I then Kd.or (kdM (.pin k0 (.tup l))) (DL.kin I (n + 1) S) else DL.kin I (n + 1) S)
        rw [k]
      | obj c ns l =>
        show (if n ∈ I then Kd.or (kdM (.pin k0 (.obj c ns l))) (DL.kin I (n + 1) δ) else DL.kin I (n + 1) δ) = (if n ∈ I then Kd.or (kdM (.pin k0 (.obj c ns l))) (DL.kin I (n + 1) S) else DL.kin I (n + 1) S)
        rw [k]
      | pin k1 m1 =>
        show (if n ∈ I then Kd.or (kdM (.pin k0 (.pin k1 m1))) (DL.kin I (n + 1) δ) else DL.kin I (n + 1) δ) = (if n ∈ I then Kd.or (kdM (.pin k0 (.pin k1 m1))) (DL.kin I (n + 1) S) else DL.kin I (n + 1) S)
        rw [k]
def Ev1 {β : Type} (g : Sw → Sto → Out β) (T : Sw) (g' : Sw → Sto → Out β) : Prop := ∀ w a, FitD T w → g w a = g' [] a
theorem Ev1.at {β : Type} {g g' : Sw → Sto → Out β} {T : Sw} (h : Ev1 g T g') {w : Sw} (f : FitD T w) : g w = g' [] := funext fun a => h w a f
section
variable {T : Sw}
theorem ev_var {i : Nat} {d : D} (h : T[i]? = some (some d)) : Ev1 (eVar i) T (eC d) := fun w a f => by
  show (match w[i]? with | some (some d) => Out.ok d a | _ => .stuck) = _
  rw [f.get h]
  rfl
theorem ev_c {d : D} : Ev1 (eC d) T (eC d) := fun _ _ _ => rfl
theorem ev_ev1 {h : D → Option D} {f f' : EV} (h1 : Ev1 f T f') : Ev1 (ev1 h f) T (ev1 h f') := fun w a k => by unfold ev1; rw [h1.at k]
theorem ev_ev2 {h : D → D → Option D} {f f' g g' : EV} (h1 : Ev1 f T f') (h2 : Ev1 g T g') : Ev1 (ev2 h f g) T (ev2 h f' g') := fun w a k => by unfold ev2; rw [h1.at k, h2.at k]
theorem ev_vNw {h : D → D → Option New} {f f' g g' : EV} (h1 : Ev1 f T f') (h2 : Ev1 g T g') : Ev1 (vNw h f g) T (vNw h f' g') := fun w a k => by unfold vNw; rw [h1.at k, h2.at k]
theorem ev_vS {h : Sto → D → D → Option New} {f f' g g' : EV} (h1 : Ev1 f T f') (h2 : Ev1 g T g') : Ev1 (vS h f g) T (vS h f' g') := fun w a k => by unfold vS; rw [h1.at k, h2.at k]
theorem ev_mV {f f' : EV} (h1 : Ev1 f T f') : Ev1 (mV f) T (mV f') := fun w a k => by unfold mV; rw [h1.at k]
theorem ev_vM {f f' : EM} (h1 : Ev1 f T f') : Ev1 (vM f) T (vM f') := fun w a k => by unfold vM; rw [h1.at k]
theorem ev_tV {f f' : EV} (h1 : Ev1 f T f') : Ev1 (tV f) T (tV f') := fun w a k => by unfold tV; rw [h1.at k]
theorem ev_tN {f f' : ET} (h1 : Ev1 f T f') : Ev1 (tN f) T (tN f') := fun w a k => by unfold tN; rw [h1.at k]
theorem ev_tAn {f f' g g' : ET} (h1 : Ev1 f T f') (h2 : Ev1 g T g') : Ev1 (tAn f g) T (tAn f' g') := fun w a k => by unfold tAn; rw [h1.at k, h2.at k]
theorem ev_tOn {f f' g g' : ET} (h1 : Ev1 f T f') (h2 : Ev1 g T g') : Ev1 (tOn f g) T (tOn f' g') := fun w a k => by unfold tOn; rw [h1.at k, h2.at k]
theorem ev_vAn {f f' g g' : EV} (h1 : Ev1 f T f') (h2 : Ev1 g T g') : Ev1 (vAn f g) T (vAn f' g') := fun w a k => by unfold vAn; rw [h1.at k, h2.at k]
theorem ev_vN {f f' : EV} (h1 : Ev1 f T f') : Ev1 (vN f) T (vN f') := fun w a k => by unfold vN; rw [h1.at k]
theorem ev_eIf {t t' : ET} {f f' g g' : EM} (h0 : Ev1 t T t') (h1 : Ev1 f T f') (h2 : Ev1 g T g') : Ev1 (eIf t f g) T (eIf t' f' g') := fun w a k => by unfold eIf; rw [h0.at k, h1.at k, h2.at k]
theorem ev_aNil : Ev1 aNil T aNil := fun _ _ _ => rfl
theorem ev_aCons {f f' : EV} {g g' : EA} (h1 : Ev1 f T f') (h2 : Ev1 g T g') : Ev1 (aCons f g) T (aCons f' g') := fun w a k => by unfold aCons; rw [h1.at k, h2.at k]
theorem ev_lNil : Ev1 lNil T lNil := fun _ _ _ => rfl
theorem ev_lCons {f f' : EM} {g g' : EL} (h1 : Ev1 f T f') (h2 : Ev1 g T g') : Ev1 (lCons f g) T (lCons f' g') := fun w a k => by unfold lCons; rw [h1.at k, h2.at k]
theorem ev_mLst {f f' : EL} (h1 : Ev1 f T f') : Ev1 (mLst f) T (mLst f') := fun w a k => by unfold mLst; rw [h1.at k]
theorem ev_mTup {f f' : EL} (h1 : Ev1 f T f') : Ev1 (mTup f) T (mTup f') := fun w a k => by unfold mTup; rw [h1.at k]
theorem ev_cN {h : Sto → List D → Option New} {f f' : EA} (h1 : Ev1 f T f') : Ev1 (cN h f) T (cN h f') := fun w a k => by unfold cN; rw [h1.at k]
theorem ev_cV {h : Sto → List D → Option New} {f f' : EA} (h1 : Ev1 f T f') : Ev1 (cV h f) T (cV h f') := fun w a k => by unfold cV; rw [h1.at k]
theorem ev_callM {n : Nat} {h : FM} {f f' : EA} (h1 : Ev1 f T f') : Ev1 (callM n h f) T (callM n h f') := fun w a k => by unfold callM; rw [h1.at k]
theorem ev_oNo : Ev1 oNo T oNo := fun _ _ _ => rfl
theorem ev_oSome {f f' : EV} (h1 : Ev1 f T f') : Ev1 (oSome f) T (oSome f') := fun w a k => by unfold oSome; rw [h1.at k]
theorem ev_slN {f f' : EV} {g g' h h' : EO} (h1 : Ev1 f T f') (h2 : Ev1 g T g') (h3 : Ev1 h T h') : Ev1 (slN f g h) T (slN f' g' h') := fun w a k => by unfold slN; rw [h1.at k, h2.at k, h3.at k]
theorem ev_excM {c : Nat} {fs : List Str} {f f' : EA} (h1 : Ev1 f T f') : Ev1 (excM c fs f) T (excM c fs f') := fun w a k => by unfold excM; rw [h1.at k]
theorem ev_iSeq {f f' : EV} (h1 : Ev1 f T f') : Ev1 (iSeq f) T (iSeq f') := fun w a k => by unfold iSeq; rw [h1.at k]
theorem ev_iR1 {f f' : EA} (h1 : Ev1 f T f') : Ev1 (DL.iRng1 f) T (DL.iRng1 f') := fun w a k => by unfold DL.iRng1; rw [h1.at k]
theorem ev_iEn {f f' : EA} (h1 : Ev1 f T f') : Ev1 (iEn f) T (iEn f') := fun w a k => by unfold iEn; rw [h1.at k]
theorem ev_tT : Ev1 tT T tT := fun _ _ _ => rfl
end
section
variable {β : Type}
def lcDo (gd : D → Option β) (p : β → ET) (f : β → EM) : List D → List M → Sto → Out (List M)
  | [], acc, a => .ok acc a
  | d :: ds, acc, a => match gd d with
    | none => .stuck
    | some b => (match p b [] a with
      | .ok true a1 => (match f b [] a1 with
        | .ok m a2 => if acc.length < 100000 then lcDo gd p f ds (acc ++ [m]) a2 else .stuck
        | _ => .stuck)
      | .ok false a1 => lcDo gd p f ds acc a1
      | _ => .stuck)
def lcD (it : EI) (gd : D → Option β) (p : β → ET) (f : β → EM) : EM := fun δ a => (it δ a).bind fun ds a1 => (lcDo gd p f ds [] a1).map M.lst
theorem lcDo_is {gt : D → Sw → Option Sw} {ft : ET} {fe : EM} {gd : D → Option β} {p : β → ET} {f : β → EM} {T : Sw} {Tb : β → Sw}
    (hg : ∀ d w, FitD T w → (match gd d with | none => gt d w = none | some b => ∃ w1, gt d w = some w1 ∧ FitD (Tb b) w1)) (hp : ∀ b, Ev1 ft (Tb b) (p b)) (hf : ∀ b, Ev1 fe (Tb b) (f b)) {w : Sw} (h : FitD T w) :
    ∀ (ds : List D) (acc : List M) (a : Sto), lcGo gt ft fe w ds acc a = lcDo gd p f ds acc a
  | [], _, _ => rfl
  | d :: ds, acc, a => by
    have z := hg d w h
    unfold lcGo lcDo
    cases e : gd d with
    | none =>
      rw [e] at z
      dsimp only at z
      rw [z]
    | some b =>
      rw [e] at z
      obtain ⟨w1, e1, f1⟩ := z
      rw [e1]
      dsimp only
      rw [hp b w1 a f1]
      cases p b [] a with
      | ok c a1 =>
        cases c with
        | true =>
          dsimp only
          rw [hf b w1 a1 f1]
          cases f b [] a1 with
          | ok m a2 =>
            dsimp only
            rw [lcDo_is hg hp hf h ds _ a2]
          | _ => rfl
        | false =>
          dsimp only
          rw [lcDo_is hg hp hf h ds acc a1]
      | _ => rfl
theorem ev_lcM {T : Sw} {vs : List Nat} {it it' : EI} {gt : D → Sw → Option Sw} {ft : ET} {fe : EM} {gd : D → Option β} {p : β → ET} {f : β → EM} {Tb : β → Sw} (hi : Ev1 it T it')
    (hg : ∀ d w, FitD (wipeD T vs) w → (match gd d with | none => gt d w = none | some b => ∃ w1, gt d w = some w1 ∧ FitD (Tb b) w1)) (hp : ∀ b, Ev1 ft (Tb b) (p b)) (hf : ∀ b, Ev1 fe (Tb b) (f b)) : Ev1 (lcM vs it gt ft fe) T (lcD it' gd p f) := fun w a k => by
  unfold lcM lcD
  rw [hi.at k]
  congr
  funext ds a1
  rw [lcDo_is hg hp hf (k.wipe vs) ds [] a1]
end
def g1 (d : D) : Option D := some d
def g2 : D → Option (D × D)
  | .tup [x, y] => some (x, y)
  | _ => none
def g3 : D → Option (D × D × D)
  | .tup [x, y, z] => some (x, y, z)
  | _ => none
theorem gx_1 {T : Sw} (i : Nat) : ∀ d w, FitD T w → (match g1 d with | none => gNm i d w = none | some b => ∃ w1, gNm i d w = some w1 ∧ FitD (T.set i (some b)) w1) := fun d w h => ⟨_, rfl, h.set i (some d)⟩
theorem gx_2 {T : Sw} (i j : Nat) : ∀ d w, FitD T w → (match g2 d with | none => gxTup 2 (gxCons (gNm i) (gxCons (gNm j) gxNil)) d w = none | some b => ∃ w1, gxTup 2 (gxCons (gNm i) (gxCons (gNm j) gxNil)) d w = some w1 ∧ FitD ((T.set i (some b.1)).set j (some b.2)) w1) := fun d w h => by
  cases d with
  | tup l =>
    match l with
    | [] => rfl
    | [_] => rfl
    | [x, y] => exact ⟨_, rfl, (h.set i _).set j _⟩
    | _ :: _ :: _ :: r =>
      show gxTup 2 _ (.tup (_ :: _ :: _ :: r)) w = none
      rw [gxTup_e, if_neg (by simp)]
  | _ => rfl
end DL
namespace DL
open PySem PySem.Spec PyProof.Rows L2
def FitO : Option SlM → SlM → Prop
  | none, _ => True
  | some E, δ => Fit E δ
theorem FitO.trans : ∀ {E : Option SlM} {S δ : SlM}, FitO E S → Fit S δ → FitO E δ
  | none, _, _, _, _ => trivial
  | some _, _, _, h, k => Fit.trans h k
section
variable {ν κ ν' : Type}
def SR (N : ν → SlM) (K : κ → SlM) (E : Option SlM) : Fl ν κ → OutS → Prop
  | .nx s a, o => ∃ δ, o = .nx δ a ∧ Fit (N s) δ
  | .rt m a, o => o = .rt m a
  | .bk k a, o => ∃ δ, o = .bk δ a ∧ Fit (K k) δ
  | .ct k a, o => ∃ δ, o = .ct δ a ∧ Fit (K k) δ
  | .exc c ns ds a, o => ∃ δ, o = .exc c ns ds δ a ∧ FitO E δ
  | .stuck, _ => True
def Si (N : ν → SlM) (K : κ → SlM) (E : Option SlM) (m : SM) (S : SlM) (f : Fw ν κ) : Prop := ∀ δ a, Fit S δ → SR N K E (f a) (m δ a)
def Fl.thn (o : Fl ν κ) (t : ν → Fw ν' κ) : Fl ν' κ := match o with
  | .nx s a => t s a
  | .rt m a => .rt m a
  | .bk k a => .bk k a
  | .ct k a => .ct k a
  | .exc c ns ds a => .exc c ns ds a
  | .stuck => .stuck
def thn (f : Fw ν κ) (t : ν → Fw ν' κ) : Fw ν' κ := fun a => (f a).thn t
@[simp] theorem x_thn (f : Fw ν κ) (t : ν → Fw ν' κ) (a : Sto) : thn f t a = (f a).thn t := rfl
@[simp] theorem thn_nx (s : ν) (a : Sto) (t : ν → Fw ν' κ) : (Fl.nx s a : Fl ν κ).thn t = t s a := rfl
@[simp] theorem thn_rt (m : M) (a : Sto) (t : ν → Fw ν' κ) : (Fl.rt m a : Fl ν κ).thn t = .rt m a := rfl
@[simp] theorem thn_bk (k : κ) (a : Sto) (t : ν → Fw ν' κ) : (Fl.bk k a : Fl ν κ).thn t = .bk k a := rfl
@[simp] theorem thn_ct (k : κ) (a : Sto) (t : ν → Fw ν' κ) : (Fl.ct k a : Fl ν κ).thn t = .ct k a := rfl
@[simp] theorem thn_exc (c : Nat) (ns : List Str) (ds : List D) (a : Sto) (t : ν → Fw ν' κ) : (Fl.exc c ns ds a : Fl ν κ).thn t = .exc c ns ds a := rfl
@[simp] theorem thn_stuck (t : ν → Fw ν' κ) : (Fl.stuck : Fl ν κ).thn t = .stuck := rfl
variable {N : ν → SlM} {K : κ → SlM} {E : Option SlM} {S : SlM}
theorem si_seq {N1 : ν → SlM} {N2 : ν' → SlM} {m1 m2 : SM} {f : Fw ν κ} {t : ν → Fw ν' κ} (h : Si N1 K E m1 S f) (k : ∀ s, Si N2 K E m2 (N1 s) (t s)) : Si N2 K E (sSeq m1 m2) S (thn f t) := fun δ a fit => by
  have z := h δ a fit
  show SR N2 K E ((f a).thn t) ((m1 δ a).seq m2)
  cases e : f a with
  | nx s a1 =>
    rw [e] at z
    obtain ⟨δ1, e1, f1⟩ := z
    rw [e1]
    exact k s δ1 a1 f1
  | rt m a1 =>
    rw [e] at z
    have z' : m1 δ a = .rt m a1 := z
    rw [z']
    exact rfl
  | bk q a1 =>
    rw [e] at z
    obtain ⟨δ1, e1, f1⟩ := z
    rw [e1]
    exact ⟨δ1, rfl, f1⟩
  | ct q a1 =>
    rw [e] at z
    obtain ⟨δ1, e1, f1⟩ := z
    rw [e1]
    exact ⟨δ1, rfl, f1⟩
  | exc c ns ds a1 =>
    rw [e] at z
    obtain ⟨δ1, e1, f1⟩ := z
    rw [e1]
    exact ⟨δ1, rfl, f1⟩
  | stuck => exact trivial
theorem si_out {N1 : ν → SlM} {N2 : ν' → SlM} {m : SM} {f : Fw ν κ} (g : ν → ν') (h : Si N1 K E m S f) (k : ∀ s, Fit (N2 (g s)) (N1 s)) : Si N2 K E m S (thn f fun s a => .nx (g s) a) := fun δ a fit => by
  have z := h δ a fit
  show SR N2 K E ((f a).thn _) (m δ a)
  cases e : f a with
  | nx s a1 =>
    rw [e] at z
    obtain ⟨δ1, e1, f1⟩ := z
    exact ⟨δ1, e1, (k s).trans f1⟩
  | rt m a1 =>
    rw [e] at z
    exact z
  | bk q a1 =>
    rw [e] at z
    exact z
  | ct q a1 =>
    rw [e] at z
    exact z
  | exc c ns ds a1 =>
    rw [e] at z
    exact z
  | stuck => exact trivial
def nxF (s : ν) : Fw ν κ := fun a => .nx s a
@[simp] theorem x_nxF (s : ν) (a : Sto) : (nxF s : Fw ν κ) a = .nx s a := rfl
theorem si_nil {s : ν} (h : Fit (N s) S) : Si N K E sNil S (nxF s) := fun δ a fit => ⟨δ, rfl, h.trans fit⟩
def bkF (k : κ) : Fw ν κ := fun a => .bk k a
def ctF (k : κ) : Fw ν κ := fun a => .ct k a
@[simp] theorem x_bkF (s : κ) (a : Sto) : (bkF s : Fw ν κ) a = .bk s a := rfl
@[simp] theorem x_ctF (s : κ) (a : Sto) : (ctF s : Fw ν κ) a = .ct s a := rfl
def skF : Fw ν κ := fun _ => .stuck
@[simp] theorem x_skF (a : Sto) : (skF : Fw ν κ) a = .stuck := rfl
theorem lift0 {f f' : EM} (h : Ev1 f (see [] 0 S) f') {δ : SlM} (fit : Fit S δ) (a : Sto) : lift [] f δ a = (match f' [] a with
    | .ok m a' => .ok m δ a'
    | .exc c ns ds a' => .exc c ns ds δ a'
    | .stuck => .stuck) := by
  rw [x_lift, h _ a fit.see]
  cases f' [] a with
  | ok m a' => exact k_ok m
  | exc c ns ds a' => exact k_exc c ns ds
  | stuck => rfl
theorem liftT0 {f f' : ET} (h : Ev1 f (see [] 0 S) f') {δ : SlM} (fit : Fit S δ) (a : Sto) : liftT [] f δ a = (match f' [] a with
    | .ok m a' => .ok m δ a'
    | .exc c ns ds a' => .exc c ns ds δ a'
    | .stuck => .stuck) := by
  rw [x_liftT, h _ a fit.see]
  cases f' [] a with
  | ok m a' => exact kT_ok0 m
  | exc c ns ds a' => exact kT_exc c ns ds
  | stuck => rfl
def Out.fl {β : Type} (o : Out β) (t : β → Fw ν κ) : Fl ν κ := match o with
  | .ok b a => t b a
  | .exc c ns ds a => .exc c ns ds a
  | .stuck => .stuck
@[simp] theorem fl_ok {β : Type} (b : β) (a : Sto) (t : β → Fw ν κ) : (Out.ok b a).fl t = t b a := rfl
@[simp] theorem fl_exc {β : Type} (c : Nat) (ns : List Str) (ds : List D) (a : Sto) (t : β → Fw ν κ) : (Out.exc c ns ds a : Out β).fl t = .exc c ns ds a := rfl
@[simp] theorem fl_stuck {β : Type} (t : β → Fw ν κ) : (Out.stuck : Out β).fl t = .stuck := rfl
def seV (f : EV) : Fw D κ := fun a => (f [] a).fl fun d a' => .nx d a'
@[simp] theorem x_seV (f : EV) (a : Sto) : (seV f : Fw D κ) a = (f [] a).fl fun d a' => .nx d a' := rfl
theorem si_setV {i : Nat} {f f' : EV} (h : Ev1 f (see [] 0 S) f') (hi : i < S.length) (hE : FitO E S) : Si (fun d => S.set i (some (.val d))) K E (sSet i [] (mV f)) S (seV f') := fun δ a fit => by
  show SR _ K E ((f' [] a).fl _) ((lift [] (mV f) δ a).seq (put i))
  rw [lift0 (ev_mV h) fit]
  show SR _ K E ((f' [] a).fl _) (Ox.seq (match (f' [] a).map M.val with
    | .ok m a' => .ok m δ a'
    | .exc c ns ds a' => .exc c ns ds δ a'
    | .stuck => .stuck) (put i))
  cases e : f' [] a with
  | ok d a1 => exact ⟨_, put_e (by rw [fit.len]; exact hi), fit.set i _⟩
  | exc c ns ds a1 => exact ⟨δ, rfl, hE.trans fit⟩
  | stuck => exact trivial
def seL (f : EM) : Fw (List M) κ := fun a => (f [] a).fl fun m a' => match m with
  | .lst ms => .nx ms a'
  | _ => .stuck
@[simp] theorem x_seL (f : EM) (a : Sto) : (seL f : Fw (List M) κ) a = (f [] a).fl fun m a' => match m with
  | .lst ms => .nx ms a'
  | _ => .stuck := rfl
theorem si_setL {i : Nat} {f f' : EM} (h : Ev1 f (see [] 0 S) f') (hi : i < S.length) (hE : FitO E S) : Si (fun ms => S.set i (some (.lst ms))) K E (sSet i [] f) S (seL f') := fun δ a fit => by
  show SR _ K E ((f' [] a).fl _) ((lift [] f δ a).seq (put i))
  rw [lift0 h fit]
  cases e : f' [] a with
  | ok m a1 =>
    cases m with
    | lst ms => exact ⟨_, put_e (by rw [fit.len]; exact hi), fit.set i _⟩
    | _ => exact trivial
  | exc c ns ds a1 => exact ⟨δ, rfl, hE.trans fit⟩
  | stuck => exact trivial
theorem liftg {I : List Nat} {f f' : EM} (h : Ev1 f (see I 0 S) f') (hk : knows I 0 S = true) {δ : SlM} (fit : Fit S δ) (a : Sto) : lift I f δ a = liftK I δ (f' [] a) ∧ kin I 0 δ = kin I 0 S := by
  rw [x_lift, h _ a fit.see]
  exact ⟨rfl, fit.kin hk⟩
def seVg (k : Kd) (f : EV) : Fw D κ := fun a => (f [] a).fl fun d a' => if (cl k d && clA k a') = true then .nx d a' else .stuck
@[simp] theorem x_seVg (k : Kd) (f : EV) (a : Sto) : (seVg k f : Fw D κ) a = (f [] a).fl fun d a' => if (cl k d && clA k a') = true then .nx d a' else .stuck := rfl
theorem fitO_frz {I : List Nat} {δ : SlM} {b : Bool} (h1 : FitO E S) (h2 : FitO E (frz I 0 S)) (fit : Fit S δ) : FitO E (if b = true then δ else frz I 0 δ) := by
  cases b with
  | true => exact h1.trans fit
  | false => exact h2.trans fit.frz
def seLg (k : Kd) (f : EM) : Fw (List M) κ := fun a => (f [] a).fl fun m a' => match m with
  | .lst ms => if (clMs k ms && clA k a') = true then .nx ms a' else .stuck
  | _ => .stuck
@[simp] theorem x_seLg (k : Kd) (f : EM) (a : Sto) : (seLg k f : Fw (List M) κ) a = (f [] a).fl fun m a' => match m with
  | .lst ms => if (clMs k ms && clA k a') = true then .nx ms a' else .stuck
  | _ => .stuck := rfl
theorem si_setLg {i : Nat} {I : List Nat} {f f' : EM} (h : Ev1 f (see I 0 S) f') (hk : knows I 0 S = true) (hi : i < S.length) (hE : FitO E S) (hF : FitO E (frz I 0 S)) : Si (fun ms => S.set i (some (.lst ms))) K E (sSet i I f) S (seLg (kin I 0 S) f') := fun δ a fit => by
  show SR _ K E ((f' [] a).fl _) ((lift I f δ a).seq (put i))
  obtain ⟨e1, e2⟩ := liftg h hk fit a
  rw [e1]
  cases e : f' [] a with
  | ok m a1 =>
    cases m with
    | lst ms =>
      show SR _ K E (if (clMs (kin I 0 S) ms && clA (kin I 0 S) a1) = true then _ else _) (put i (.lst ms) (if (clMs (kin I 0 δ) ms && clA (kin I 0 δ) a1) = true then δ else frz I 0 δ) a1)
      rw [e2]
      by_cases c : (clMs (kin I 0 S) ms && clA (kin I 0 S) a1) = true
      · rw [if_pos c, if_pos c]
        exact ⟨_, put_e (by rw [fit.len]; exact hi), fit.set i _⟩
      · rw [if_neg c]
        exact trivial
    | _ => exact trivial
  | exc c ns ds a1 => exact ⟨_, rfl, fitO_frz hE hF fit⟩
  | stuck => exact trivial
def seU (f : EM) : Fw Unit κ := fun a => (f [] a).fl fun _ a' => .nx () a'
@[simp] theorem x_seU (f : EM) (a : Sto) : (seU f : Fw Unit κ) a = (f [] a).fl fun _ a' => .nx () a' := rfl
theorem si_drop {f f' : EM} (h : Ev1 f (see [] 0 S) f') (hE : FitO E S) : Si (fun _ : Unit => S) K E (sDrop [] f) S (seU f') := fun δ a fit => by
  show SR _ K E ((f' [] a).fl _) ((lift [] f δ a).seq fun _ δ' a' => .nx δ' a')
  rw [lift0 h fit]
  cases e : f' [] a with
  | ok m a1 => exact ⟨δ, rfl, fit⟩
  | exc c ns ds a1 => exact ⟨δ, rfl, hE.trans fit⟩
  | stuck => exact trivial
def seUg (k : Kd) (f : EM) : Fw Unit κ := fun a => (f [] a).fl fun m a' => if (clM k m && clA k a') = true then .nx () a' else .stuck
@[simp] theorem x_seUg (k : Kd) (f : EM) (a : Sto) : (seUg k f : Fw Unit κ) a = (f [] a).fl fun m a' => if (clM k m && clA k a') = true then .nx () a' else .stuck := rfl
def reM (f : EM) : Fw ν κ := fun a => (f [] a).fl fun m a' => .rt m a'
@[simp] theorem x_reM (f : EM) (a : Sto) : (reM f : Fw ν κ) a = (f [] a).fl fun m a' => .rt m a' := rfl
theorem si_ret {I : List Nat} {f f' : EM} (h : Ev1 f (see I 0 S) f') (hE : FitO E S) (hF : FitO E (frz I 0 S)) : Si N K E (sRet I f) S (reM f') := fun δ a fit => by
  show SR _ K E ((f' [] a).fl _) ((lift I f δ a).seq fun m _ a' => .rt m a')
  rw [x_lift, h _ a fit.see]
  cases e : f' [] a with
  | ok m a1 => exact rfl
  | exc c ns ds a1 => exact ⟨_, rfl, fitO_frz hE hF fit⟩
  | stuck => exact trivial
def rtF (m : M) : Fw ν κ := fun a => .rt m a
@[simp] theorem x_rtF (m : M) (a : Sto) : (rtF m : Fw ν κ) a = .rt m a := rfl
theorem si_retO {i : Nat} {m : M} (h : S[i]? = some (some m)) : Si N K E (sRetO i) S (rtF m) := fun δ a fit => by
  show sRetO i δ a = .rt m a
  unfold sRetO
  rw [fit.get h]
def raF (f : EM) : Fw ν κ := fun a => (f [] a).fl fun _ _ => .stuck
@[simp] theorem x_raF (f : EM) (a : Sto) : (raF f : Fw ν κ) a = (f [] a).fl fun _ _ => .stuck := rfl
theorem si_raise {I : List Nat} {f f' : EM} (h : Ev1 f (see I 0 S) f') (hE : FitO E S) (hF : FitO E (frz I 0 S)) : Si N K E (sRaise I f) S (raF f') := fun δ a fit => by
  show SR _ K E ((f' [] a).fl _) ((lift I f δ a).seq fun _ _ _ => .stuck)
  rw [x_lift, h _ a fit.see]
  cases e : f' [] a with
  | ok m a1 => exact trivial
  | exc c ns ds a1 => exact ⟨_, rfl, fitO_frz hE hF fit⟩
  | stuck => exact trivial
def ifF (c : ET) (f g : Fw ν κ) : Fw ν κ := fun a => (c [] a).fl fun b a' => if b = true then f a' else g a'
@[simp] theorem x_ifF (c : ET) (f g : Fw ν κ) (a : Sto) : ifF c f g a = (c [] a).fl fun b a' => if b = true then f a' else g a' := rfl
theorem si_if {c c' : ET} {m1 m2 : SM} {f g : Fw ν κ} (h : Ev1 c (see [] 0 S) c') (hE : FitO E S) (h1 : Si N K E m1 S f) (h2 : Si N K E m2 S g) : Si N K E (sIf [] c m1 m2) S (ifF c' f g) := fun δ a fit => by
  show SR _ K E ((c' [] a).fl _) ((liftT [] c δ a).seq fun b δ' a' => if b = true then m1 δ' a' else m2 δ' a')
  rw [liftT0 h fit]
  cases e : c' [] a with
  | ok b a1 =>
    cases b with
    | true => exact h1 δ a1 fit
    | false => exact h2 δ a1 fit
  | exc c ns ds a1 => exact ⟨_, rfl, hE.trans fit⟩
  | stuck => exact trivial
def ifFg (k : Kd) (c : ET) (f g : Fw ν κ) : Fw ν κ := fun a => (c [] a).fl fun b a' => if clA k a' = true then (if b = true then f a' else g a') else .stuck
@[simp] theorem x_ifFg (k : Kd) (c : ET) (f g : Fw ν κ) (a : Sto) : ifFg k c f g a = (c [] a).fl fun b a' => if clA k a' = true then (if b = true then f a' else g a') else .stuck := rfl
theorem si_ifg {I : List Nat} {c c' : ET} {m1 m2 : SM} {f g : Fw ν κ} (h : Ev1 c (see I 0 S) c') (hk : knows I 0 S = true) (hE : FitO E S) (hF : FitO E (frz I 0 S)) (h1 : Si N K E m1 S f) (h2 : Si N K E m2 S g) : Si N K E (sIf I c m1 m2) S (ifFg (kin I 0 S) c' f g) := fun δ a fit => by
  show SR _ K E ((c' [] a).fl _) ((liftT I c δ a).seq fun b δ' a' => if b = true then m1 δ' a' else m2 δ' a')
  rw [x_liftT, h _ a fit.see]
  cases e : c' [] a with
  | ok b a1 =>
    show SR _ K E (if clA (kin I 0 S) a1 = true then _ else _) (if b = true then m1 (if clA (kin I 0 δ) a1 = true then δ else frz I 0 δ) a1 else m2 (if clA (kin I 0 δ) a1 = true then δ else frz I 0 δ) a1)
    rw [fit.kin hk]
    by_cases cc : clA (kin I 0 S) a1 = true
    · rw [if_pos cc, if_pos cc]
      cases b with
      | true => exact h1 δ a1 fit
      | false => exact h2 δ a1 fit
    · rw [if_neg cc]
      exact trivial
  | exc c ns ds a1 => exact ⟨_, rfl, fitO_frz hE hF fit⟩
  | stuck => exact trivial
def appF (f : EM) (ms : List M) : Fw (List M) κ := fun a => (f [] a).fl fun m a' => if ms.length < 100000 then .nx (ms ++ [m]) a' else .stuck
@[simp] theorem x_appF (f : EM) (ms : List M) (a : Sto) : (appF f ms : Fw (List M) κ) a = (f [] a).fl fun m a' => if ms.length < 100000 then .nx (ms ++ [m]) a' else .stuck := rfl
theorem si_app {i : Nat} {ms : List M} {f f' : EM} (hi : S[i]? = some (some (.lst ms))) (h : Ev1 f (see [] 0 S) f') (hE : FitO E S) : Si (fun l => S.set i (some (.lst l))) K E (sApp [] i f) S (appF f' ms) := fun δ a fit => by
  show SR _ K E ((f' [] a).fl _) (sApp [] i f δ a)
  unfold sApp
  have g := fit.get hi
  rw [g]
  dsimp only
  rw [lift0 h fit]
  cases e : f' [] a with
  | ok m a1 =>
    dsimp only [oseq_ok, fl_ok]
    show SR _ K E (if ms.length < 100000 then _ else _) (match δ[i]? with | some (some (.lst ms)) => _ | _ => _)
    rw [g]
    dsimp only
    by_cases c : ms.length < 100000
    · rw [if_pos c, if_pos c]
      exact ⟨_, rfl, fit.set i _⟩
    · rw [if_neg c]
      exact trivial
  | exc c ns ds a1 => exact ⟨_, rfl, hE.trans fit⟩
  | stuck => exact trivial
def appFg (k : Kd) (f : EM) (ms : List M) : Fw (List M) κ := fun a => (f [] a).fl fun m a' => if (clM k m && clA k a') = true ∧ ms.length < 100000 then .nx (ms ++ [m]) a' else .stuck
@[simp] theorem x_appFg (k : Kd) (f : EM) (ms : List M) (a : Sto) : (appFg k f ms : Fw (List M) κ) a = (f [] a).fl fun m a' => if (clM k m && clA k a') = true ∧ ms.length < 100000 then .nx (ms ++ [m]) a' else .stuck := rfl
def selfA (c : Nat) (f : Str) (s d : D) (a : Sto) : Fl Unit κ := match s with
  | .loc n => (match a[n]? with
    | some (.obj c' ns ds) => if c' = c ∧ ns.length < 1000 then .nx () (a.set n (.obj c (putN f ns) (putD f d ns ds))) else .stuck
    | _ => .stuck)
  | _ => .stuck
def selfF (c : Nat) (f : Str) (s : D) (fe : EV) : Fw Unit κ := fun a => (fe [] a).fl fun d a' => selfA c f s d a'
@[simp] theorem x_selfF (c : Nat) (f : Str) (s : D) (fe : EV) (a : Sto) : (selfF c f s fe : Fw Unit κ) a = (fe [] a).fl fun d a' => selfA c f s d a' := rfl
end
end DL
namespace DL
open PySem PySem.Spec PyProof.Rows L2
section
variable {ν κ β : Type}
def loopF (gd : D → Option β) (body : β → ν → Fw ν ν) : List D → ν → Fw ν κ
  | [], s => fun a => .nx s a
  | d :: ds, s => fun a => match gd d with
    | none => .stuck
    | some b => (match body b s a with
      | .nx s' a' => loopF gd body ds s' a'
      | .ct s' a' => loopF gd body ds s' a'
      | .bk s' a' => .nx s' a'
      | .rt m a' => .rt m a'
      | .exc c ns es a' => .exc c ns es a'
      | .stuck => .stuck)
def forF (it : EI) (gd : D → Option β) (body : β → ν → Fw ν ν) (s : ν) : Fw ν κ := fun a => (it [] a).fl fun ds => loopF gd body ds s
@[simp] theorem x_forF (it : EI) (gd : D → Option β) (body : β → ν → Fw ν ν) (s : ν) (a : Sto) : (forF it gd body s : Fw ν κ) a = (it [] a).fl fun ds => loopF gd body ds s := rfl
@[simp] theorem loopF_nil (gd : D → Option β) (body : β → ν → Fw ν ν) (s : ν) (a : Sto) : (loopF gd body [] s : Fw ν κ) a = .nx s a := rfl
variable {N : ν → SlM} {K : κ → SlM} {E : Option SlM} {S : SlM}
theorem loopF_ok {gd : D → Option β} {body : β → ν → Fw ν ν} {g : D → SlM → Option SlM} {m : SM} {Sb : β → ν → SlM}
    (hg : ∀ s d b δ, gd d = some b → Fit (N s) δ → ∃ δ1, g d δ = some δ1 ∧ Fit (Sb b s) δ1) (hb : ∀ b s, Si N N E m (Sb b s) (body b s)) :
    ∀ (ds : List D) (s : ν) (δ : SlM) (a : Sto), Fit (N s) δ → SR N K E (loopF gd body ds s a) (sLoop g m ds δ a)
  | [], s, δ, a, h => ⟨δ, rfl, h⟩
  | d :: ds, s, δ, a, h => by
    unfold loopF sLoop
    cases e : gd d with
    | none => exact trivial
    | some b =>
      obtain ⟨δ1, e1, f1⟩ := hg s d b δ e h
      rw [e1]
      dsimp only
      have z := hb b s δ1 a f1
      cases c : body b s a with
      | nx s2 a2 =>
        rw [c] at z
        obtain ⟨δ2, e2, f2⟩ := z
        rw [e2]
        exact loopF_ok hg hb ds s2 δ2 a2 f2
      | ct s2 a2 =>
        rw [c] at z
        obtain ⟨δ2, e2, f2⟩ := z
        rw [e2]
        exact loopF_ok hg hb ds s2 δ2 a2 f2
      | bk s2 a2 =>
        rw [c] at z
        obtain ⟨δ2, e2, f2⟩ := z
        rw [e2]
        exact ⟨δ2, rfl, f2⟩
      | rt r a2 =>
        rw [c] at z
        have z' : m δ1 a = .rt r a2 := z
        rw [z']
        exact rfl
      | exc k ns es a2 =>
        rw [c] at z
        obtain ⟨δ2, e2, f2⟩ := z
        rw [e2]
        exact ⟨δ2, rfl, f2⟩
      | stuck => exact trivial
theorem si_for {fr : Bool} {it it' : EI} {gd : D → Option β} {body : β → ν → Fw ν ν} {g : D → SlM → Option SlM} {m : SM} {Sb : β → ν → SlM} (s0 : ν) (hi : Ev1 it (see [] 0 S) it') (hE : FitO E S) (h0 : Fit (N s0) S)
    (hg : ∀ s d b δ, gd d = some b → Fit (N s) δ → ∃ δ1, g d δ = some δ1 ∧ Fit (Sb b s) δ1) (hb : ∀ b s, Si N N E m (Sb b s) (body b s)) : Si N K E (sFor fr [] it g m) S (forF it' gd body s0) := fun δ a fit => by
  show SR N K E ((it' [] a).fl _) ((liftI fr [] it δ a).seq fun ds => sLoop g m ds)
  rw [x_liftI, hi _ a fit.see]
  cases e : it' [] a with
  | ok ds a1 =>
    rw [kI_ok]
    exact loopF_ok hg hb ds s0 δ a1 (h0.trans fit)
  | exc c ns ds a1 =>
    rw [kI_exc]
    exact ⟨δ, rfl, hE.trans fit⟩
  | stuck => exact trivial
def forFg (k : Kd) (it : EI) (gd : D → Option β) (body : β → ν → Fw ν ν) (s : ν) : Fw ν κ := fun a => (it [] a).fl fun ds a' => if clA k a' = true then loopF gd body ds s a' else .stuck
@[simp] theorem x_forFg (k : Kd) (it : EI) (gd : D → Option β) (body : β → ν → Fw ν ν) (s : ν) (a : Sto) : (forFg k it gd body s : Fw ν κ) a = (it [] a).fl fun ds a' => if clA k a' = true then loopF gd body ds s a' else .stuck := rfl
theorem gt_1 {i : Nat} (h : ∀ s, i < (N s).length) : ∀ s d b δ, g1 d = some b → Fit (N s) δ → ∃ δ1, gOne i d δ = some δ1 ∧ Fit ((N s).set i (some (.val b))) δ1 := fun s d b δ e f => by
  cases e
  refine ⟨δ.set i (some (.val d)), ?_, f.set i _⟩
  rw [gOne_e, if_pos (by rw [f.len]; exact h s)]
theorem gt_2 {i j : Nat} (h : ∀ s, i < (N s).length) (h2 : ∀ s, j < (N s).length) : ∀ s d b δ, g2 d = some b → Fit (N s) δ → ∃ δ1, gTp 2 (gsCons (gOne i) (gsCons (gOne j) gsNil)) d δ = some δ1 ∧ Fit (((N s).set i (some (.val b.1))).set j (some (.val b.2))) δ1 := fun s d b δ e f => by
  cases d with
  | tup l =>
    match l, e with
    | [x, y], e =>
      cases e
      refine ⟨(δ.set i (some (.val x))).set j (some (.val y)), ?_, (f.set i _).set j _⟩
      rw [gTp_e, if_pos (show [x, y].length = 2 from rfl)]
      show (gOne i x δ).bind (gsCons (gOne j) gsNil [y]) = _
      rw [gOne_e, if_pos (by rw [f.len]; exact h s)]
      show (gOne j y _).bind (gsNil []) = _
      rw [gOne_e, if_pos (by rw [List.length_set, f.len]; exact h2 s)]
      rfl
  | _ => cases e
def whF (k : ν → Kd) (c : ν → ET) (body : ν → Fw ν ν) : Nat → ν → Fw ν κ
  | 0, _ => fun _ => .stuck
  | n + 1, s => fun a => (c s [] a).fl fun b a' => if clA (k s) a' = true then (if b = true then (match body s a' with
      | .nx s' a2 => whF k c body n s' a2
      | .ct s' a2 => whF k c body n s' a2
      | .bk s' a2 => .nx s' a2
      | .rt m a2 => .rt m a2
      | .exc q ns ds a2 => .exc q ns ds a2
      | .stuck => .stuck) else .nx s a') else .stuck
theorem whF_ok {I : List Nat} {k : ν → Kd} {c : ET} {c' : ν → ET} {m : SM} {body : ν → Fw ν ν} (hc : ∀ s, Ev1 c (see I 0 (N s)) (c' s)) (hk : ∀ s, knows I 0 (N s) = true) (hkk : ∀ s, kin I 0 (N s) = k s) (hE : ∀ s, FitO E (N s)) (hF : ∀ s, FitO E (frz I 0 (N s))) (hb : ∀ s, Si N N E m (N s) (body s)) :
    ∀ (n : Nat) (s : ν) (δ : SlM) (a : Sto), Fit (N s) δ → SR N K E (whF k c' body n s a) (sWhile I c m n δ a)
  | 0, _, _, _, _ => trivial
  | n + 1, s, δ, a, fit => by
    show SR N K E ((c' s [] a).fl _) ((liftT I c δ a).seq _)
    rw [x_liftT, hc s _ a fit.see]
    cases e : c' s [] a with
    | ok b a1 =>
      rw [fl_ok, kT_ok, fit.kin (hk s), hkk s]
      by_cases cc : clA (k s) a1 = true
      · rw [if_pos cc, if_pos cc, oseq_ok]
        cases b with
        | false => exact ⟨δ, rfl, fit⟩
        | true =>
          rw [if_pos rfl, if_pos rfl]
          have z := hb s δ a1 fit
          cases ec : body s a1 with
          | nx s2 a2 =>
            rw [ec] at z
            obtain ⟨δ2, e2, f2⟩ := z
            rw [e2]
            exact whF_ok hc hk hkk hE hF hb n s2 δ2 a2 f2
          | ct s2 a2 =>
            rw [ec] at z
            obtain ⟨δ2, e2, f2⟩ := z
            rw [e2]
            exact whF_ok hc hk hkk hE hF hb n s2 δ2 a2 f2
          | bk s2 a2 =>
            rw [ec] at z
            obtain ⟨δ2, e2, f2⟩ := z
            rw [e2]
            exact ⟨δ2, rfl, f2⟩
          | rt r a2 =>
            rw [ec] at z
            have z' : m δ a1 = .rt r a2 := z
            rw [z']
            exact rfl
          | exc q ns es a2 =>
            rw [ec] at z
            obtain ⟨δ2, e2, f2⟩ := z
            rw [e2]
            exact ⟨δ2, rfl, f2⟩
          | stuck => exact trivial
      · rw [if_neg cc]
        exact trivial
    | exc q ns ds a1 => exact ⟨_, rfl, fitO_frz (hE s) (hF s) fit⟩
    | stuck => exact trivial
theorem si_while {I : List Nat} {k : ν → Kd} {c : ET} {c' : ν → ET} {m : SM} {body : ν → Fw ν ν} (n : Nat) (s0 : ν) (h0 : Fit (N s0) S) (hc : ∀ s, Ev1 c (see I 0 (N s)) (c' s)) (hk : ∀ s, knows I 0 (N s) = true) (hkk : ∀ s, kin I 0 (N s) = k s) (hE : ∀ s, FitO E (N s)) (hF : ∀ s, FitO E (frz I 0 (N s))) (hb : ∀ s, Si N N E m (N s) (body s)) :
    Si N K E (sWhile I c m n) S (whF k c' body n s0) := fun δ a fit => whF_ok hc hk hkk hE hF hb n s0 δ a (h0.trans fit)
structure HcD (ν κ : Type) where
  cs : List Nat
  ms : List Nat
  g : D → Fw ν κ
def nEx : OutS → OutS
  | .exc .. => .stuck
  | o => o
def noExc : Fl ν κ → Fl ν κ
  | .exc _ _ _ _ => .stuck
  | o => o
def hdF : List (HcD ν κ) → Nat → List Str → List D → Fw ν κ
  | [], c, ns, ds => fun a => .exc c ns ds a
  | h :: r, c, ns, ds => fun a => if c ∈ h.cs then (if c ∈ h.ms then noExc (h.g (.exc c ns ds) a) else hdF r c ns ds a) else .stuck
inductive Hss (N : ν → SlM) (K : κ → SlM) (E0 : SlM) : List Hc → List (HcD ν κ) → Prop where
  | nil : Hss N K E0 [] []
  | bare {cs ms : List Nat} {g : SM} {t : Fw ν κ} {l : List Hc} {l' : List (HcD ν κ)} (h : Si N K none g E0 t) (r : Hss N K E0 l l') : Hss N K E0 (⟨cs, ms, none, g⟩ :: l) (⟨cs, ms, fun _ => t⟩ :: l')
  | named {i : Nat} {cs ms : List Nat} {g : SM} {t : D → Fw ν κ} {l : List Hc} {l' : List (HcD ν κ)} (hi : i < E0.length) (h : ∀ d, Si N K none g (E0.set i (some (.val d))) (t d)) (hN : ∀ s, Fit (N s) ((N s).set i none)) (hK : ∀ s, Fit (K s) ((K s).set i none)) (r : Hss N K E0 l l') :
      Hss N K E0 (⟨cs, ms, some i, g⟩ :: l) (⟨cs, ms, t⟩ :: l')
theorem SR.noExc {o : Fl ν κ} {p : OutS} (h : SR N K none o p) : SR N K E (DL.noExc o) (nEx p) := by
  cases o with
  | nx s a =>
    obtain ⟨δ, e, f⟩ := h
    rw [e]
    exact ⟨δ, rfl, f⟩
  | rt m a =>
    have e : p = .rt m a := h
    rw [e]
    exact rfl
  | bk s a =>
    obtain ⟨δ, e, f⟩ := h
    rw [e]
    exact ⟨δ, rfl, f⟩
  | ct s a =>
    obtain ⟨δ, e, f⟩ := h
    rw [e]
    exact ⟨δ, rfl, f⟩
  | exc c ns ds a => exact trivial
  | stuck => exact trivial
theorem SR.out {i : Nat} {o : Fl ν κ} {p : OutS} (hN : ∀ s, Fit (N s) ((N s).set i none)) (hK : ∀ s, Fit (K s) ((K s).set i none)) (h : SR N K E (DL.noExc o) (nEx p)) : SR N K E (DL.noExc o) (outM (some i) (nEx p)) := by
  cases o with
  | nx s a =>
    obtain ⟨δ, e, f⟩ := h
    rw [e]
    exact ⟨_, rfl, (hN s).trans (f.set i none)⟩
  | rt m a =>
    have e : nEx p = .rt m a := h
    rw [e]
    exact rfl
  | bk s a =>
    obtain ⟨δ, e, f⟩ := h
    rw [e]
    exact ⟨_, rfl, (hK s).trans (f.set i none)⟩
  | ct s a =>
    obtain ⟨δ, e, f⟩ := h
    rw [e]
    exact ⟨_, rfl, (hK s).trans (f.set i none)⟩
  | exc c ns ds a => exact trivial
  | stuck => exact trivial
def iD : D → Option Int
  | .int k => some k
  | _ => none
def putF (ms : List M) (js : Option (List Int)) (t : List M → Option (List M)) : Option (List M) := match js with
  | some js => (match focL js (.lst ms) with
    | some l => (match t l with
      | some l' => (match putL js l' (.lst ms) with
        | .lst z => some z
        | _ => none)
      | none => none)
    | none => none)
  | none => none
def atK (k : Option Int) (m : M) (l : List M) : Option (List M) := match k with
  | some k => (match ixN l.length k with
    | some j => some (l.set j m)
    | none => none)
  | none => none
def setPF (kd : Kd) (f : EM) (ms : List M) (js : Option (List Int)) (k : Option Int) : Fw (List M) κ := fun a => (f [] a).fl fun m a' => if (clM kd m && clA kd a') = true then (match putF ms js (atK k m) with
  | some l => .nx l a'
  | none => .stuck) else .stuck
@[simp] theorem x_setPF (kd : Kd) (f : EM) (ms : List M) (js : Option (List Int)) (k : Option Int) (a : Sto) : (setPF kd f ms js k : Fw (List M) κ) a = (f [] a).fl fun m a' => if (clM kd m && clA kd a') = true then (match putF ms js (atK k m) with
  | some l => .nx l a'
  | none => .stuck) else .stuck := rfl
theorem putL_lst (js : List Int) (n ms : List M) : ∃ z, putL js n (.lst ms) = .lst z := by
  cases js with
  | nil => exact ⟨_, rfl⟩
  | cons j js =>
    unfold putL
    cases ixN ms.length j with
    | none => exact ⟨_, rfl⟩
    | some k =>
      dsimp only
      cases ms[k]? with
      | none => exact ⟨_, rfl⟩
      | some m => exact ⟨_, rfl⟩
theorem q_var {i : Nat} {d : D} (h : S[i]? = some (some (.val d))) : ∀ δ, Fit S δ → qVar i δ = iD d := fun δ fit => by
  unfold qVar
  rw [fit.get h]
  cases d <;> rfl
theorem p_nil : ∀ δ, Fit S δ → ptNil δ = some [] := fun _ _ => rfl
def jsAt (js : Option (List Int)) (k : Option Int) : Option (List Int) := match js, k with
  | some js, some k => some (js ++ [k])
  | _, _ => none
theorem p_at {f : QP} {g : QI} {js : Option (List Int)} {k : Option Int} (h : ∀ δ, Fit S δ → f δ = js) (h2 : ∀ δ, Fit S δ → g δ = k) : ∀ δ, Fit S δ → ptAt f g δ = jsAt js k := fun δ fit => by
  unfold ptAt jsAt
  rw [h δ fit, h2 δ fit]
  first | done | (cases js <;> cases k <;> rfl)
theorem si_setP {i : Nat} {I : List Nat} {kd : Kd} {ms : List M} {js : Option (List Int)} {k : Option Int} {fp : QP} {fk : QI} {f f' : EM} (hi : S[i]? = some (some (.lst ms))) (hp : ∀ δ, Fit S δ → fp δ = js) (hq : ∀ δ, Fit S δ → fk δ = k) (h : Ev1 f (see I 0 S) f') (hk : knows I 0 S = true) (hkd : kin I 0 S = kd) (hE : FitO E S) (hF : FitO E (frz I 0 S)) :
    Si (fun l => S.set i (some (.lst l))) K E (sSetP I i fp fk f) S (setPF kd f' ms js k) := fun δ a fit => by
  show SR _ K E ((f' [] a).fl _) (sSetP I i fp fk f δ a)
  unfold sSetP
  obtain ⟨e1, e2⟩ := liftg h hk fit a
  rw [e1]
  cases e : f' [] a with
  | ok m a1 =>
    show SR _ K E (if (clM kd m && clA kd a1) = true then _ else _) (Ox.seq (.ok m (if (clM (kin I 0 δ) m && clA (kin I 0 δ) a1) = true then δ else frz I 0 δ) a1) _)
    rw [e2, hkd, oseq_ok]
    by_cases c1 : (clM kd m && clA kd a1) = true
    · rw [if_pos c1, if_pos c1, fit.get hi]
      dsimp only
      rw [hp δ fit, hq δ fit]
      cases js with
      | none => exact trivial
      | some js =>
        cases ef : focL js (.lst ms) with
        | none =>
          unfold putF
          dsimp only
          rw [ef]
          exact trivial
        | some l =>
          cases k with
          | none =>
            unfold putF atK
            dsimp only
            rw [ef]
            exact trivial
          | some k =>
            cases ex : ixN l.length k with
            | none =>
              unfold putF atK
              dsimp only
              rw [ef]
              dsimp only
              rw [ex]
              exact trivial
            | some j =>
              obtain ⟨z, hz⟩ := putL_lst js (l.set j m) ms
              unfold putF atK
              dsimp only
              rw [ef]
              dsimp only
              rw [ex]
              dsimp only
              rw [hz]
              exact ⟨_, rfl, fit.set i _⟩
    · rw [if_neg c1]
      exact trivial
  | exc c ns ds a1 => exact ⟨_, rfl, fitO_frz hE hF fit⟩
  | stuck => exact trivial
end
abbrev noK : Empty → SlM := fun e => nomatch e
def fnO {ν : Type} : Fl ν Empty → Out M
  | .nx _ a => .ok (.val .non) a
  | .rt m a => .ok m a
  | .exc c ns ds a => .exc c ns ds a
  | _ => .stuck
@[simp] theorem fnO_nx {ν : Type} (s : ν) (a : Sto) : fnO (.nx s a : Fl ν Empty) = .ok (.val .non) a := rfl
@[simp] theorem fnO_rt {ν : Type} (m : M) (a : Sto) : fnO (.rt m a : Fl ν Empty) = .ok m a := rfl
@[simp] theorem fnO_exc {ν : Type} (c : Nat) (ns : List Str) (ds : List D) (a : Sto) : fnO (.exc c ns ds a : Fl ν Empty) = .exc c ns ds a := rfl
theorem fn_to {ν : Type} {N : ν → SlM} {m : SM} {k n : Nat} {ds : List D} {f : Fw ν Empty} (hl : ds.length = k) (h : Si N noK none m (ent n ds) f) {a : Sto} {o : Out M} (e : fnO (f a) = o) (ho : o ≠ .stuck) : bodyM k n m ds a = o := by
  rw [x_bodyM hl]
  have z := h _ a (Fit.refl _)
  subst e
  cases c : f a with
  | nx s a1 =>
    rw [c] at z
    obtain ⟨δ, e, _⟩ := z
    rw [e] <;> rfl
  | rt r a1 =>
    rw [c] at z
    have z' : m (ent n ds) a = .rt r a1 := z
    rw [z'] <;> rfl
  | bk k _ => exact k.elim
  | ct k _ => exact k.elim
  | exc c' ns es a1 =>
    rw [c] at z
    obtain ⟨δ, e, _⟩ := z
    rw [e] <;> rfl
  | stuck =>
    rw [c] at ho
    exact absurd rfl ho
theorem law_to {ν : Type} {N : ν → SlM} {g : SM} {n : Nat} {f : Fw ν Empty} (ns : List Int) (h : Si N noK none g ((some (.val (.scr ns)) :: none :: List.replicate n none).set 1 (some (.val (.loc 0)))) f) (hf : ∀ p q : Int, ∃ a, f [.nums [p, q, 1, 0]] = .rt (.val (.bl true)) a) :
    bodyM 1 (n + 2) (mLaw 1 (sSet 1 [] (callM 1 f_start (aCons (eVar 0) aNil))) g) [.scr ns] [] = .ok (.val (.bl true)) [] := by
  obtain ⟨p, q, e⟩ := start_ok ns
  have st : sSet 1 [] (callM 1 f_start (aCons (eVar 0) aNil)) (some (.val (.scr ns)) :: none :: List.replicate n none) [] = .nx (some (.val (.scr ns)) :: some (.lst [.val (.int p), .val (.int q), .val (.int 1), .val (.int 0)]) :: List.replicate n none) [] := by
    simp [e, put_e]
  rw [x_bodyM (show [D.scr ns].length = 1 from rfl), mLaw_e]
  show outF (lawGo 1 g (sSet 1 [] (callM 1 f_start (aCons (eVar 0) aNil)) (some (.val (.scr ns)) :: none :: List.replicate n none) [])) = _
  rw [st, law_go4]
  obtain ⟨a, ea⟩ := hf p q
  have z := h _ [.nums [p, q, 1, 0]] (Fit.refl _)
  rw [ea] at z
  have z' : g (some (.val (.scr ns)) :: some (.val (.loc 0)) :: List.replicate n none) [.nums [p, q, 1, 0]] = .rt (.val (.bl true)) a := z
  rw [z']
  rfl
end DL
namespace DL
open PySem PySem.Spec PyProof.Rows L2
section
variable {T : Sw}
end
section
variable {ν κ : Type} {N : ν → SlM} {K : κ → SlM} {E : Option SlM} {S : SlM}
def focZ (ms : List M) (js : Option (List Int)) : Option (List M) := match js with
  | some js => focL js (.lst ms)
  | none => none
def putZ (ms : List M) (js : Option (List Int)) (l : List M) : List M := match js with
  | some js => (match putL js l (.lst ms) with
    | .lst z => z
    | _ => [])
  | none => []
theorem putZ_e (js : List Int) (l ms : List M) : putL js l (.lst ms) = .lst (putZ ms (some js) l) := by
  obtain ⟨z, hz⟩ := putL_lst js l ms
  unfold putZ
  dsimp only
  rw [hz]
def appPF (kd : Kd) (f : EM) (ms : List M) (js : Option (List Int)) : Fw (List M) κ := fun a => match focZ ms js with
  | some l => (f [] a).fl fun m a' => if (clM kd m && clA kd a') = true ∧ l.length < 100000 then .nx (putZ ms js (l ++ [m])) a' else .stuck
  | none => .stuck
theorem x_appPF (kd : Kd) (f : EM) (ms : List M) (js : Option (List Int)) (a : Sto) : (appPF kd f ms js : Fw (List M) κ) a = match focZ ms js with
  | some l => (f [] a).fl fun m a' => if (clM kd m && clA kd a') = true ∧ l.length < 100000 then .nx (putZ ms js (l ++ [m])) a' else .stuck
  | none => .stuck := rfl
theorem hid_si {i : Nat} {I : List Nat} {kd : Kd} {f f' : EM} {δ : SlM} {a : Sto} (fit : Fit S δ) (hl : i < S.length) (h : Ev1 f (see I 0 (S.set i none)) f') (hk : knows I 0 (S.set i none) = true) (hkd : kin I 0 (S.set i none) = kd) (hE : FitO E (S.set i none)) (hF : FitO E (frz I 0 (S.set i none)))
    {P : M → Prop} [DecidablePred P] {u : M → List M} {mo : M → M} (hu : ∀ m, mo m = .lst (u m)) :
    SR (fun l => S.set i (some (.lst l))) K E ((f' [] a).fl fun m a' => if (clM kd m && clA kd a') = true ∧ P m then (.nx (u m) a' : Fl (List M) κ) else .stuck)
      ((lift I f (δ.set i none) a).seq fun m δ1 a1 => if P m ∧ i < δ1.length then .nx (δ1.set i (some (mo m))) a1 else .stuck) := by
  have fit1 := fit.set i none
  obtain ⟨e1, e2⟩ := liftg h hk fit1 a
  rw [e1]
  cases e : f' [] a with
  | ok m a1 =>
    show SR _ K E (if (clM kd m && clA kd a1) = true ∧ P m then _ else _) (Ox.seq (.ok m (if (clM (kin I 0 (δ.set i none)) m && clA (kin I 0 (δ.set i none)) a1) = true then δ.set i none else frz I 0 (δ.set i none)) a1) _)
    rw [e2, hkd, oseq_ok]
    by_cases c1 : (clM kd m && clA kd a1) = true
    · rw [if_pos c1]
      by_cases c2 : P m
      · rw [if_pos ⟨c1, c2⟩, if_pos ⟨c2, by rw [List.length_set, fit.len]; exact hl⟩, List.set_set, hu]
        exact ⟨_, rfl, fit.set i _⟩
      · rw [if_neg fun z => c2 z.2]
        exact trivial
    · rw [if_neg fun z => c1 z.1]
      exact trivial
  | exc c ns ds a1 => exact ⟨_, rfl, fitO_frz hE hF fit1⟩
  | stuck => exact trivial
theorem si_appP {i : Nat} {I : List Nat} {kd : Kd} {ms : List M} {js : Option (List Int)} {fp : QP} {f f' : EM} (hi : S[i]? = some (some (.lst ms))) (hl : i < S.length) (hp : ∀ δ, Fit S δ → fp δ = js) (h : Ev1 f (see I 0 (S.set i none)) f') (hk : knows I 0 (S.set i none) = true) (hkd : kin I 0 (S.set i none) = kd) (hE : FitO E (S.set i none)) (hF : FitO E (frz I 0 (S.set i none))) :
    Si (fun l => S.set i (some (.lst l))) K E (sAppP I i fp f) S (appPF kd f' ms js) := fun δ a fit => by
  rw [x_appPF]
  unfold sAppP
  rw [fit.get hi]
  dsimp only
  rw [hp δ fit]
  cases js with
  | none => exact trivial
  | some js =>
    unfold focZ
    dsimp only
    cases focL js (.lst ms) with
    | none => exact trivial
    | some l => exact hid_si fit hl h hk hkd hE hF (P := fun _ => l.length < 100000) (u := fun m => putZ ms (some js) (l ++ [m])) fun m => putZ_e js (l ++ [m]) ms
end
end DL
namespace DL
open PySem PySem.Spec PyProof.Rows L2
structure EqT {α : Type} [DecidableEq α] (T : List (Nat × FM)) (a : Sto) (n : Nat) (P : α → Prop) (e : α → D) : Prop where
  eq : ∀ x y, P x → P y → eqO T a n (e x) (e y) = some (decide (x = y))
  pl : ∀ x, P x → pl (e x) = true
  sim : ∀ x y, P x → P y → simD (e x) (e y) = true → x = y
section
variable {T : List (Nat × FM)} {a : Sto} {n : Nat}
theorem eqT_int : EqT T a n (fun _ : Int => True) D.int := ⟨fun x y _ _ => eqO_sc n (by show some (x == y) = _; rw [Bool.beq_eq_decide_eq]), fun _ _ => rfl, fun x y _ _ h => eq_of_beq h⟩
theorem eqT_str : EqT T a n (fun _ : Str => True) D.str := ⟨fun x y _ _ => eqO_sc n (by show some (x == y) = _; rw [Bool.beq_eq_decide_eq]), fun _ _ => rfl, fun x y _ _ h => eq_of_beq h⟩
theorem eqT_bl : EqT T a n (fun _ : Bool => True) D.bl := ⟨fun x y _ _ => eqO_sc n (by show some (x == y) = _; rw [Bool.beq_eq_decide_eq]), fun _ _ => rfl, fun x y _ _ h => eq_of_beq h⟩
theorem chk_ok {d e : D} {b : Bool} (h1 : pl d = true) (h2 : pl e = true) (h3 : simD d e = true → b = true) : chk d e b = some b := by
  unfold chk
  refine if_pos ?_
  rw [h1, h2]
  cases c : simD d e with
  | false => simp
  | true =>
    rw [h3 c]
    rfl
variable {α β : Type} [DecidableEq α] [DecidableEq β] {P : α → Prop} {e : α → D} {Q : β → Prop} {f : β → D}
theorem pls_map (h : EqT T a n P e) : ∀ l : List α, (∀ x ∈ l, P x) → pls (l.map e) = true
  | [], _ => rfl
  | x :: l, hp => by
    show (DL.pl (e x) && pls (l.map e)) = true
    rw [h.pl x (hp x List.mem_cons_self), pls_map h l fun y hy => hp y (List.mem_cons_of_mem _ hy)]
    rfl
theorem sims_map (h : EqT T a n P e) : ∀ l m : List α, (∀ x ∈ l, P x) → (∀ x ∈ m, P x) → simDs (l.map e) (m.map e) = true → l = m
  | [], [], _, _, _ => rfl
  | [], y :: m, _, _, s => by cases s
  | x :: l, [], _, _, s => by cases s
  | x :: l, y :: m, hl, hm, s => by
    obtain ⟨s1, s2⟩ := Bool.and_eq_true_iff.mp (show (simD (e x) (e y) && simDs (l.map e) (m.map e)) = true from s)
    rw [h.sim x y (hl x List.mem_cons_self) (hm y List.mem_cons_self) s1, sims_map h l m (fun z hz => hl z (List.mem_cons_of_mem _ hz)) (fun z hz => hm z (List.mem_cons_of_mem _ hz)) s2]
theorem eqZ_map (h : EqT T a n P e) : ∀ l m : List α, (∀ x ∈ l, P x) → (∀ x ∈ m, P x) → ∃ r, eqZ (eqO T a n) (l.map e) (m.map e) = some r ∧ (r && (l.map e).length == (m.map e).length) = decide (l = m)
  | [], [], _, _ => ⟨true, rfl, rfl⟩
  | [], y :: m, _, _ => ⟨true, rfl, by simp⟩
  | x :: l, [], _, _ => ⟨true, rfl, by simp⟩
  | x :: l, y :: m, hl, hm => by
    obtain ⟨r, e1, e2⟩ := eqZ_map h l m (fun z hz => hl z (List.mem_cons_of_mem _ hz)) fun z hz => hm z (List.mem_cons_of_mem _ hz)
    have e3 := h.eq x y (hl x List.mem_cons_self) (hm y List.mem_cons_self)
    by_cases c : x = y
    · refine ⟨r, ?_, ?_⟩
      · show (match eqO T a n (e x) (e y) with | some true => eqZ (eqO T a n) (l.map e) (m.map e) | some false => some false | none => none) = _
        rw [e3, decide_eq_true c]
        exact e1
      · rw [List.map_cons, List.map_cons, List.length_cons, List.length_cons]
        have : ((l.map e).length + 1 == (m.map e).length + 1) = ((l.map e).length == (m.map e).length) := by simp
        rw [this, e2]
        simp [c]
    · refine ⟨false, ?_, ?_⟩
      · show (match eqO T a n (e x) (e y) with | some true => eqZ (eqO T a n) (l.map e) (m.map e) | some false => some false | none => none) = _
        rw [e3, decide_eq_false c]
      · simp [c]
theorem EqT.tup (h : EqT T a n P e) : EqT T a (n + 1) (fun l : List α => ∀ x ∈ l, P x) fun l => .tup (l.map e) where
  eq := fun l m hl hm => by
    obtain ⟨r, e1, e2⟩ := eqZ_map h l m hl hm
    show ((eqZ (eqO T a n) (l.map e) (m.map e)).map fun r => r && (l.map e).length == (m.map e).length).bind (chk _ _) = _
    rw [e1]
    show chk _ _ (r && (l.map e).length == (m.map e).length) = _
    rw [e2]
    exact chk_ok (pls_map h l hl) (pls_map h m hm) fun s => decide_eq_true (sims_map h l m hl hm s)
  pl := fun l hl => pls_map h l hl
  sim := fun l m hl hm s => sims_map h l m hl hm s
theorem EqT.lst (h : EqT T a n P e) : EqT T a (n + 1) (fun l : List α => ∀ x ∈ l, P x) fun l => .lst (l.map e) where
  eq := fun l m hl hm => by
    show ((if (l.map e).length = (m.map e).length then eqZ (eqO T a n) (l.map e) (m.map e) else some false).map fun r => r && (l.map e).length == (m.map e).length).bind (chk _ _) = _
    by_cases c : (l.map e).length = (m.map e).length
    · rw [if_pos c]
      obtain ⟨r, e1, e2⟩ := eqZ_map h l m hl hm
      rw [e1]
      show chk _ _ (r && (l.map e).length == (m.map e).length) = _
      rw [e2]
      exact chk_ok (pls_map h l hl) (pls_map h m hm) fun s => decide_eq_true (sims_map h l m hl hm s)
    · rw [if_neg c]
      have ne : l ≠ m := fun z => c (by rw [z])
      show chk _ _ false = _
      rw [decide_eq_false ne]
      exact chk_ok (pls_map h l hl) (pls_map h m hm) fun s => absurd (sims_map h l m hl hm s) ne
  pl := fun l hl => pls_map h l hl
  sim := fun l m hl hm s => sims_map h l m hl hm s
theorem EqT.pair (h : EqT T a n P e) (k : EqT T a n Q f) : EqT T a (n + 1) (fun p : α × β => P p.1 ∧ Q p.2) fun p => .tup [e p.1, f p.2] where
  eq := fun p q hp hq => by
    show ((eqZ (eqO T a n) [e p.1, f p.2] [e q.1, f q.2]).map fun r => r && true).bind (chk _ _) = _
    have z : eqZ (eqO T a n) [e p.1, f p.2] [e q.1, f q.2] = some (decide (p = q)) := by
      show (match eqO T a n (e p.1) (e q.1) with | some true => (match eqO T a n (f p.2) (f q.2) with | some true => some true | some false => some false | none => none) | some false => some false | none => none) = _
      rw [h.eq _ _ hp.1 hq.1, k.eq _ _ hp.2 hq.2]
      obtain ⟨p1, p2⟩ := p
      obtain ⟨q1, q2⟩ := q
      by_cases c1 : p1 = q1 <;> by_cases c2 : p2 = q2 <;> simp [c1, c2]
    rw [z]
    show chk _ _ (decide (p = q) && true) = _
    rw [Bool.and_true]
    refine chk_ok ?_ ?_ fun s => ?_
    · show (DL.pl (e p.1) && (DL.pl (f p.2) && true)) = true
      rw [h.pl _ hp.1, k.pl _ hp.2]
      rfl
    · show (DL.pl (e q.1) && (DL.pl (f q.2) && true)) = true
      rw [h.pl _ hq.1, k.pl _ hq.2]
      rfl
    · obtain ⟨s1, s2⟩ := Bool.and_eq_true_iff.mp (show (simD (e p.1) (e q.1) && (simD (f p.2) (f q.2) && true)) = true from s)
      rw [Bool.and_true] at s2
      exact decide_eq_true (Prod.ext (h.sim _ _ hp.1 hq.1 s1) (k.sim _ _ hp.2 hq.2 s2))
  pl := fun p hp => by
    show (DL.pl (e p.1) && (DL.pl (f p.2) && true)) = true
    rw [h.pl _ hp.1, k.pl _ hp.2]
    rfl
  sim := fun p q hp hq s => by
    obtain ⟨s1, s2⟩ := Bool.and_eq_true_iff.mp (show (simD (e p.1) (e q.1) && (simD (f p.2) (f q.2) && true)) = true from s)
    rw [Bool.and_true] at s2
    exact Prod.ext (h.sim _ _ hp.1 hq.1 s1) (k.sim _ _ hp.2 hq.2 s2)
theorem EqT.obj {c : Nat} {ns : List Str} {g : α → List D} {F : FM} (ht : T.lookup c = some F) (he : ∀ x y, P x → P y → F [.obj c ns (g x), .obj c ns (g y)] a = .ok (.val (.bl (decide (x = y)))) a)
    (hl : ∀ x, P x → ns.length = (g x).length) (hp : ∀ x, P x → pls (g x) = true) (hs : ∀ x y, P x → P y → simDs (g x) (g y) = true → x = y) : EqT T a (n + 1) P fun x => .obj c ns (g x) where
  eq := fun x y hx hy => by
    show (match T.lookup c with
      | some f => if isO c (.obj c ns (g y)) = true then (eqR (f [.obj c ns (g x), .obj c ns (g y)] a) a).bind (chk _ _) else none
      | none => none) = _
    rw [ht]
    dsimp only
    rw [if_pos (show isO c (.obj c ns (g y)) = true from decide_eq_true rfl), he x y hx hy]
    have z : eqR (.ok (.val (.bl (decide (x = y)))) a) a = some (decide (x = y)) := by
      unfold eqR
      exact if_pos rfl
    rw [z]
    refine chk_ok ?_ ?_ fun s => ?_
    · show (decide (ns.length = (g x).length) && pls (g x)) = true
      rw [hp x hx, decide_eq_true (hl x hx)]
      rfl
    · show (decide (ns.length = (g y).length) && pls (g y)) = true
      rw [hp y hy, decide_eq_true (hl y hy)]
      rfl
    · exact decide_eq_true (hs x y hx hy (Bool.and_eq_true_iff.mp (show ((ns == ns) && simDs (g x) (g y)) = true from s)).2)
  pl := fun x hx => by
    show (decide (ns.length = (g x).length) && pls (g x)) = true
    rw [hp x hx, decide_eq_true (hl x hx)]
    rfl
  sim := fun x y hx hy s => hs x y hx hy (Bool.and_eq_true_iff.mp (show ((ns == ns) && simDs (g x) (g y)) = true from s)).2
theorem EqT.imp {P' : α → Prop} (h : EqT T a n P e) (i : ∀ x, P' x → P x) : EqT T a n P' e := ⟨fun x y hx hy => h.eq x y (i x hx) (i y hy), fun x hx => h.pl x (i x hx), fun x y hx hy => h.sim x y (i x hx) (i y hy)⟩
end
@[simp] theorem x_callS (g : FM) (fa : EA) (δ : Sw) (a : Sto) : DL.callS g fa δ a = (fa δ a).bind g := rfl
section
variable {ν κ β : Type} {gd : D → Option β} {body : β → ν → Fw ν ν}
end
section
variable {β : Type} {gd : D → Option β} {p : β → ET} {f : β → EM}
end
@[simp] theorem x_lcD {β : Type} (it : EI) (gd : D → Option β) (p : β → ET) (f : β → EM) (δ : Sw) (a : Sto) : lcD it gd p f δ a = (it δ a).bind fun ds a1 => (lcDo gd p f ds [] a1).map M.lst := rfl
@[simp] theorem g1_e (d : D) : g1 d = some d := rfl
@[simp] theorem g2_e (x y : D) : g2 (.tup [x, y]) = some (x, y) := rfl
@[simp] theorem g3_e (x y z : D) : g3 (.tup [x, y, z]) = some (x, y, z) := rfl
end DL
namespace DL
open PySem PySem.Spec PyProof.Rows L2
section
variable {ν κ : Type} {N : ν → SlM} {K : κ → SlM} {E : Option SlM} {S : SlM}
def seFg (k : Kd) (f : EM) : Fw D κ := fun a => (f [] a).fl fun m a' => if (clM k m && clA k a') = true then .nx (freeze m) a' else .stuck
@[simp] theorem x_seFg (k : Kd) (f : EM) (a : Sto) : (seFg k f : Fw D κ) a = (f [] a).fl fun m a' => if (clM k m && clA k a') = true then .nx (freeze m) a' else .stuck := rfl
theorem si_setFg {i : Nat} {I : List Nat} {f f' : EM} (h : Ev1 f (see I 0 S) f') (hk : knows I 0 S = true) (hi : i < S.length) (hE : FitO E S) (hF : FitO E (frz I 0 S)) : Si (fun d => S.set i (some (.val d))) K E (sSetF i I f) S (seFg (kin I 0 S) f') := fun δ a fit => by
  show SR _ K E ((f' [] a).fl _) ((lift I f δ a).seq fun m δ' a' => put i (.val (freeze m)) δ' a')
  obtain ⟨e1, e2⟩ := liftg h hk fit a
  rw [e1]
  show SR _ K E ((f' [] a).fl _) (Ox.seq (liftK I δ (f' [] a)) fun m δ' a' => put i (.val (freeze m)) δ' a')
  cases e : f' [] a with
  | ok d a1 =>
    show SR _ K E (if (clM (kin I 0 S) d && clA (kin I 0 S) a1) = true then _ else _) (put i (.val (freeze d)) (if (clM (kin I 0 δ) d && clA (kin I 0 δ) a1) = true then δ else frz I 0 δ) a1)
    rw [e2]
    by_cases c : (clM (kin I 0 S) d && clA (kin I 0 S) a1) = true
    · rw [if_pos c, if_pos c]
      exact ⟨_, put_e (by rw [fit.len]; exact hi), fit.set i _⟩
    · rw [if_neg c]
      exact trivial
  | exc c ns ds a1 => exact ⟨_, rfl, fitO_frz hE hF fit⟩
  | stuck => exact trivial
end
section
variable {β : Type} {gd : D → Option β} {p : β → ET} {f : β → EM}
end
@[simp] theorem new_lst (ds : List D) : (New.lst ds).d = .lst ds := rfl
theorem at_nat {α : Type} {l : List α} {k : Nat} : L2.atI l (k : Int) = l[k]? := by
  unfold L2.atI ixN
  by_cases h : k < l.length
  · simp [h]
  · simp [h]
@[simp] theorem mkTup2 (x y : D) : mkTup [.val x, .val y] = .val (.tup [x, y]) := rfl
@[simp] theorem hd_num {ν κ : Type} (b : Nat) (x y : D) (a : Sto) (r : List (HcD ν κ)) : hdF (⟨[b], [b], fun d1 => reM (mTup (lCons (mV (ev1 (dFld [] [b] "what") (eC d1))) (lCons (mV (ev1 (dFld [] [b] "value") (eC d1))) lNil)))⟩ :: r) b ["what", "value"] [x, y] a = .rt (.val (.tup [x, y])) a := by
  have f1 : dFld [] [b] "what" (.exc b ["what", "value"] [x, y]) = some x := if_pos List.mem_cons_self
  have f2 : dFld [] [b] "value" (.exc b ["what", "value"] [x, y]) = some y := if_pos List.mem_cons_self
  unfold hdF
  rw [if_pos List.mem_cons_self, if_pos List.mem_cons_self]
  simp [f1, f2, noExc]
section
variable {ms l l' : List M} {k : Nat} {κ : Type} {a a' : Sto} {f : EM} {m : M}
theorem js1 (k : Nat) : jsAt (some []) (iD (.int k)) = some [(k : Int)] := rfl
theorem ixN_nt {n k : Nat} (h : k < n) : ixN n (k : Int) = some k := by
  unfold ixN
  rw [if_pos (by omega), if_pos (by omega)]
  simp
end
def Lo (k : Kd) : Prop := k.t = false ∧ k.o = false
theorem lo_no : Lo Kd.no := ⟨rfl, rfl⟩
theorem Lo.or {a b : Kd} (h : Lo a) (h2 : Lo b) : Lo (a.or b) := ⟨by show (a.t || b.t) = false; rw [h.1, h2.1]; rfl, by show (a.o || b.o) = false; rw [h.2, h2.2]; rfl⟩
theorem lo_lst {ms : List M} (h : ∀ m ∈ ms, Lo (kdM m)) : Lo (kdM (.lst ms)) := by
  have z : ∀ ms : List M, (∀ m ∈ ms, Lo (kdM m)) → Lo (kdMs ms) := by
    intro ms
    induction ms with
    | nil => exact fun _ => lo_no
    | cons m ms ih => exact fun h => (h m List.mem_cons_self).or (ih fun x hx => h x (List.mem_cons_of_mem _ hx))
  exact Lo.or ⟨rfl, rfl⟩ (z ms h)
theorem lo_val (d : D) : Lo (kdM (.val d)) := lo_no
theorem lo_kin (I : List Nat) : ∀ (δ : SlM) (n : Nat), (∀ m, some m ∈ δ → Lo (kdM m)) → Lo (kin I n δ)
  | [], _, _ => lo_no
  | none :: δ, n, h => lo_kin I δ (n + 1) fun m hm => h m (List.mem_cons_of_mem _ hm)
  | some m :: δ, n, h => by
    have r := lo_kin I δ (n + 1) fun m hm => h m (List.mem_cons_of_mem _ hm)
    have hm := h m List.mem_cons_self
    cases m with
    | val d => exact r
    | pin k0 m0 =>
      cases m0 with
      | val d => exact r
      | _ =>
        unfold kin
        by_cases c : n ∈ I
        · rw [if_pos c]
          exact hm.or r
        · rw [if_neg c]
          exact r
    | _ =>
      unfold kin
      by_cases c : n ∈ I
      · rw [if_pos c]
        exact hm.or r
      · rw [if_neg c]
        exact r
theorem cls_all {k : Kd} : ∀ {l : List D}, (∀ d ∈ l, cl k d = true) → cls k l = true
  | [], _ => rfl
  | d :: l, h => by
    show (cl k d && cls k l) = true
    rw [h d List.mem_cons_self, cls_all fun x hx => h x (List.mem_cons_of_mem _ hx)]
    rfl
theorem Lo.tup {k : Kd} (h : Lo k) {l : List D} (hl : ∀ d ∈ l, cl k d = true) : cl k (.tup l) = true := by
  show (!k.t && cls k l) = true
  rw [h.1, cls_all hl]
  rfl
theorem Lo.obj {k : Kd} (h : Lo k) {c : Nat} {ns : List Str} {l : List D} (hl : ∀ d ∈ l, cl k d = true) : cl k (.obj c ns l) = true := by
  show (!k.o && cls k l) = true
  rw [h.2, cls_all hl]
  rfl
theorem Lo.ints {k : Kd} (h : Lo k) (l : List Int) : cl k (.tup (l.map D.int)) = true := h.tup fun d hd => by
  obtain ⟨i, _, rfl⟩ := List.mem_map.mp hd
  rfl
@[simp] theorem items_lst (l : List D) : items (.lst l) = some l := rfl
@[simp] theorem items_tup (l : List D) : items (.tup l) = some l := rfl
@[simp] theorem fz_val (d : D) : freeze (.val d) = d := rfl
@[simp] theorem fz_nil : freeze (.lst []) = .lst [] := rfl
end DL
namespace DL
open PySem PySem.Spec PyProof.Rows L2
def GxP {β : Type} (gd : D → Option β) (gt : D → Sw → Option Sw) (T : Sw) (Tb : β → Sw) : Prop := ∀ d w, FitD T w → ((gd d = none → gt d w = none) ∧ ∀ b, gd d = some b → ∃ w1, gt d w = some w1 ∧ FitD (Tb b) w1)
theorem gxp_2 {T : Sw} (i j : Nat) : GxP g2 (gxTup 2 (gxCons (gNm i) (gxCons (gNm j) gxNil))) T fun b => (T.set i (some b.1)).set j (some b.2) := fun d w h => by
  have z := gx_2 i j d w h
  refine ⟨fun e => ?_, fun b e => ?_⟩
  · rw [e] at z
    exact z
  · rw [e] at z
    exact z
theorem ev_lcP {β : Type} {T : Sw} {vs : List Nat} {it it' : EI} {gt : D → Sw → Option Sw} {ft : ET} {fe : EM} {gd : D → Option β} {p : β → ET} {f : β → EM} {Tb : β → Sw} (hi : Ev1 it T it')
    (hg : GxP gd gt (wipeD T vs) Tb) (hp : ∀ b, Ev1 ft (Tb b) (p b)) (hf : ∀ b, Ev1 fe (Tb b) (f b)) : Ev1 (lcM vs it gt ft fe) T (lcD it' gd p f) := ev_lcM hi (fun d w h => by
  have z := hg d w h
  cases e : gd d with
  | none => exact z.1 e
  | some b => exact z.2 b e) hp hf
end DL
namespace DL
open PySem PySem.Spec PyProof.Rows L2
end DL
namespace DL
open PySem PySem.Spec PyProof.Rows L2
section
variable {ν κ β : Type} {K : κ → SlM} {E : Option SlM} {S : SlM}
end
end DL
namespace DL
open PySem PySem.Spec PyProof.Rows L2
section
variable {β γ : Type}
end
end DL
namespace DL
open PySem PySem.Spec PyProof.Rows L2
theorem Fit.tl {o x : Option M} {S δ : SlM} (f : Fit (o :: S) (x :: δ)) : Fit S δ := by
  cases f with
  | any f => exact f
  | is f => exact f
inductive LnF (I : List Nat) (k : Kd) : Nat → SlM → SlM → SlM → Prop where
  | nil {n : Nat} : LnF I k n [] [] []
  | pin {n : Nat} {o : Option M} {m : M} {S X T : SlM} : (decide (n ∈ I) || isVal o) = true → LnF I k (n + 1) S X T → LnF I k n (o :: S) (some (.pin n m) :: X) (o :: T)
  | new {n : Nat} {o : Option M} {m : M} {S X T : SlM} : decide (n ∈ I) = false → (clM k m && npM m) = true → LnF I k (n + 1) S X T → LnF I k n (o :: S) (some m :: X) (some m :: T)
  | any {n : Nat} {o x : Option M} {S X T : SlM} : LnF I k (n + 1) S X T → LnF I k n (o :: S) (x :: X) (none :: T)
theorem LnF.ok {I : List Nat} {k : Kd} : ∀ {n : Nat} {S X T δ δ' : SlM}, LnF I k n S X T → Fit S δ → Fit X δ' → ∃ T', lnS I k n δ δ' = some T' ∧ Fit T T'
  | _, _, _, _, _, _, .nil, .nil, .nil => ⟨[], rfl, .nil⟩
  | n, _, _, _, o2 :: δ, o3 :: δ', .any h, f, g => by
    obtain ⟨T', e, t⟩ := LnF.ok h f.tl g.tl
    refine ⟨ln1 I k n o2 o3 :: T', ?_, .any t⟩
    show (lnS I k (n + 1) δ δ').map _ = _
    rw [e]
    rfl
  | n, _, _, _, _, _, .pin c h, f, .is g => by
    cases f with
    | any f =>
      obtain ⟨T', e, t⟩ := LnF.ok h f g
      refine ⟨_, by
        show (lnS I k (n + 1) _ _).map _ = _
        rw [e]
        rfl, .any t⟩
    | is f =>
      obtain ⟨T', e, t⟩ := LnF.ok h f g
      rename_i m0 _ _
      refine ⟨some _ :: T', ?_, .is t⟩
      show (lnS I k (n + 1) _ _).map (fun t => (if n = n ∧ (n ∈ I ∨ isVal (some _) = true) then some _ else none) :: t) = _
      rw [e, if_pos ⟨rfl, by
        rcases Bool.or_eq_true_iff.mp c with c | c
        · exact .inl (of_decide_eq_true c)
        · exact .inr c⟩]
      rfl
  | n, _, _, _, o2 :: δ, _, .new (m := m) c1 c2 h, f, .is g => by
    obtain ⟨T', e, t⟩ := LnF.ok h f.tl g
    have key : ln1 I k n o2 (some m) = some m := by
      have c3 : (!decide (n ∈ I) && (clM k m && npM m)) = true := by
        rw [c1, c2]
        rfl
      cases m with
      | pin _ _ =>
        rw [Bool.and_eq_true] at c2
        exact nomatch c2.2
      | _ => exact if_pos c3
    refine ⟨some m :: T', ?_, .is t⟩
    show (lnS I k (n + 1) δ _).map _ = _
    rw [e]
    show some (ln1 I k n o2 (some m) :: T') = _
    rw [key]
section
variable {ν κ : Type} {N N1 : ν → SlM} {K : κ → SlM} {S : SlM}
end
end DL
namespace DL
open PySem PySem.Spec PyProof.Rows L2
section
variable {T : Sw}
theorem ev_tTr {f f' : EV} (h1 : Ev1 f T f') : Ev1 (tTr f) T (tTr f') := fun w a k => by unfold tTr; rw [h1.at k]
theorem ev_vCh {g g' : D → D → Option D} {f f' h h' k k' : EV} (h1 : Ev1 f T f') (h2 : Ev1 h T h') (h3 : Ev1 k T k') : Ev1 (vCh g g' f h k) T (vCh g g' f' h' k') := fun w a z => by unfold vCh; rw [h1.at z, h2.at z, h3.at z]
end
class Wr (w : List M → M) : Prop where
  foc : ∀ js l, focL js (w l) = focL js (.lst l)
  put : ∀ js n l z, putL js n (.lst l) = .lst z → putL js n (w l) = w z
instance : Wr M.lst := ⟨fun _ _ => rfl, fun _ _ _ _ h => h⟩
def wP (q : Nat) (l : List M) : M := .pin q (.lst l)
instance (q : Nat) : Wr (wP q) := ⟨fun js l => focL_pin q l js, fun js n l z h => by
  show putL js n (.pin q (.lst l)) = .pin q (.lst z)
  rw [putL_pin, h]⟩
section
variable {ν κ : Type} {N : ν → SlM} {K : κ → SlM} {E : Option SlM} {S : SlM} {w : List M → M} [Wr w]
theorem si_setPw {i : Nat} {I : List Nat} {kd : Kd} {ms : List M} {js : Option (List Int)} {k : Option Int} {fp : QP} {fk : QI} {f f' : EM} (hi : S[i]? = some (some (w ms))) (hp : ∀ δ, Fit S δ → fp δ = js) (hq : ∀ δ, Fit S δ → fk δ = k) (h : Ev1 f (see I 0 S) f') (hk : knows I 0 S = true) (hkd : kin I 0 S = kd) (hE : FitO E S) (hF : FitO E (frz I 0 S)) :
    Si (fun l => S.set i (some (w l))) K E (sSetP I i fp fk f) S (setPF kd f' ms js k) := fun δ a fit => by
  show SR _ K E ((f' [] a).fl _) (sSetP I i fp fk f δ a)
  unfold sSetP
  obtain ⟨e1, e2⟩ := liftg h hk fit a
  rw [e1]
  cases e : f' [] a with
  | ok m a1 =>
    show SR _ K E (if (clM kd m && clA kd a1) = true then _ else _) (Ox.seq (.ok m (if (clM (kin I 0 δ) m && clA (kin I 0 δ) a1) = true then δ else frz I 0 δ) a1) _)
    rw [e2, hkd, oseq_ok]
    by_cases c1 : (clM kd m && clA kd a1) = true
    · rw [if_pos c1, if_pos c1, fit.get hi]
      dsimp only
      rw [hp δ fit, hq δ fit]
      cases js with
      | none => exact trivial
      | some js =>
        dsimp only
        rw [Wr.foc (w := w)]
        cases ef : focL js (.lst ms) with
        | none =>
          unfold putF
          dsimp only
          rw [ef]
          exact trivial
        | some l =>
          cases k with
          | none =>
            unfold putF atK
            dsimp only
            rw [ef]
            exact trivial
          | some k =>
            cases ex : ixN l.length k with
            | none =>
              unfold putF atK
              dsimp only
              rw [ef]
              dsimp only
              rw [ex]
              exact trivial
            | some j =>
              obtain ⟨z, hz⟩ := putL_lst js (l.set j m) ms
              unfold putF atK
              dsimp only
              rw [ef]
              dsimp only
              rw [ex]
              dsimp only
              rw [hz, Wr.put (w := w) js _ ms z hz]
              exact ⟨_, rfl, fit.set i _⟩
    · rw [if_neg c1]
      exact trivial
  | exc c ns ds a1 => exact ⟨_, rfl, fitO_frz hE hF fit⟩
  | stuck => exact trivial
theorem si_fz {I : List Nat} {m : SM} {f : Fw ν κ} (h : Si N K E m (frz I 0 S) f) : Si N K E (sFz I m) S f := fun δ a fit => h _ a fit.frz
def atG (g : Int → Int → Int) (k : Option Int) (y : Int) (l : List M) : Option (List M) := match k with
  | some k => (match ixN l.length k with
    | some j => (match l[j]? with
      | some m0 => (match intM m0 with
        | some x => some (l.set j (.val (.int (g x y))))
        | none => none)
      | none => none)
    | none => none)
  | none => none
def augPF (kd : Kd) (g : Int → Int → Int) (f : EM) (ms : List M) (js : Option (List Int)) (k : Option Int) : Fw (List M) κ := fun a => (f [] a).fl fun m a' => match intM m with
  | some y => if (clM kd m && clA kd a') = true then (match putF ms js (atG g k y) with
    | some l => .nx l a'
    | none => .stuck) else .stuck
  | none => .stuck
theorem putF_atG {g : Int → Int → Int} {ms : List M} {js : Option (List Int)} {k : Option Int} {y : Int} {r : List M} (e : putF ms js (atG g k y) = some r) : ∃ js' l k' j m0 x, js = some js' ∧ focL js' (.lst ms) = some l ∧ k = some k' ∧ ixN l.length k' = some j ∧ l[j]? = some m0 ∧ intM m0 = some x ∧ putL js' (l.set j (.val (.int (g x y)))) (.lst ms) = .lst r := by
  unfold putF at e
  cases js with
  | none => cases e
  | some js' =>
    dsimp only at e
    cases c1 : focL js' (.lst ms) with
    | none =>
      rw [c1] at e
      cases e
    | some l =>
      rw [c1] at e
      dsimp only at e
      unfold atG at e
      cases k with
      | none => cases e
      | some k' =>
        dsimp only at e
        cases c2 : ixN l.length k' with
        | none =>
          rw [c2] at e
          cases e
        | some j =>
          rw [c2] at e
          dsimp only at e
          cases c3 : l[j]? with
          | none =>
            rw [c3] at e
            cases e
          | some m0 =>
            rw [c3] at e
            dsimp only at e
            cases c4 : intM m0 with
            | none =>
              rw [c4] at e
              cases e
            | some x =>
              rw [c4] at e
              dsimp only at e
              obtain ⟨z, hz⟩ := putL_lst js' (l.set j (.val (.int (g x y)))) ms
              rw [hz] at e
              cases e
              exact ⟨js', l, k', j, m0, x, rfl, c1, rfl, c2, c3, c4, hz⟩
theorem si_augPw {i : Nat} {g : Int → Int → Int} {ms : List M} {js : Option (List Int)} {k : Option Int} {fp : QP} {fk : QI} {y : Int} (hi : S[i]? = some (some (w ms))) (hl : i < S.length) (hp : ∀ δ, Fit S δ → fp δ = js) (hq : ∀ δ, Fit S δ → fk δ = k) :
    Si (fun l => S.set i (some (w l))) K E (sAugP [] i fp fk g (mV (eC (.int y)))) S (augPF Kd.no g (mV (eC (.int y))) ms js k) := fun δ a fit => by
  show SR _ K E (if (clM Kd.no (.val (.int y)) && clA Kd.no a) = true then (match putF ms js (atG g k y) with
    | some l => .nx l a
    | none => .stuck) else .stuck) (sAugP [] i fp fk g (mV (eC (.int y))) δ a)
  rw [if_pos (by rw [clM_no, clA_no]; rfl)]
  cases e : putF ms js (atG g k y) with
  | none => exact trivial
  | some r =>
    obtain ⟨js', l, k', j, m0, x, e1, e2, e3, e4, e5, e6, e7⟩ := putF_atG e
    unfold sAugP
    rw [fit.get hi]
    dsimp only
    rw [hp δ fit, e1]
    dsimp only
    rw [Wr.foc (w := w), e2]
    dsimp only
    rw [hq δ fit, e3]
    dsimp only
    rw [e4]
    dsimp only
    rw [e5]
    dsimp only
    rw [e6]
    dsimp only
    rw [lift0 (S := S.set i none) (f' := mV (eC (.int y))) (ev_mV ev_c) (fit.set i none)]
    show SR _ K E _ (if i < (δ.set i none).length then _ else _)
    rw [if_pos (by rw [List.length_set, fit.len]; exact hl), Wr.put (w := w) js' _ ms r e7, List.set_set]
    exact ⟨_, rfl, fit.set i _⟩
end
def AtJ : List Nat → List (List M) → SlM → Prop
  | [], [], _ => True
  | j :: js, l :: ls, S => S[j]? = some (some (wP j l)) ∧ AtJ js ls S
  | _, _, _ => False
theorem AtJ.fit : ∀ {js : List Nat} {ls : List (List M)} {S δ : SlM}, AtJ js ls S → Fit S δ → AtJ js ls δ
  | [], [], _, _, _, _ => trivial
  | j :: js, l :: ls, _, _, h, f => ⟨f.get h.1, AtJ.fit h.2 f⟩
theorem AtJ.gets : ∀ {js : List Nat} {ls : List (List M)} {δ : SlM}, js.Nodup → AtJ js ls δ → DL.gets js δ = some (ls.map M.lst)
  | [], [], _, _, _ => rfl
  | j :: js, l :: ls, δ, hn, h => by
    obtain ⟨h1, h2⟩ := List.nodup_cons.mp hn
    have key : ∀ {js : List Nat} {ls : List (List M)}, j ∉ js → AtJ js ls δ → AtJ js ls (δ.set j none) := by
      intro js
      induction js with
      | nil => intro ls _ h; cases ls <;> exact h
      | cons k js ih =>
        intro ls hj h
        cases ls with
        | nil => exact h
        | cons l ls =>
          refine ⟨?_, ih (fun z => hj (List.mem_cons_of_mem _ z)) h.2⟩
          rw [List.getElem?_set_ne (fun e : j = k => hj (by rw [e]; exact List.mem_cons_self))]
          exact h.1
    unfold DL.gets
    rw [h.1]
    show (if j = j then (DL.gets js (δ.set j none)).map (fun ms => M.lst l :: ms) else none) = _
    rw [if_pos rfl, AtJ.gets h2 (key h1 h.2)]
    rfl
def SRT (js : List Nat) : Fl (M × List (List M)) Empty → OutT → Prop
  | .nx p a, o => ∃ δ, (o = .rt p.1 δ a ∨ (o = .nx δ a ∧ p.1 = .val .non)) ∧ AtJ js p.2 δ
  | .exc c ns ds a, o => o = .exc c ns ds a
  | _, _ => True
def SiT (js : List Nat) (g : TM) (S : SlM) (f : Fw (M × List (List M)) Empty) : Prop := ∀ δ a, Fit S δ → SRT js (f a) (g δ a)
section
variable {ν : Type} {N1 : ν → SlM} {S : SlM} {js : List Nat}
theorem sit_seq {m : SM} {g : TM} {f : Fw ν Empty} {t : ν → Fw (M × List (List M)) Empty} (h : Si N1 noK none m S f) (k : ∀ s, SiT js g (N1 s) (t s)) : SiT js (seqT m g) S (thn f t) := fun δ a fit => by
  have z := h δ a fit
  show SRT js ((f a).thn t) (match m δ a with
    | .nx δ' a' => g δ' a'
    | .exc c ns ds _ a' => .exc c ns ds a'
    | _ => .stuck)
  cases c : f a with
  | nx s a1 =>
    rw [c] at z
    obtain ⟨δ1, e1, f1⟩ := z
    rw [e1]
    exact k s δ1 a1 f1
  | exc cc ns ds a1 =>
    rw [c] at z
    obtain ⟨δ1, e1, _⟩ := z
    rw [e1]
    exact rfl
  | rt _ _ => exact trivial
  | bk k _ => cases k
  | ct k _ => cases k
  | stuck => exact trivial
theorem sit_retO {i : Nat} {m : M} {ls : List (List M)} (h : S[i]? = some (some m)) (k : AtJ js ls (S.set i none)) : SiT js (retTO i) S (nxF (m, ls)) := fun δ a fit => by
  refine ⟨δ.set i none, .inl ?_, k.fit (fit.set i none)⟩
  unfold retTO
  rw [fit.get h]
end
def fnOT : Fl (M × List (List M)) Empty → Out (M × List M)
  | .nx p a => if (npM p.1 && npMs (p.2.map M.lst)) = true then .ok (p.1, p.2.map M.lst) a else .stuck
  | .exc c ns ds a => .exc c ns ds a
  | _ => .stuck
theorem fn_toT {js : List Nat} {n : Nat} {g : TM} {ms : List M} {f : Fw (M × List (List M)) Empty} (hj : js.Nodup) (h : SiT js g (pinT js 0 ms ++ List.replicate (n - ms.length) none) f) {a : Sto} {o : Out (M × List M)} (e : fnOT (f a) = o) (ho : o ≠ .stuck) : bodyT js n g ms a = o := by
  have z := h _ a (Fit.refl _)
  unfold bodyT
  subst e
  cases c : f a with
  | nx p a1 =>
    rw [c] at z ho
    obtain ⟨δ, e1, at1⟩ := z
    have key : fromT js p.1 δ a1 = fnOT (.nx p a1) := by
      unfold fromT
      rw [at1.gets hj]
      rfl
    rcases e1 with e1 | ⟨e1, e2⟩
    · rw [e1]
      exact key
    · rw [e1]
      dsimp only
      rw [← e2]
      exact key
  | exc cc ns ds a1 =>
    rw [c] at z
    have z' : g (pinT js 0 ms ++ List.replicate (n - ms.length) none) a = .exc cc ns ds a1 := z
    rw [z'] <;> rfl
  | rt _ _ =>
    rw [c] at ho
    exact absurd rfl ho
  | bk k _ => cases k
  | ct k _ => cases k
  | stuck =>
    rw [c] at ho
    exact absurd rfl ho
def EvGt (fa : EGt) (S S' : SlM) (fa' : Sto → Out (List M)) : Prop := ∀ δ a, Fit S δ → ∃ δ', Fit S' δ' ∧ fa δ a = (fa' a).map fun ms => (ms, δ')
def dgNil : Sto → Out (List M) := fun a => .ok [] a
def dgCons (f : EV) (g : Sto → Out (List M)) : Sto → Out (List M) := fun a => match f [] a with
  | .ok d a1 => (match g a1 with
    | .ok ms a2 => .ok (.val d :: ms) a2
    | _ => .stuck)
  | _ => .stuck
def dgHere (m : M) (g : Sto → Out (List M)) : Sto → Out (List M) := fun a => match g a with
  | .ok ms a2 => .ok (m :: ms) a2
  | _ => .stuck
theorem evg_nil {S : SlM} : EvGt gtNil S S dgNil := fun δ a fit => ⟨δ, fit, rfl⟩
theorem evg_cons {S S' : SlM} {f f' : EV} {g : EGt} {g' : Sto → Out (List M)} (h : Ev1 f (see [] 0 S) f') (k : EvGt g S S' g') : EvGt (gtCons f g) S S' (dgCons f' g') := fun δ a fit => by
  unfold gtCons dgCons
  rw [h _ a fit.see]
  cases f' [] a with
  | ok d a1 =>
    obtain ⟨δ', fit', e⟩ := k δ a1 fit
    refine ⟨δ', fit', ?_⟩
    dsimp only
    rw [e]
    cases g' a1 <;> rfl
  | exc c ns ds a1 =>
    obtain ⟨δ', fit', e⟩ := k δ a fit
    exact ⟨δ', fit', rfl⟩
  | stuck =>
    obtain ⟨δ', fit', e⟩ := k δ a fit
    exact ⟨δ', fit', rfl⟩
theorem evg_here {S S' : SlM} {i : Nat} {m : M} {g : EGt} {g' : Sto → Out (List M)} (e0 : S[i]? = some (some m)) (k : EvGt g (S.set i none) S' g') : EvGt (gtHere i g) S S' (dgHere m g') := fun δ a fit => by
  obtain ⟨δ', fit', e⟩ := k (δ.set i none) a (fit.set i none)
  refine ⟨δ', fit', ?_⟩
  unfold gtHere dgHere
  rw [fit.get e0]
  dsimp only
  rw [e]
  cases g' a <;> rfl
def giveD (n : Nat) (g : FT) (fa : Sto → Out (List M)) : Sto → Out (M × List M) := fun a => match fa a with
  | .ok ms a1 => if ms.length = n then g ms a1 else .stuck
  | _ => .stuck
def ExD (x : XM) (S S' : SlM) (is : List Nat) (x' : Sto → Out (M × List M)) : Prop := ∀ δ a, Fit S δ → ∃ δ', Fit S' δ' ∧ x δ a = match x' a with
  | .ok p a1 => (match puts is p.2 δ' with
    | some δ2 => .ok p.1 δ2 a1
    | none => .stuck)
  | .exc c ns ds a1 => .exc c ns ds δ' a1
  | .stuck => .stuck
theorem ex_give {S S' : SlM} {n : Nat} {is : List Nat} {g : FT} {fa : EGt} {fa' : Sto → Out (List M)} (h : EvGt fa S S' fa') : ExD (giveM n is g fa) S S' is (giveD n g fa') := fun δ a fit => by
  obtain ⟨δ', fit', e⟩ := h δ a fit
  refine ⟨δ', fit', ?_⟩
  unfold giveM giveD
  rw [e]
  cases fa' a with
  | ok ms a1 =>
    show (if ms.length = n then _ else _) = _
    dsimp only
    by_cases hl : ms.length = n
    · rw [if_pos hl, if_pos hl]
      cases g ms a1 with
      | ok p a2 => rfl
      | exc c ns ds a2 => rfl
      | stuck => rfl
    · rw [if_neg hl, if_neg hl]
  | exc c ns ds a1 => rfl
  | stuck => rfl
theorem puts_fit : ∀ {is : List Nat} {ms : List M} {S δ S2 : SlM}, Fit S δ → puts is ms S = some S2 → ∃ δ2, puts is ms δ = some δ2 ∧ Fit S2 δ2
  | [], [], S, δ, S2, f, e => by
    cases e
    exact ⟨δ, rfl, f⟩
  | i :: is, m :: ms, S, δ, S2, f, e => by
    unfold puts at e ⊢
    by_cases hi : i < S.length
    · rw [if_pos hi] at e
      rw [if_pos (by rw [f.len]; exact hi)]
      exact puts_fit (f.set i _) e
    · rw [if_neg hi] at e
      cases e
  | [], _ :: _, _, _, _, _, e => by cases e
  | _ :: _, [], _, _, _, _, e => by cases e
def uls2 : List M → Option (List M × List M)
  | [.lst a, .lst b] => some (a, b)
  | _ => none
theorem uls2_ls {l : List M} {t : List M × List M} (h : uls2 l = some t) : l = [.lst t.1, .lst t.2] := by
  unfold uls2 at h
  split at h
  · cases h
    rfl
  · cases h
section
variable {κ τ : Type} {K : κ → SlM} {S S' : SlM}
def extD (ms : List M) (un : List M → Option τ) (x : Sto → Out (M × List M)) : Fw (List M × τ) κ := fun a => (x a).fl fun p a1 => match extM p.1, un p.2 with
  | some ms2, some t => if ms.length < 100000 ∧ ms2.length < 100000 then .nx (ms ++ ms2, t) a1 else .stuck
  | _, _ => .stuck
theorem si_extX {i : Nat} {is : List Nat} {ms : List M} {x : XM} {x' : Sto → Out (M × List M)} {un : List M → Option τ} {ls : τ → List M} {N0 : τ → SlM} (hi : S[i]? = some (some (.lst ms))) (hx : ExD x (S.set i none) S' is x') (hls : ∀ l t, un l = some t → l = ls t) (hN : ∀ t, puts is (ls t) S' = some (N0 t)) (hl : ∀ t, i < (N0 t).length) :
    Si (fun s : List M × τ => (N0 s.2).set i (some (.lst s.1))) K none (sExt i ptNil x) S (extD ms un x') := fun δ a fit => by
  obtain ⟨δ', fit', e⟩ := hx (δ.set i none) a (fit.set i none)
  show SR _ K none ((x' a).fl _) (sExt i ptNil x δ a)
  unfold sExt
  rw [fit.get hi]
  show SR _ K none ((x' a).fl _) ((x (δ.set i none) a).seq fun m δ1 a1 => match extM m with
        | some ms2 => if (ms.length < 100000 ∧ ms2.length < 100000) ∧ i < δ1.length then .nx (δ1.set i (some (putL [] (ms ++ ms2) (.lst ms)))) a1 else .stuck
        | none => .stuck)
  rw [e]
  cases c : x' a with
  | ok p a1 =>
    dsimp only [fl_ok]
    cases c1 : extM p.1 with
    | none => exact trivial
    | some ms2 =>
      cases c2 : un p.2 with
      | none => exact trivial
      | some t =>
        dsimp only
        by_cases c3 : ms.length < 100000 ∧ ms2.length < 100000
        · rw [if_pos c3, hls _ _ c2]
          obtain ⟨δ2, e2, f2⟩ := puts_fit fit' (hN t)
          rw [e2]
          show SR _ K none _ (match extM p.1 with
            | some ms2 => if (ms.length < 100000 ∧ ms2.length < 100000) ∧ i < δ2.length then .nx (δ2.set i (some (putL [] (ms ++ ms2) (.lst ms)))) a1 else .stuck
            | none => .stuck)
          rw [c1]
          dsimp only
          rw [if_pos ⟨c3, by rw [f2.len]; exact hl t⟩]
          exact ⟨_, rfl, f2.set i _⟩
        · rw [if_neg c3]
          exact trivial
  | exc cc ns ds a1 => exact ⟨_, rfl, trivial⟩
  | stuck => exact trivial
end
end DL
namespace TL
open PySem PySem.Spec PyProof.Rows L2 DL
inductive Ot (Z τ : Type) where
  | ok (x : τ) (z : Z)
  | exc (c : Nat) (ds : List D) (z : Z)
  | stuck
abbrev X (Z τ : Type) := Z → Ot Z τ
section
variable {Z α β γ : Type}
def ret (x : α) : X Z α := fun z => .ok x z
def stk : X Z α := fun _ => .stuck
def thr (c : Nat) (ds : List D) : X Z α := fun z => .exc c ds z
def Ot.bnd (o : Ot Z α) (f : α → X Z β) : Ot Z β := match o with
  | .ok x z => f x z
  | .exc c ds z => .exc c ds z
  | .stuck => .stuck
def bnd (s : X Z α) (f : α → X Z β) : X Z β := fun z => (s z).bnd f
def grd (c : Prop) [Decidable c] (s : X Z α) : X Z α := if c then s else stk
def lft (s : X Unit α) : X Z α := fun z => match s () with
  | .ok x _ => .ok x z
  | .exc c ds _ => .exc c ds z
  | .stuck => .stuck
@[simp] theorem bnd_ret (x : α) (f : α → X Z β) : bnd (ret x) f = f x := rfl
@[simp] theorem bnd_thr (c : Nat) (ds : List D) (f : α → X Z β) : bnd (thr c ds) f = thr c ds := rfl
@[simp] theorem bnd_stk (f : α → X Z β) : bnd stk f = stk := rfl
@[simp] theorem bnd_grd (c : Prop) [Decidable c] (s : X Z α) (f : α → X Z β) : bnd (grd c s) f = grd c (bnd s f) := by
  unfold grd
  split <;> rfl
@[simp] theorem grd_true (s : X Z α) : grd True s = s := rfl
theorem grd_pos {c : Prop} [Decidable c] (h : c) (s : X Z α) : grd c s = s := if_pos h
@[simp] theorem bnd_ite (c : Prop) [Decidable c] (s t : X Z α) (f : α → X Z β) : bnd (if c then s else t) f = if c then bnd s f else bnd t f := by
  split <;> rfl
@[simp] theorem lft_ret (x : α) : lft (ret x) = (ret x : X Z α) := rfl
@[simp] theorem lft_thr (c : Nat) (ds : List D) : lft (thr c ds) = (thr c ds : X Z α) := rfl
@[simp] theorem lft_stk : lft stk = (stk : X Z α) := rfl
@[simp] theorem lft_grd (c : Prop) [Decidable c] (s : X Unit α) : lft (grd c s) = (grd c (lft s) : X Z α) := by
  unfold grd
  split <;> rfl
@[simp] theorem lft_ite (c : Prop) [Decidable c] (s t : X Unit α) : lft (if c then s else t) = if c then (lft s : X Z α) else lft t := by
  split <;> rfl
@[simp] theorem lft_bnd (s : X Unit α) (f : α → X Unit β) : (lft (bnd s f) : X Z β) = bnd (lft s) fun x => lft (f x) := by
  funext z
  show (match (s ()).bnd f with | .ok x _ => _ | .exc c ds _ => _ | .stuck => _) = Ot.bnd (match s () with | .ok x _ => _ | .exc c ds _ => _ | .stuck => _) _
  cases s () <;> rfl
@[simp] theorem bnd_ap (s : X Z α) (f : α → X Z β) (z : Z) : bnd s f z = (s z).bnd f := rfl
@[simp] theorem ret_ap (x : α) (z : Z) : (ret x : X Z α) z = .ok x z := rfl
@[simp] theorem thr_ap (c : Nat) (ds : List D) (z : Z) : (thr c ds : X Z α) z = .exc c ds z := rfl
@[simp] theorem obnd_ok (x : α) (z : Z) (f : α → X Z β) : (Ot.ok x z).bnd f = f x z := rfl
@[simp] theorem obnd_exc (c : Nat) (ds : List D) (z : Z) (f : α → X Z β) : (Ot.exc c ds z : Ot Z α).bnd f = .exc c ds z := rfl
@[simp] theorem obnd_stuck (f : α → X Z β) : (Ot.stuck : Ot Z α).bnd f = .stuck := rfl
end
section
variable {α β γ δ : Type}
def eN (_ : Unit) : D := .non
def eL (e : α → D) (xs : List α) : D := .lst (xs.map e)
def eT (e : α → D) (xs : List α) : D := .tup (xs.map e)
def eP (e : α → D) (f : β → D) (p : α × β) : D := .tup [e p.1, f p.2]
def eP3 (e : α → D) (f : β → D) (g : γ → D) (p : α × β × γ) : D := .tup [e p.1, f p.2.1, g p.2.2]
def eP4 (e : α → D) (f : β → D) (g : γ → D) (h : δ → D) (p : α × β × γ × δ) : D := .tup [e p.1, f p.2.1, g p.2.2.1, h p.2.2.2]
def eO (e : α → D) : Option α → D
  | none => .non
  | some x => e x
def eSum (e : α → D) (f : β → D) : α ⊕ β → D
  | .inl x => e x
  | .inr y => f y
def NL (d : D) : Prop := ∀ m, noLoc m d = true
def NLs (ds : List D) : Prop := ∀ m, noLocs m ds = true
abbrev Dn := {d : D // NL d}
def eD (d : Dn) : D := d.1
def xn : Nat → List Str
  | 1 => ["name"]
  | 2 => ["what", "value"]
  | 3 => ["turn"]
  | 4 => ["standing"]
  | 5 => ["limit"]
  | 6 => ["plot", "day"]
  | 7 => ["standing"]
  | 8 => ["row", "reason"]
  | 10 => ["day"]
  | 11 => ["line"]
  | 13 => ["place"]
  | _ => []
def eX (p : Nat × List D) : D := .exc p.1 (xn p.1) p.2
def eScr (l : List Int) : D := .scr l
def vm (e : α → D) (x : α) : M := .val (e x)
def lm (m : α → M) (xs : List α) : M := .lst (xs.map m)
def om2 (m : α → M) (n : β → M) (p : α × β) : M := .tup [m p.1, n p.2]
def om3 (m : α → M) (n : β → M) (k : γ → M) (p : α × β × γ) : M := .tup [m p.1, n p.2.1, k p.2.2]
def mSum (m : α → M) (n : β → M) : α ⊕ β → M
  | .inl x => m x
  | .inr y => n y
theorem NLs.nil : NLs [] := fun _ => rfl
theorem NLs.cons {d : D} {ds : List D} (h : NL d) (k : NLs ds) : NLs (d :: ds) := fun m => by
  show (noLoc m d && noLocs m ds) = true
  rw [h m, k m]
  rfl
theorem NLs.map {e : α → D} (h : ∀ x, NL (e x)) : ∀ xs : List α, NLs (xs.map e)
  | [] => .nil
  | x :: xs => .cons (h x) (NLs.map h xs)
class NoL (e : α → D) : Prop where
  nl : ∀ x, NL (e x)
instance : NoL D.int := ⟨fun _ _ => rfl⟩
instance : NoL D.bl := ⟨fun _ _ => rfl⟩
instance : NoL D.str := ⟨fun _ _ => rfl⟩
instance : NoL eN := ⟨fun _ _ => rfl⟩
instance : NoL eScr := ⟨fun _ _ => rfl⟩
instance : NoL eD := ⟨fun d => d.2⟩
instance {e : α → D} [NoL e] : NoL (eL e) := ⟨fun xs m => NLs.map (NoL.nl (e := e)) xs m⟩
instance {e : α → D} [NoL e] : NoL (eT e) := ⟨fun xs m => NLs.map (NoL.nl (e := e)) xs m⟩
instance {e : α → D} {f : β → D} [NoL e] [NoL f] : NoL (eP e f) := ⟨fun p => NLs.cons (NoL.nl p.1) (.cons (NoL.nl p.2) .nil)⟩
instance {e : α → D} {f : β → D} {g : γ → D} [NoL e] [NoL f] [NoL g] : NoL (eP3 e f g) := ⟨fun p => NLs.cons (NoL.nl p.1) (.cons (NoL.nl p.2.1) (.cons (NoL.nl p.2.2) .nil))⟩
instance {e : α → D} {f : β → D} {g : γ → D} {h : δ → D} [NoL e] [NoL f] [NoL g] [NoL h] : NoL (eP4 e f g h) := ⟨fun p => NLs.cons (NoL.nl p.1) (.cons (NoL.nl p.2.1) (.cons (NoL.nl p.2.2.1) (.cons (NoL.nl p.2.2.2) .nil)))⟩
instance {e : α → D} [NoL e] : NoL (eO e) := ⟨fun x => by cases x with | none => exact fun _ => rfl | some x => exact NoL.nl x⟩
instance {e : α → D} {f : β → D} [NoL e] [NoL f] : NoL (eSum e f) := ⟨fun x => by cases x with | inl x => exact NoL.nl x | inr x => exact NoL.nl x⟩
class Cl (e : α → D) : Prop where
  cl : ∀ k x, Lo k → cl k (e x) = true
theorem cls_map {e : α → D} {k : Kd} (h : ∀ x, cl k (e x) = true) : ∀ xs : List α, cls k (xs.map e) = true
  | [] => rfl
  | x :: xs => by
    show (cl k (e x) && cls k (xs.map e)) = true
    rw [h x, cls_map h xs]
    rfl
instance : Cl D.int := ⟨fun _ _ _ => rfl⟩
instance : Cl D.bl := ⟨fun _ _ _ => rfl⟩
instance : Cl D.str := ⟨fun _ _ _ => rfl⟩
instance : Cl eN := ⟨fun _ _ _ => rfl⟩
theorem cl_tup {k : Kd} (h : Lo k) {ds : List D} (c : cls k ds = true) : cl k (.tup ds) = true := by
  show (!k.t && cls k ds) = true
  rw [h.1, c]
  rfl
theorem cls_2 {k : Kd} {a b : D} (h : cl k a = true) (h' : cl k b = true) : cls k [a, b] = true := by
  show (cl k a && (cl k b && true)) = true
  rw [h, h']
  rfl
theorem cls_3 {k : Kd} {a b c : D} (h : cl k a = true) (h' : cl k b = true) (h2 : cl k c = true) : cls k [a, b, c] = true := by
  show (cl k a && (cl k b && (cl k c && true))) = true
  rw [h, h', h2]
  rfl
theorem cls_4 {k : Kd} {a b c d : D} (h : cl k a = true) (h' : cl k b = true) (h2 : cl k c = true) (h3 : cl k d = true) : cls k [a, b, c, d] = true := by
  show (cl k a && (cl k b && (cl k c && (cl k d && true)))) = true
  rw [h, h', h2, h3]
  rfl
instance {e : α → D} [Cl e] : Cl (eT e) := ⟨fun k xs h => cl_tup h (cls_map (fun x => Cl.cl k x h) xs)⟩
instance {e : α → D} {f : β → D} [Cl e] [Cl f] : Cl (eP e f) := ⟨fun k p h => cl_tup h (cls_2 (Cl.cl k _ h) (Cl.cl k _ h))⟩
instance {e : α → D} {f : β → D} {g : γ → D} [Cl e] [Cl f] [Cl g] : Cl (eP3 e f g) := ⟨fun k p h => cl_tup h (cls_3 (Cl.cl k _ h) (Cl.cl k _ h) (Cl.cl k _ h))⟩
instance {e : α → D} {f : β → D} {g : γ → D} {i : δ → D} [Cl e] [Cl f] [Cl g] [Cl i] : Cl (eP4 e f g i) := ⟨fun k p h => cl_tup h (cls_4 (Cl.cl k _ h) (Cl.cl k _ h) (Cl.cl k _ h) (Cl.cl k _ h))⟩
instance {e : α → D} [Cl e] : Cl (eO e) := ⟨fun k x h => by cases x with | none => rfl | some x => exact Cl.cl k x h⟩
instance {e : α → D} {f : β → D} [Cl e] [Cl f] : Cl (eSum e f) := ⟨fun k x h => by cases x with | inl x => exact Cl.cl k x h | inr x => exact Cl.cl k x h⟩
class ClM (m : α → M) : Prop where
  cl : ∀ k x, Lo k → clM k (m x) = true
theorem clMs_map {m : α → M} {k : Kd} (h : ∀ x, clM k (m x) = true) : ∀ xs : List α, clMs k (xs.map m) = true
  | [] => rfl
  | x :: xs => by
    show (clM k (m x) && clMs k (xs.map m)) = true
    rw [h x, clMs_map h xs]
    rfl
instance {e : α → D} [Cl e] : ClM (vm e) := ⟨fun k x h => Cl.cl (e := e) k x h⟩
instance {m : α → M} [ClM m] : ClM (lm m) := ⟨fun k xs h => clMs_map (fun x => ClM.cl k x h) xs⟩
instance {m : α → M} {n : β → M} [ClM m] [ClM n] : ClM (om2 m n) := ⟨fun k p h => by
  show (clM k (m p.1) && (clM k (n p.2) && true)) = true
  rw [ClM.cl k _ h, ClM.cl k _ h]
  rfl⟩
instance {m : α → M} {n : β → M} {i : γ → M} [ClM m] [ClM n] [ClM i] : ClM (om3 m n i) := ⟨fun k p h => by
  show (clM k (m p.1) && (clM k (n p.2.1) && (clM k (i p.2.2) && true))) = true
  rw [ClM.cl k _ h, ClM.cl k _ h, ClM.cl k _ h]
  rfl⟩
instance {m : α → M} {n : β → M} [ClM m] [ClM n] : ClM (mSum m n) := ⟨fun k x h => by cases x with | inl x => exact ClM.cl k x h | inr x => exact ClM.cl k x h⟩
class LoM (m : α → M) : Prop where
  lo : ∀ x, Lo (kdM (m x))
instance {e : α → D} : LoM (vm e) := ⟨fun x => lo_val _⟩
instance {m : α → M} [LoM m] : LoM (lm m) := ⟨fun xs => lo_lst fun y hy => by
  obtain ⟨x, _, rfl⟩ := List.mem_map.mp hy
  exact LoM.lo x⟩
class Fz (m : α → M) (e : outParam (α → D)) : Prop where
  fz : ∀ x, freeze (m x) = e x
instance {e : α → D} : Fz (vm e) e := ⟨fun _ => rfl⟩
instance {m : α → M} {e : α → D} [Fz m e] : Fz (lm m) (eL e) := ⟨fun xs => by
  show D.lst (freezes (xs.map m)) = D.lst (xs.map e)
  rw [freezes_map, List.map_map]
  exact congrArg (fun f => D.lst (xs.map f)) (funext fun x => Fz.fz x)⟩
instance {m : α → M} {n : β → M} {e : α → D} {f : β → D} [Fz m e] [Fz n f] : Fz (om2 m n) (eP e f) := ⟨fun p => by
  show D.tup [freeze (m p.1), freeze (n p.2)] = D.tup [e p.1, f p.2]
  rw [Fz.fz (m := m), Fz.fz (m := n)]⟩
instance {m : α → M} {n : β → M} {i : γ → M} {e : α → D} {f : β → D} {g : γ → D} [Fz m e] [Fz n f] [Fz i g] : Fz (om3 m n i) (eP3 e f g) := ⟨fun p => by
  show D.tup [freeze (m p.1), freeze (n p.2.1), freeze (i p.2.2)] = D.tup [e p.1, f p.2.1, g p.2.2]
  rw [Fz.fz (m := m), Fz.fz (m := n), Fz.fz (m := i)]⟩
instance {m : α → M} {n : β → M} {e : α → D} {f : β → D} [Fz m e] [Fz n f] : Fz (mSum m n) (eSum e f) := ⟨fun x => by cases x with | inl x => exact Fz.fz x | inr x => exact Fz.fz x⟩
theorem fz_l {m : α → M} {e : α → D} [Fz m e] (xs : List α) : freeze (.lst (xs.map m)) = eL e xs := Fz.fz (m := lm m) xs
end
structure Gd (a : Sto) : Prop where
  lo : ∀ k, Lo k → clA k a = true
  fr : ∀ m, noLocA m a = true
theorem St4.gd {a : Sto} (h : St4 a) : Gd a := ⟨fun k _ => clA_st h k, fun m => by
  obtain ⟨p, q, u, v, rfl⟩ := h
  rfl⟩
theorem clA_app {k : Kd} : ∀ {a b : Sto}, clA k a = true → clA k b = true → clA k (a ++ b) = true
  | [], b, _, h => h
  | .nums _ :: r, b, h, h2 => clA_app (a := r) h h2
  | .obj _ _ ds :: r, b, h, h2 => by
    obtain ⟨h3, h4⟩ := Bool.and_eq_true_iff.mp (show (cls k ds && clA k r) = true from h)
    show (cls k ds && clA k (r ++ b)) = true
    rw [h3, clA_app h4 h2]
    rfl
  | .vals ds :: r, b, h, h2 => by
    obtain ⟨h3, h4⟩ := Bool.and_eq_true_iff.mp (show (cls k ds && clA k r) = true from h)
    show (cls k ds && clA k (r ++ b)) = true
    rw [h3, clA_app h4 h2]
    rfl
theorem noLocA_app {m : Nat} : ∀ {a b : Sto}, noLocA m a = true → noLocA m b = true → noLocA m (a ++ b) = true
  | [], b, _, h => h
  | .nums _ :: r, b, h, h2 => noLocA_app (a := r) h h2
  | .obj _ _ ds :: r, b, h, h2 => by
    obtain ⟨h3, h4⟩ := Bool.and_eq_true_iff.mp (show (noLocs m ds && noLocA m r) = true from h)
    show (noLocs m ds && noLocA m (r ++ b)) = true
    rw [h3, noLocA_app h4 h2]
    rfl
  | .vals ds :: r, b, h, h2 => by
    obtain ⟨h3, h4⟩ := Bool.and_eq_true_iff.mp (show (noLocs m ds && noLocA m r) = true from h)
    show (noLocs m ds && noLocA m (r ++ b)) = true
    rw [h3, noLocA_app h4 h2]
    rfl
theorem Gd.app {a : Sto} {c : Nat} {ns : List Str} {ds : List D} (h : Gd a) (h1 : ∀ k, Lo k → cls k ds = true) (h2 : NLs ds) : Gd (a ++ [.obj c ns ds]) := ⟨fun k hk => clA_app (h.lo k hk) (by
  show (cls k ds && true) = true
  rw [h1 k hk]
  rfl), fun m => noLocA_app (h.fr m) (by
  show (noLocs m ds && true) = true
  rw [h2 m]
  rfl)⟩
theorem Gd.fresh {a : Sto} (h : Gd a) : noLocA a.length a = true := h.fr _
abbrev Rel (Z : Type) := Z → Sto → Prop
def Rp (a0 : Sto) : Rel Unit := fun _ a => a = a0 ∧ Gd a0
def Rq : Rel Sto := fun z a => z = a ∧ St4 a
class GdR {Z : Type} (R : Rel Z) : Prop where
  gd : ∀ z a, R z a → Gd a
instance (a0 : Sto) : GdR (Rp a0) := ⟨fun z a h => by rw [h.1]; exact h.2⟩
instance : GdR Rq := ⟨fun z a h => St4.gd h.2⟩
section
variable {Z α β γ τ : Type}
def Rl (R : Rel Z) (e : α → β) : Ot Z α → Out β → Prop
  | .ok x z, o => ∃ a, o = .ok (e x) a ∧ R z a
  | .exc c ds z, o => ∃ a, o = .exc c (xn c) ds a ∧ R z a ∧ NLs ds
  | .stuck, _ => True
structure G (R : Rel Z) (e : α → β) (s : X Z α) (o : Sto → Out β) : Prop where
  go : ∀ z a, R z a → Rl R e (s z) (o a)
instance {R : Rel Z} {e : α → β} {s : X Z α} {o : Sto → Out β} : CoeFun (G R e s o) fun _ => ∀ z a, R z a → Rl R e (s z) (o a) := ⟨G.go⟩
variable {R : Rel Z} {W : Type}
theorem g_ret {e : α → β} {x : α} {y : β} (h : e x = y) : G R e (ret x) (fun a => .ok y a) := .mk fun z a r => ⟨a, by rw [h], r⟩
theorem g_stk {e : α → β} {o : Sto → Out β} : G R e stk o := .mk fun z a r => trivial
theorem g_grd {e : α → β} {c : Prop} [Decidable c] {s : X Z α} {o : Sto → Out β} (h : c → G R e s o) : G R e (grd c s) o := by
  unfold grd
  by_cases k : c
  · rw [if_pos k]
    exact h k
  · rw [if_neg k]
    exact g_stk
theorem gX {e : α → β} {e1 : τ → γ} {s1 : X Z τ} {s2 : τ → X Z α} {f : Sto → Out γ} {k : γ → Sto → Out β} (h : G R e1 s1 f) (h2 : ∀ x, G R e (s2 x) (k (e1 x))) : G R e (bnd s1 s2) (fun a => (f a).bind k) := .mk fun z a r => by
  have q := h z a r
  show Rl R e ((s1 z).bnd s2) ((f a).bind k)
  cases c : s1 z with
  | ok x z' =>
    rw [c] at q
    obtain ⟨a', e1, r'⟩ := q
    rw [e1]
    exact h2 x z' a' r'
  | exc c' ds z' =>
    rw [c] at q
    obtain ⟨a', e1, r'⟩ := q
    rw [e1]
    exact ⟨a', rfl, r'⟩
  | stuck => exact trivial
theorem gP {e : α → β} {s : X Z α} {f : Sto → Out γ} {k : γ → Sto → Out β} {d : γ} (h : ∀ a, f a = .ok d a) (h2 : G R e s (k d)) : G R e s (fun a => (f a).bind k) := .mk fun z a r => by
  show Rl R e (s z) ((f a).bind k)
  rw [h a]
  exact h2 z a r
theorem g_mono {e : α → β} {s : X Z α} {o o' : Sto → Out β} (h : ∀ a, o' a = o a) (k : G R e s o) : G R e s o' := .mk fun z a r => by
  rw [h a]
  exact k z a r
structure FnP (e : α → β) (s : X Unit α) (o : Sto → Out β) : Prop where
  go : ∀ a, Gd a → Rl (Rp a) e (s ()) (o a)
instance {e : α → β} {s : X Unit α} {o : Sto → Out β} : CoeFun (FnP e s o) fun _ => ∀ a, Gd a → Rl (Rp a) e (s ()) (o a) := ⟨FnP.go⟩
theorem g_fnP {e : α → β} {s : X Unit α} {o : Sto → Out β} {a0 : Sto} (h : FnP e s o) : G (Rp a0) e s o := .mk fun z a r => by
  obtain ⟨rfl, g⟩ := r
  exact h a g
theorem fnP_g {e : α → β} {s : X Unit α} {o : Sto → Out β} (h : ∀ a0, Gd a0 → G (Rp a0) e s o) : FnP e s o := .mk fun a g => h a g () a ⟨rfl, g⟩
theorem g_lft {e : α → β} {s : X Unit α} {o : Sto → Out β} [GdR R] (h : FnP e s o) : G R e (lft s) o := .mk fun z a r => by
  have q := h a (GdR.gd z a r)
  show Rl R e (match s () with | .ok x _ => .ok x z | .exc c ds _ => .exc c ds z | .stuck => .stuck) _
  cases c : s () with
  | ok x z' =>
    rw [c] at q
    obtain ⟨a', e1, r', _⟩ := q
    rw [e1, r']
    exact ⟨a, rfl, r⟩
  | exc c' ds z' =>
    rw [c] at q
    obtain ⟨a', e1, ⟨r', _⟩, n⟩ := q
    rw [e1, r']
    exact ⟨a, rfl, r, n⟩
  | stuck => exact trivial
theorem Rl.map {e : α → β} {e' : τ → W} {f : α → τ} {g : β → W} (h : ∀ x, g (e x) = e' (f x)) {s : Ot Z α} {o : Out β} (q : Rl R e s o) : Rl R e' (s.bnd fun x z => .ok (f x) z) (o.map g) := by
  cases s with
  | ok x z =>
    obtain ⟨a, e1, r⟩ := q
    rw [e1]
    exact ⟨a, congrArg (fun y => Out.ok y a) (h x), r⟩
  | exc c ds z =>
    obtain ⟨a, e1, r⟩ := q
    rw [e1]
    exact ⟨a, rfl, r⟩
  | stuck => exact trivial
theorem g_mV {e : α → D} {s : X Z α} {f : EV} (h : G R e s (f [])) : G R (vm e) s (mV f []) := .mk fun z a r => by
  have q := h z a r
  show Rl R (vm e) (s z) ((f [] a).map M.val)
  cases c : s z with
  | ok x z' =>
    rw [c] at q
    obtain ⟨a', e1, r'⟩ := q
    rw [e1]
    exact ⟨a', rfl, r'⟩
  | exc c' ds z' =>
    rw [c] at q
    obtain ⟨a', e1, r'⟩ := q
    rw [e1]
    exact ⟨a', rfl, r'⟩
  | stuck => exact trivial
theorem g_vM {m : α → M} {e : α → D} [Fz m e] {s : X Z α} {f : EM} (h : G R m s (f [])) : G R e s (vM f []) := .mk fun z a r => by
  have q := h z a r
  show Rl R e (s z) ((f [] a).map freeze)
  cases c : s z with
  | ok x z' =>
    rw [c] at q
    obtain ⟨a', e1, r'⟩ := q
    rw [e1]
    exact ⟨a', congrArg (fun y => Out.ok y a') (Fz.fz x), r'⟩
  | exc c' ds z' =>
    rw [c] at q
    obtain ⟨a', e1, r'⟩ := q
    rw [e1]
    exact ⟨a', rfl, r'⟩
  | stuck => exact trivial
theorem g_coe {e : α → β} {e' : τ → β} {f : α → τ} (h : ∀ x, e x = e' (f x)) {s : X Z α} {o : Sto → Out β} (k : G R e s o) : G R e' (bnd s fun x => ret (f x)) o := .mk fun z a r => by
  have q := k z a r
  show Rl R e' ((s z).bnd _) _
  cases c : s z with
  | ok x z' =>
    rw [c] at q
    obtain ⟨a', e1, r'⟩ := q
    rw [e1]
    exact ⟨a', congrArg (fun y => Out.ok y a') (h x), r'⟩
  | exc c' ds z' =>
    rw [c] at q
    exact q
  | stuck => exact trivial
end
abbrev PV (f : EV) (d : D) : Prop := ∀ a, f [] a = .ok d a
abbrev PM (f : EM) (m : M) : Prop := ∀ a, f [] a = .ok m a
abbrev PT (f : ET) (b : Bool) : Prop := ∀ a, f [] a = .ok b a
abbrev PA (f : EA) (ds : List D) : Prop := ∀ a, f [] a = .ok ds a
theorem p_c {d e : D} (h : d = e) : PV (eC d) e := fun a => by rw [h]; rfl
theorem p_ev1 {op : D → Option D} {f : EV} {d r : D} (hf : PV f d) (h : op d = some r) : PV (ev1 op f) r := fun a => by
  show (f [] a).opt op = _
  rw [hf a, opt_ok, h]
theorem p_ev2 {op : D → D → Option D} {f g : EV} {d d' r : D} (hf : PV f d) (hg : PV g d') (h : op d d' = some r) : PV (ev2 op f g) r := fun a => by
  show (f [] a).bind (fun d a' => (g [] a').opt (op d)) = _
  rw [hf a, bind_ok, hg a, opt_ok, h]
theorem p_cV {op : Sto → List D → Option New} {f : EA} {ds : List D} {r : D} (hf : PA f ds) {nw : New} (h : ∀ a, op a ds = some nw) (h2 : nw.d = r) : PV (cV op f) r := fun a => by
  show (f [] a).bind (fun ds a1 => match op a1 ds with | some nw => .ok nw.d a1 | none => .stuck) = _
  rw [hf a, bind_ok, h]
  exact congrArg (fun z => Out.ok z a) h2
theorem p_vM {f : EM} {m : M} {d : D} (h : PM f m) (h2 : freeze m = d) : PV (vM f) d := fun a => by
  show (f [] a).map freeze = _
  rw [h a, map_ok, h2]
theorem p_mV {f : EV} {d : D} (h : PV f d) : PM (mV f) (.val d) := fun a => by
  show (f [] a).map M.val = _
  rw [h a, map_ok]
theorem p_tV {f : EV} {b : Bool} (h : PV f (.bl b)) : PT (tV f) b := fun a => by
  show (f [] a).opt asB = _
  rw [h a, opt_ok]
  rfl
theorem p_tT : PT tT true := fun _ => rfl
theorem p_tN {f : ET} {b : Bool} (h : PT f b) : PT (tN f) (!b) := fun a => by
  show (f [] a).map not = _
  rw [h a, map_ok]
theorem p_tOn {f g : ET} {b c : Bool} (h : PT f b) (k : PT g c) : PT (tOn f g) (b || c) := fun a => by
  show (f [] a).bind (fun b a1 => if b = true then .ok true a1 else g [] a1) = _
  rw [h a, bind_ok]
  cases b with
  | true => rfl
  | false => exact k a
theorem p_vN {f : EV} {b : Bool} (h : PV f (.bl b)) : PV (vN f) (.bl (!b)) := fun a => by
  show ((f [] a).opt asB).map _ = _
  rw [h a, opt_ok]
  rfl
theorem p_vAn {f g : EV} {b c : Bool} (h : PV f (.bl b)) (k : PV g (.bl c)) : PV (vAn f g) (.bl (b && c)) := fun a => by
  show ((f [] a).opt asB).bind _ = _
  rw [h a, opt_ok]
  cases b with
  | true => exact k a
  | false => rfl
theorem p_aNil : PA aNil [] := fun _ => rfl
theorem p_aCons {f : EV} {g : EA} {d : D} {ds : List D} (h : PV f d) (k : PA g ds) : PA (aCons f g) (d :: ds) := fun a => by
  show (f [] a).bind (fun d a1 => (g [] a1).map fun ds => d :: ds) = _
  rw [h a, bind_ok, k a, map_ok]
abbrev PL (f : EL) (ms : List M) : Prop := ∀ a, f [] a = .ok ms a
theorem p_lNil : PL lNil [] := fun _ => rfl
theorem p_lCons {f : EM} {g : EL} {m : M} {ms : List M} (h : PM f m) (k : PL g ms) : PL (lCons f g) (m :: ms) := fun a => by
  show (f [] a).bind (fun d a1 => (g [] a1).map fun ds => d :: ds) = _
  rw [h a, bind_ok, k a, map_ok]
theorem p_mLst {f : EL} {ms : List M} (h : PL f ms) (hl : ms.length ≤ 100000) : PM (mLst f) (.lst ms) := fun a => by
  show (f [] a).bind (fun ms a1 => if ms.length ≤ 100000 then Out.ok (M.lst ms) a1 else .stuck) = _
  rw [h a, bind_ok, if_pos hl]
theorem p_mTup {f : EL} {ms : List M} {m : M} (h : PL f ms) (hl : ms.length ≤ 100000) (h2 : mkTup ms = m) : PM (mTup f) m := fun a => by
  show (f [] a).bind (fun ms a1 => if ms.length ≤ 100000 then Out.ok (mkTup ms) a1 else .stuck) = _
  rw [h a, bind_ok, if_pos hl, h2]
end TL
namespace TL
open PySem PySem.Spec PyProof.Rows L2 DL
section
variable {Z α β γ τ κ' : Type} {R : Rel Z}
def ooo (o : Option D) : Sto → Out D := fun a => match o with
  | some r => .ok r a
  | none => .stuck
def onw (o : Option New) : Sto → Out D := fun a => match o with
  | some r => .ok r.d a
  | none => .stuck
def osw (o : Sto → Option New) : Sto → Out D := fun a => match o a with
  | some r => .ok r.d a
  | none => .stuck
def osm (o : Sto → Option New) : Sto → Out M := fun a => match o a with
  | some r => .ok r.m a
  | none => .stuck
variable {e : α → D} {s : X Z α}
theorem opt_ooo (op : D → Option D) (o : Out D) : o.opt op = o.bind fun d => ooo (op d) := by
  cases o with
  | ok d a =>
    rw [opt_ok, bind_ok]
    unfold ooo
    cases op d <;> rfl
  | _ => rfl
theorem x_ev1 {op : D → Option D} {f : EV} (h : G R e s fun a => (f [] a).bind fun d => ooo (op d)) : G R e s (ev1 op f []) := g_mono (fun a => opt_ooo op (f [] a)) h
theorem x_ev2 {op : D → D → Option D} {f g : EV} (h : G R e s fun a => (f [] a).bind fun d a1 => (g [] a1).bind fun d' => ooo (op d d')) : G R e s (ev2 op f g []) := g_mono (fun a => by
  show (f [] a).bind (fun d a' => (g [] a').opt (op d)) = _
  exact congrArg ((f [] a).bind ·) (funext fun d => funext fun a' => opt_ooo (op d) (g [] a'))) h
theorem x_vNw {op : D → D → Option New} {f g : EV} (h : G R e s fun a => (f [] a).bind fun d a1 => (g [] a1).bind fun d' => onw (op d d')) : G R e s (vNw op f g []) := h
theorem x_vS {op : Sto → D → D → Option New} {f g : EV} (h : G R e s fun a => (f [] a).bind fun d a1 => (g [] a1).bind fun d' => osw fun a => op a d d') : G R e s (vS op f g []) := h
theorem x_cV {op : Sto → List D → Option New} {f : EA} (h : G R e s fun a => (f [] a).bind fun ds => osw fun a => op a ds) : G R e s (cV op f []) := h
theorem x_cN {m : α → M} {op : Sto → List D → Option New} {f : EA} (h : G R m s fun a => (f [] a).bind fun ds => osm fun a => op a ds) : G R m s (cN op f []) := h
theorem x_eN {m : α → M} {op : D → D → Option New} {f g : EV} (h : G R m s fun a => (f [] a).bind fun d a1 => (g [] a1).bind fun d' => osm fun _ => op d d') : G R m s (DL.eN op f g []) := h
theorem x_callM {m : α → M} {n : Nat} {F : FM} {f : EA} (h : G R m s fun a => (f [] a).bind fun ds a1 => if ds.length = n then F ds a1 else .stuck) : G R m s (callM n F f []) := h
theorem x_callS {m : α → M} {F : FM} {f : EA} (h : G R m s fun a => (f [] a).bind F) : G R m s (DL.callS F f []) := h
theorem x_vN {f : EV} {s : X Z Bool} (h : G R D.bl s (f [])) : G R D.bl (bnd s fun b => ret (!b)) (vN f []) := .mk fun z a r => by
  have q := h z a r
  show Rl R D.bl ((s z).bnd _) (((f [] a).opt asB).map _)
  cases c : s z with
  | ok x z' =>
    rw [c] at q
    obtain ⟨a', e1, r'⟩ := q
    rw [e1]
    exact ⟨a', rfl, r'⟩
  | exc c' ds z' =>
    rw [c] at q
    obtain ⟨a', e1, r'⟩ := q
    rw [e1]
    exact ⟨a', rfl, r'⟩
  | stuck => exact trivial
theorem x_tV {f : EV} {s : X Z Bool} (h : G R D.bl s (f [])) : G R id s (tV f []) := .mk fun z a r => by
  have q := h z a r
  show Rl R id (s z) ((f [] a).opt asB)
  cases c : s z with
  | ok x z' =>
    rw [c] at q
    obtain ⟨a', e1, r'⟩ := q
    rw [e1]
    exact ⟨a', rfl, r'⟩
  | exc c' ds z' =>
    rw [c] at q
    obtain ⟨a', e1, r'⟩ := q
    rw [e1]
    exact ⟨a', rfl, r'⟩
  | stuck => exact trivial
theorem x_tN {f : ET} {s : X Z Bool} (h : G R id s (f [])) : G R id (bnd s fun b => ret (!b)) (tN f []) := .mk fun z a r => by
  have q := h z a r
  show Rl R id ((s z).bnd _) ((f [] a).map not)
  cases c : s z with
  | ok x z' =>
    rw [c] at q
    obtain ⟨a', e1, r'⟩ := q
    rw [e1]
    exact ⟨a', rfl, r'⟩
  | exc c' ds z' =>
    rw [c] at q
    obtain ⟨a', e1, r'⟩ := q
    rw [e1]
    exact ⟨a', rfl, r'⟩
  | stuck => exact trivial
def andX (s t : X Z Bool) : X Z Bool := bnd s fun b => if b = true then t else ret false
def orX (s t : X Z Bool) : X Z Bool := bnd s fun b => if b = true then ret true else t
@[simp] theorem andX_true (t : X Z Bool) : andX (ret true) t = t := rfl
@[simp] theorem andX_false (t : X Z Bool) : andX (ret false) t = ret false := rfl
@[simp] theorem orX_true (t : X Z Bool) : orX (ret true) t = ret true := rfl
@[simp] theorem orX_false (t : X Z Bool) : orX (ret false) t = t := rfl
@[simp] theorem andX_ret (a b : Bool) : andX (ret a) (ret b : X Z Bool) = ret (a && b) := by cases a <;> rfl
@[simp] theorem orX_ret (a b : Bool) : orX (ret a) (ret b : X Z Bool) = ret (a || b) := by cases a <;> rfl
theorem x_tAn {f g : ET} {s t : X Z Bool} (h : G R id s (f [])) (k : G R id t (g [])) : G R id (andX s t) (tAn f g []) :=
  gX (f := f []) (k := fun b a1 => if b = true then g [] a1 else .ok false a1) h fun b => by
    cases b with
    | true => exact k
    | false => exact g_ret rfl
theorem x_tOn {f g : ET} {s t : X Z Bool} (h : G R id s (f [])) (k : G R id t (g [])) : G R id (orX s t) (tOn f g []) :=
  gX (f := f []) (k := fun b a1 => if b = true then .ok true a1 else g [] a1) h fun b => by
    cases b with
    | true => exact g_ret rfl
    | false => exact k
theorem x_vAn {f g : EV} {s t : X Z Bool} (h : G R D.bl s (f [])) (k : G R D.bl t (g [])) : G R D.bl (andX s t) (vAn f g []) :=
  gX (f := tV f []) (k := fun b a1 => if b = true then g [] a1 else .ok (.bl false) a1) (x_tV h) fun b => by
    cases b with
    | true => exact k
    | false => exact g_ret rfl
theorem x_vOn {f g : EV} {s t : X Z Bool} (h : G R D.bl s (f [])) (k : G R D.bl t (g [])) : G R D.bl (orX s t) (vOn f g []) :=
  gX (f := tV f []) (k := fun b a1 => if b = true then .ok (.bl true) a1 else g [] a1) (x_tV h) fun b => by
    cases b with
    | true => exact g_ret rfl
    | false => exact k
theorem x_eIf {m : α → M} {t : ET} {f g : EM} {b : X Z Bool} {s1 s2 : X Z α} (h : G R id b (t [])) (h1 : G R m s1 (f [])) (h2 : G R m s2 (g [])) : G R m (bnd b fun b => if b = true then s1 else s2) (eIf t f g []) :=
  gX (f := t []) (k := fun b a1 => if b = true then f [] a1 else g [] a1) h fun b => by
    cases b with
    | true => exact h1
    | false => exact h2
theorem g_pv {f : EV} {d : D} {x : α} (h : PV f d) (h2 : d = e x) : G R e (ret x) (f []) := .mk fun z a r => by
  rw [h a]
  exact ⟨a, by rw [h2], r⟩
theorem g_pm {m : α → M} {f : EM} {d : M} {x : α} (h : PM f d) (h2 : d = m x) : G R m (ret x) (f []) := .mk fun z a r => by
  rw [h a]
  exact ⟨a, by rw [h2], r⟩
theorem g_pt {f : ET} {b : Bool} (h : PT f b) : G R id (ret b) (f []) := .mk fun z a r => by
  rw [h a]
  exact ⟨a, rfl, r⟩
theorem gVP {k : D → Sto → Out β} {e' : τ → β} {t : X Z τ} {f : EV} {d : D} (h : PV f d) (h2 : G R e' t (k d)) : G R e' t (fun a => (f [] a).bind k) := gP h h2
theorem gVX {k : D → Sto → Out β} {e' : τ → β} {t : α → X Z τ} {f : EV} (h : G R e s (f [])) (h2 : ∀ x, G R e' (t x) (k (e x))) : G R e' (bnd s t) (fun a => (f [] a).bind k) := gX h h2
def AK (R : Rel Z) (e : τ → β) (t : X Z τ) (f : EA) (k : List D → Sto → Out β) : Prop := G R e t fun a => (f [] a).bind k
theorem a_nil {e' : τ → β} {t : X Z τ} {k : List D → Sto → Out β} (h : G R e' t (k [])) : AK R e' t aNil k := h
theorem a_P {e' : τ → β} {t : X Z τ} {f : EV} {g : EA} {k : List D → Sto → Out β} {d : D} (h : PV f d) (h2 : AK R e' t g fun ds => k (d :: ds)) : AK R e' t (aCons f g) k := g_mono (o := fun a => (f [] a).bind fun d a1 => (g [] a1).bind fun ds => k (d :: ds)) (fun a => by
  show (((f [] a).bind fun d a1 => (g [] a1).map fun ds => d :: ds).bind k) = _
  cases f [] a with
  | ok d a1 =>
    rw [bind_ok, bind_ok]
    cases g [] a1 <;> rfl
  | _ => rfl) (gP h h2)
theorem a_X {e' : τ → β} {t : α → X Z τ} {f : EV} {g : EA} {k : List D → Sto → Out β} (h : G R e s (f [])) (h2 : ∀ x, AK R e' (t x) g fun ds => k (e x :: ds)) : AK R e' (bnd s t) (aCons f g) k := g_mono (o := fun a => (f [] a).bind fun d a1 => (g [] a1).bind fun ds => k (d :: ds)) (fun a => by
  show (((f [] a).bind fun d a1 => (g [] a1).map fun ds => d :: ds).bind k) = _
  cases f [] a with
  | ok d a1 =>
    rw [bind_ok, bind_ok]
    cases g [] a1 <;> rfl
  | _ => rfl) (gX h h2)
def LK (R : Rel Z) (e : τ → β) (t : X Z τ) (f : EL) (k : List M → Sto → Out β) : Prop := G R e t fun a => (f [] a).bind k
theorem l_nil {e' : τ → β} {t : X Z τ} {k : List M → Sto → Out β} (h : G R e' t (k [])) : LK R e' t lNil k := h
theorem l_P {e' : τ → β} {t : X Z τ} {f : EM} {g : EL} {k : List M → Sto → Out β} {m : M} (h : PM f m) (h2 : LK R e' t g fun ms => k (m :: ms)) : LK R e' t (lCons f g) k := g_mono (o := fun a => (f [] a).bind fun d a1 => (g [] a1).bind fun ds => k (d :: ds)) (fun a => by
  show (((f [] a).bind fun d a1 => (g [] a1).map fun ds => d :: ds).bind k) = _
  cases f [] a with
  | ok d a1 =>
    rw [bind_ok, bind_ok]
    cases g [] a1 <;> rfl
  | _ => rfl) (gP h h2)
theorem l_X {m : α → M} {e' : τ → β} {t : α → X Z τ} {f : EM} {g : EL} {k : List M → Sto → Out β} (h : G R m s (f [])) (h2 : ∀ x, LK R e' (t x) g fun ms => k (m x :: ms)) : LK R e' (bnd s t) (lCons f g) k := g_mono (o := fun a => (f [] a).bind fun d a1 => (g [] a1).bind fun ds => k (d :: ds)) (fun a => by
  show (((f [] a).bind fun d a1 => (g [] a1).map fun ds => d :: ds).bind k) = _
  cases f [] a with
  | ok d a1 =>
    rw [bind_ok, bind_ok]
    cases g [] a1 <;> rfl
  | _ => rfl) (gX h h2)
theorem x_mLst {m : α → M} {f : EL} (h : LK R m s f fun ms a1 => if ms.length ≤ 100000 then .ok (.lst ms) a1 else .stuck) : G R m s (mLst f []) := h
theorem x_mTup {m : α → M} {f : EL} (h : LK R m s f fun ms a1 => if ms.length ≤ 100000 then .ok (mkTup ms) a1 else .stuck) : G R m s (mTup f []) := h
theorem f_oo {o : Option D} {x : α} (h : o = some (e x)) : G R e (ret x) (ooo o) := .mk fun z a r => by
  rw [h]
  exact ⟨a, rfl, r⟩
theorem f_nw {o : Option New} {x : α} {nw : New} (h : o = some nw) (h2 : nw.d = e x) : G R e (ret x) (onw o) := .mk fun z a r => by
  rw [h]
  exact ⟨a, congrArg (fun y => Out.ok y a) h2, r⟩
theorem f_sw {o : Sto → Option New} {x : α} {nw : New} (h : ∀ a, o a = some nw) (h2 : nw.d = e x) : G R e (ret x) (osw o) := .mk fun z a r => by
  have k := h a
  refine ⟨a, ?_, r⟩
  unfold osw
  rw [k]
  exact congrArg (fun y => Out.ok y a) h2
theorem f_sm {m : α → M} {o : Sto → Option New} {x : α} {nw : New} (h : ∀ a, o a = some nw) (h2 : nw.m = m x) : G R m (ret x) (osm o) := .mk fun z a r => by
  have k := h a
  refine ⟨a, ?_, r⟩
  unfold osm
  rw [k]
  exact congrArg (fun y => Out.ok y a) h2
theorem f_if {m : α → β} {n : Nat} {ds : List γ} {o : Sto → Out β} (h : ds.length = n) (k : G R m s o) : G R m s (fun a1 => if ds.length = n then o a1 else .stuck) := .mk fun z a r => by
  rw [if_pos h]
  exact k z a r
theorem f_le {m : α → β} {ds : List γ} {o : Sto → Out β} (h : ds.length ≤ 100000) (k : G R m s o) : G R m s (fun a1 => if ds.length ≤ 100000 then o a1 else .stuck) := .mk fun z a r => by
  rw [if_pos h]
  exact k z a r
def optX (o : Option α) : X Z α := match o with
  | some x => ret x
  | none => stk
@[simp] theorem optX_some (x : α) : (optX (some x) : X Z α) = ret x := rfl
theorem f_sw_opt {o : Sto → Option New} {p : Option α} (h : ∀ x, p = some x → ∃ nw, (∀ a, o a = some nw) ∧ nw.d = e x) : G R e (optX p) (osw o) := by
  cases c : p with
  | none => exact g_stk
  | some x =>
    obtain ⟨nw, h1, h2⟩ := h x c
    exact f_sw h1 h2
end
section
variable {Z α β γ τ : Type} {R : Rel Z} {e : α → D}
def ixX (xs : List α) (i : Int) : X Z α := optX (L2.atI xs i)
def catX (xs ys : List α) : X Z (List α) := grd (xs.length + ys.length ≤ 100000) (ret (xs ++ ys))
theorem o_catL {xs ys : List α} : G R (eL e) (catX xs ys) (onw (dAdd (eL e xs) (eL e ys))) := g_grd fun h => f_nw (nw := .lst (xs.map e ++ ys.map e)) (if_pos (by rw [List.length_map, List.length_map]; exact h)) (by
  show D.lst _ = D.lst _
  rw [List.map_append])
theorem atI_map (e : α → β) (xs : List α) (i : Int) : L2.atI (xs.map e) i = (L2.atI xs i).map e := by
  unfold L2.atI
  rw [List.length_map]
  cases ixN xs.length i with
  | none => rfl
  | some k => exact List.getElem?_map
theorem o_ixL {xs : List α} {i : Int} : G R e (ixX xs i) (osw fun a => dIx a (eL e xs) (.int i)) := f_sw_opt fun x h => ⟨.val (e x), fun a => by
  show (L2.atI (xs.map e) i).map New.val = _
  rw [atI_map, h]
  rfl, rfl⟩
theorem w_lenL {xs : List α} (a : Sto) : un1 gLen a [eL e xs] = some (.val (.int (xs.length : Int))) := by
  show some (New.val (.int ((xs.map e).length : Int))) = _
  rw [List.length_map]
theorem w_listM {xs : List α} : (New.lst (xs.map e)).m = lm (vm e) xs := by
  show M.lst _ = M.lst _
  rw [List.map_map]
  rfl
end
end TL
namespace TL
open PySem PySem.Spec PyProof.Rows L2 DL
section
variable {Z α β γ τ κ' : Type} {R : Rel Z}
def ool (o : Option (List D)) : Sto → Out (List D) := fun a => match o with
  | some r => .ok r a
  | none => .stuck
theorem opt_ool {α : Type} (op : α → Option (List D)) (o : Out α) : o.opt op = o.bind fun d => ool (op d) := by
  cases o with
  | ok d a =>
    rw [opt_ok, bind_ok]
    unfold ool
    cases op d <;> rfl
  | _ => rfl
def IK (R : Rel Z) (e : τ → β) (t : X Z τ) (f : EI) (k : List D → Sto → Out β) : Prop := G R e t fun a => (f [] a).bind k
def rangeL (n : Int) : List Int := (List.range n.toNat).map fun (k : Nat) => (k : Int)
def enumI (xs : List α) : List (Int × α) := xs.zipIdx.map fun p => ((p.2 : Nat), p.1)
def bigP (i : Int) : Prop := -(2 ^ 62) ≤ i ∧ i < 2 ^ 62
instance (i : Int) : Decidable (bigP i) := inferInstanceAs (Decidable (_ ∧ _))
theorem it_L {e : α → D} {xs : List α} : items (eL e xs) = some (xs.map e) := rfl
section
variable {e' : τ → β} {k : List D → Sto → Out β}
theorem ik_e {t : X Z τ} {f : EV} (h : G R e' t fun a => (f [] a).bind fun d a1 => (ool (items d) a1).bind k) : IK R e' t (iSeq f) k := g_mono (fun a => by
  show ((f [] a).opt items).bind k = _
  rw [opt_ool]
  cases f [] a <;> rfl) h
theorem i_P {t : X Z τ} {f : EV} {d : D} {ds : List D} (h : PV f d) (h2 : items d = some ds) (h3 : G R e' t (k ds)) : IK R e' t (iSeq f) k := ik_e (gP h (g_mono (fun a => by
  rw [h2]
  rfl) h3))
theorem i_X {E : κ' → D} {e : α → D} {g : κ' → List α} {s : X Z κ'} {t : κ' → X Z τ} {f : EV} (h : G R E s (f [])) (h2 : ∀ x, items (E x) = some ((g x).map e)) (h3 : ∀ x, G R e' (t x) (k ((g x).map e))) : IK R e' (bnd s t) (iSeq f) k := ik_e (gX h fun x => g_mono (fun a => by
  rw [h2]
  rfl) (h3 x))
theorem ik_a {t : X Z τ} {op : List D → Option (List D)} {f : EA} (h : AK R e' t f fun ds a1 => (ool (op ds) a1).bind k) : G R e' t fun a => ((f [] a).opt op).bind k := g_mono (fun a => by
  rw [opt_ool]
  cases f [] a <;> rfl) h
theorem i_rng1 {t : X Z τ} {f : EA} (h : AK R e' t f fun ds a1 => (ool (gRng1 ds) a1).bind k) : IK R e' t (DL.iRng1 f) k := ik_a h
theorem i_en {t : X Z τ} {f : EA} (h : AK R e' t f fun ds a1 => (ool (gEn ds) a1).bind k) : IK R e' t (iEn f) k := ik_a h
theorem f_rng1 {t : X Z τ} {n : Int} (h : G R e' t (k ((rangeL n).map D.int))) : G R e' (grd (bigP n) t) fun a1 => (ool (gRng1 [.int n]) a1).bind k := g_grd fun c => g_mono (fun a => by
  have z : gRng1 [.int n] = some ((rangeL n).map D.int) := by
    rw [gRng1, if_pos (show big n = true from decide_eq_true c)]
    unfold rangeL rngL
    rw [List.map_map]
    exact congrArg some (List.map_congr_left fun k _ => by
      show D.int (0 + (k : Int)) = D.int (k : Int)
      rw [Int.zero_add])
  rw [z]
  rfl) h
theorem enumD_map {e : α → D} : ∀ (xs : List α) (n : Nat), enumD n (xs.map e) = (xs.zipIdx n).map fun p => D.tup [.int ((p.2 : Nat) : Int), e p.1]
  | [], _ => rfl
  | x :: xs, n => by
    show D.tup [.int (n : Nat), e x] :: enumD (n + 1) (xs.map e) = _
    rw [enumD_map xs (n + 1)]
    rfl
theorem f_en {t : X Z τ} {d : D} {e : α → D} {xs : List α} (hd : seqD d = some (xs.map e)) (h : G R e' t (k ((enumI xs).map (eP D.int e)))) : G R e' t fun a1 => (ool (gEn [d]) a1).bind k := g_mono (fun a => by
  have z : gEn [d] = some ((enumI xs).map (eP D.int e)) := by
    show (seqD d).map (enumD 0) = _
    rw [hd]
    show some (enumD 0 (xs.map e)) = _
    rw [enumD_map]
    unfold enumI
    rw [List.map_map]
    rfl
  rw [z]
  rfl) h
end
theorem x_lcD {m : α → M} {β' : Type} {s : X Z α} {it : EI} {gd : D → Option β'} {p : β' → ET} {f : β' → EM} (h : IK R m s it fun ds a1 => (lcDo gd p f ds [] a1).map M.lst) : G R m s (lcD it gd p f []) := h
def clm (s : X Z α) : X Z α := fun z => match s z with
  | .ok x z' => .ok x z'
  | _ => .stuck
@[simp] theorem clm_ret (x : α) : clm (ret x : X Z α) = ret x := rfl
@[simp] theorem clm_stk : clm (stk : X Z α) = stk := rfl
@[simp] theorem clm_grd (c : Prop) [Decidable c] (s : X Z α) : clm (grd c s) = grd c (clm s) := by
  unfold grd
  split <;> rfl
@[simp] theorem clm_ite (c : Prop) [Decidable c] (s t : X Z α) : clm (if c then s else t) = if c then clm s else clm t := by
  split <;> rfl
def fmX (P : α → X Z Bool) (F : α → X Z β) : List α → X Z (List β)
  | [] => ret []
  | x :: xs => bnd (clm (P x)) fun b => if b = true then bnd (clm (F x)) fun y => bnd (fmX P F xs) fun ys => ret (y :: ys) else fmX P F xs
def mapX (F : α → X Z β) : List α → X Z (List β)
  | [] => ret []
  | x :: xs => bnd (clm (F x)) fun y => bnd (mapX F xs) fun ys => ret (y :: ys)
@[simp] theorem mapX_nil (F : α → X Z β) : mapX F [] = ret [] := rfl
theorem mapX_cons (F : α → X Z β) (x : α) (xs : List α) : mapX F (x :: xs) = bnd (clm (F x)) fun y => bnd (mapX F xs) fun ys => ret (y :: ys) := rfl
theorem mapX_all {F : α → X Z β} {g : α → β} : ∀ {xs : List α}, (∀ x ∈ xs, F x = ret (g x)) → mapX F xs = ret (xs.map g)
  | [], _ => rfl
  | x :: xs, h => by
    rw [mapX_cons, h x List.mem_cons_self, mapX_all fun y hy => h y (List.mem_cons_of_mem _ hy)]
    rfl
theorem mapX_ret (g : α → β) (xs : List α) : mapX (fun x => (ret (g x) : X Z β)) xs = ret (xs.map g) := mapX_all fun _ _ => rfl
theorem fmX_all {P : α → X Z Bool} {F : α → X Z β} {q : α → Bool} {g : α → β} : ∀ {xs : List α}, (∀ x ∈ xs, P x = ret (q x) ∧ (q x = true → F x = ret (g x))) → fmX P F xs = ret ((xs.filter q).map g)
  | [], _ => rfl
  | x :: xs, h => by
    obtain ⟨h1, h2⟩ := h x List.mem_cons_self
    show bnd (clm (P x)) _ = _
    rw [h1, clm_ret, bnd_ret, fmX_all fun y hy => h y (List.mem_cons_of_mem _ hy)]
    cases c : q x with
    | true =>
      rw [if_pos rfl, h2 c, List.filter_cons_of_pos c]
      rfl
    | false => rw [if_neg (by decide), List.filter_cons_of_neg (by rw [c]; decide)]
section
variable {β' : Type} {gd : D → Option β'} {p : β' → ET} {f : β' → EM} {e : α → D} {b : α → β'} {m : β → M}
theorem lcDo_step (gd : D → Option β') (p : β' → ET) (f : β' → EM) {d : D} {y : β'} (h : gd d = some y) (ds : List D) (acc : List M) (a : Sto) : lcDo gd p f (d :: ds) acc a = (match p y [] a with
    | .ok true a1 => (match f y [] a1 with
      | .ok m a2 => if acc.length < 100000 then lcDo gd p f ds (acc ++ [m]) a2 else .stuck
      | _ => .stuck)
    | .ok false a1 => lcDo gd p f ds acc a1
    | _ => .stuck) := by
  show (match gd d with
    | none => Out.stuck
    | some b => (match p b [] a with
      | .ok true a1 => (match f b [] a1 with
        | .ok m a2 => if acc.length < 100000 then lcDo gd p f ds (acc ++ [m]) a2 else .stuck
        | _ => .stuck)
      | .ok false a1 => lcDo gd p f ds acc a1
      | _ => .stuck)) = _
  rw [h]
def app (acc : List β) (o : Ot Z (List β)) : Ot Z (List β) := o.bnd fun l z => .ok (acc ++ l) z
theorem app_app (acc l : List β) (o : Ot Z (List β)) : app acc (app l o) = app (acc ++ l) o := by
  cases o with
  | ok x z =>
    show Ot.ok (acc ++ (l ++ x)) z = .ok (acc ++ l ++ x) z
    rw [List.append_assoc]
  | _ => rfl
theorem lcX_go {P : α → X Z Bool} {F : α → X Z β} (hg : ∀ x, gd (e x) = some (b x)) (hp : ∀ x, G R id (P x) (p (b x) [])) (hf : ∀ x, G R m (F x) (f (b x) [])) : ∀ (xs : List α) (acc : List β), acc.length + xs.length ≤ 100000 →
    ∀ z a, R z a → Rl R (fun l : List β => l.map m) (app acc (fmX P F xs z)) (lcDo gd p f (xs.map e) (acc.map m) a)
  | [], acc, _, z, a, r => ⟨a, by
    show Out.ok (acc.map m) a = .ok ((acc ++ []).map m) a
    rw [List.append_nil], r⟩
  | x :: xs, acc, hl, z, a, r => by
    have q := hp x z a r
    rw [List.length_cons] at hl
    rw [List.map_cons, lcDo_step gd p f (hg x)]
    show Rl R _ (app acc ((clm (P x) z).bnd _)) _
    unfold clm
    cases c : P x z with
    | ok y z' =>
      rw [c] at q
      obtain ⟨a', e1, r'⟩ := q
      rw [e1]
      cases y with
      | false => exact lcX_go hg hp hf xs acc (by omega) z' a' r'
      | true =>
        have q2 := hf x z' a' r'
        show Rl R _ (app acc (((match F x z' with | .ok x z' => Ot.ok x z' | _ => .stuck) : Ot Z β).bnd _)) _
        cases c2 : F x z' with
        | ok w z2 =>
          rw [c2] at q2
          obtain ⟨a2, e2, r2⟩ := q2
          show Rl R _ _ (match f (b x) [] a' with
            | .ok m a2 => if (acc.map _).length < 100000 then lcDo gd p f (xs.map e) (acc.map _ ++ [m]) a2 else .stuck
            | _ => .stuck)
          rw [e2]
          show Rl R _ (app acc ((fmX P F xs z2).bnd fun ys => ret (w :: ys))) (if (acc.map m).length < 100000 then lcDo gd p f (xs.map e) (acc.map m ++ [m w]) a2 else .stuck)
          rw [if_pos (by rw [List.length_map]; omega)]
          have ih := lcX_go hg hp hf xs (acc ++ [w]) (by simp; omega) z2 a2 r2
          rw [List.map_append, ← app_app] at ih
          have z3 : app [w] (fmX P F xs z2) = (fmX P F xs z2).bnd fun ys => ret (w :: ys) := by
            unfold app
            cases fmX P F xs z2 <;> rfl
          rw [z3] at ih
          exact ih
        | exc c' ds z2 => exact trivial
        | stuck => exact trivial
    | exc c' ds z' => exact trivial
    | stuck => exact trivial
theorem fm_map (F : α → X Z β) : ∀ xs : List α, fmX (fun _ => ret true) F xs = mapX F xs
  | [] => rfl
  | x :: xs => by
    show bnd (clm (F x)) _ = bnd (clm (F x)) _
    rw [fm_map F xs]
theorem lc_end {s : X Z (List β)} {o : Sto → Out (List M)} (h : ∀ z a, R z a → Rl R (fun l : List β => l.map m) (app [] (s z)) (o a)) : G R (lm m) s fun a => (o a).map M.lst := .mk fun z a r => by
  have q := h z a r
  cases c : s z with
  | ok x z' =>
    rw [c] at q
    obtain ⟨a', e1, r'⟩ := q
    show Rl R (lm m) _ ((o a).map M.lst)
    rw [e1]
    exact ⟨a', rfl, r'⟩
  | exc c' ds z' =>
    rw [c] at q
    obtain ⟨a', e1, r'⟩ := q
    show Rl R (lm m) _ ((o a).map M.lst)
    rw [e1]
    exact ⟨a', rfl, r'⟩
  | stuck => exact trivial
theorem f_lcX {P : α → X Z Bool} {F : α → X Z β} {xs : List α} (hg : ∀ x, gd (e x) = some (b x)) (hp : ∀ x, G R id (P x) (p (b x) [])) (hf : ∀ x, G R m (F x) (f (b x) [])) :
    G R (lm m) (grd (xs.length ≤ 100000) (fmX P F xs)) fun a => (lcDo gd p f (xs.map e) [] a).map M.lst := g_grd fun c => lc_end fun z a r => lcX_go hg hp hf xs [] (by simpa using c) z a r
theorem f_lcXm {F : α → X Z β} {xs : List α} (hg : ∀ x, gd (e x) = some (b x)) (hp : ∀ x, PT (p (b x)) true) (hf : ∀ x, G R m (F x) (f (b x) [])) :
    G R (lm m) (grd (xs.length ≤ 100000) (mapX F xs)) fun a => (lcDo gd p f (xs.map e) [] a).map M.lst := by
  have z := f_lcX (R := R) (P := fun _ => ret true) (F := F) (xs := xs) hg (fun x => g_pt (hp x)) hf
  rw [fm_map] at z
  exact z
theorem f_lcP {q : α → Bool} {g : α → β} {xs : List α} (hg : ∀ x, gd (e x) = some (b x)) (hp : ∀ x, PT (p (b x)) (q x)) (hf : ∀ x, PM (f (b x)) (m (g x))) :
    G R (lm m) (grd (xs.length ≤ 100000) (ret ((xs.filter q).map g))) fun a => (lcDo gd p f (xs.map e) [] a).map M.lst := by
  have z := f_lcX (R := R) (P := fun x => ret (q x)) (F := fun x => ret (g x)) (xs := xs) hg (fun x => g_pt (hp x)) fun x => g_pm (hf x) rfl
  rw [fmX_all (q := q) (g := g) fun x _ => ⟨rfl, fun _ => rfl⟩] at z
  exact z
theorem f_lcPm {g : α → β} {xs : List α} (hg : ∀ x, gd (e x) = some (b x)) (hp : ∀ x, PT (p (b x)) true) (hf : ∀ x, PM (f (b x)) (m (g x))) :
    G R (lm m) (grd (xs.length ≤ 100000) (ret (xs.map g))) fun a => (lcDo gd p f (xs.map e) [] a).map M.lst := by
  have z := f_lcXm (R := R) (F := fun x => ret (g x)) (xs := xs) hg hp fun x => g_pm (hf x) rfl
  rw [mapX_ret] at z
  exact z
end
theorem gd1 {e : α → D} (x : α) : g1 (e x) = some (e x) := rfl
theorem gd2 {e : α → D} {f : β → D} (x : α × β) : g2 (eP e f x) = some (e x.1, f x.2) := rfl
end
section
variable {Z : Type} {R : Rel Z}
end
section
variable {Z α : Type} {R : Rel Z} {T : List (Nat × FM)} {g : Sto → List D → Option New} {c : Nat} {F : FM} {f : EV}
end
class QE (T : List (Nat × FM)) (n : Nat) {α : Type} [DecidableEq α] (e : α → D) : Prop where
  eq : ∀ a, EqT T a n (fun _ => True) e
section
variable {α β γ τ : Type} [DecidableEq α] [DecidableEq β] [DecidableEq γ] [DecidableEq τ] {T : List (Nat × FM)} {n : Nat} {e : α → D} {f : β → D} {g : γ → D} {h : τ → D}
instance : QE T n D.int := ⟨fun a => eqT_int⟩
instance : QE T n D.str := ⟨fun a => eqT_str⟩
instance : QE T n D.bl := ⟨fun a => eqT_bl⟩
instance [QE T n e] : QE T (n + 1) (eL e) := ⟨fun a => (EqT.lst (QE.eq (e := e) a)).imp fun _ _ _ _ => trivial⟩
instance [QE T n e] : QE T (n + 1) (eT e) := ⟨fun a => (EqT.tup (QE.eq (e := e) a)).imp fun _ _ _ _ => trivial⟩
instance [QE T n e] [QE T n f] : QE T (n + 1) (eP e f) := ⟨fun a => (EqT.pair (QE.eq (e := e) a) (QE.eq (e := f) a)).imp fun _ _ => ⟨trivial, trivial⟩⟩
end
end TL
namespace TL
open PySem PySem.Spec PyProof.Rows L2 DL
inductive Fo (Z ν κ ρ : Type) where
  | nx (s : ν) (z : Z)
  | rt (r : ρ) (z : Z)
  | bk (k : κ) (z : Z)
  | ct (k : κ) (z : Z)
  | exc (c : Nat) (ds : List D) (z : Z)
  | stuck
abbrev Y (Z ν κ ρ : Type) := Z → Fo Z ν κ ρ
section
variable {Z ν ν' κ ρ α β τ : Type}
def nxT (s : ν) : Y Z ν κ ρ := fun z => .nx s z
def rtT (r : ρ) : Y Z ν κ ρ := fun z => .rt r z
def bkT (k : κ) : Y Z ν κ ρ := fun z => .bk k z
def ctT (k : κ) : Y Z ν κ ρ := fun z => .ct k z
def skT : Y Z ν κ ρ := fun _ => .stuck
def exT (c : Nat) (ds : List D) : Y Z ν κ ρ := fun z => .exc c ds z
def Fo.thn (o : Fo Z ν κ ρ) (t : ν → Y Z ν' κ ρ) : Fo Z ν' κ ρ := match o with
  | .nx s z => t s z
  | .rt r z => .rt r z
  | .bk k z => .bk k z
  | .ct k z => .ct k z
  | .exc c ds z => .exc c ds z
  | .stuck => .stuck
def thnT (s : Y Z ν κ ρ) (t : ν → Y Z ν' κ ρ) : Y Z ν' κ ρ := fun z => (s z).thn t
def sbn (s : X Z α) (t : α → Y Z ν κ ρ) : Y Z ν κ ρ := fun z => match s z with
  | .ok x z' => t x z'
  | .exc c ds z' => .exc c ds z'
  | .stuck => .stuck
def reT (s : X Z ρ) : Y Z ν κ ρ := sbn s rtT
def forT (body : β → ν → Y Z ν ν ρ) : List β → ν → Y Z ν κ ρ
  | [], s => nxT s
  | x :: xs, s => fun z => match body x s z with
    | .nx s' z' => forT body xs s' z'
    | .ct s' z' => forT body xs s' z'
    | .bk s' z' => .nx s' z'
    | .rt r z' => .rt r z'
    | .exc c ds z' => .exc c ds z'
    | .stuck => .stuck
def whT (c : ν → X Z Bool) (body : ν → Y Z ν ν ρ) : Nat → ν → Y Z ν κ ρ
  | 0, _ => skT
  | n + 1, s => sbn (c s) fun b => if b = true then (fun z => match body s z with
    | .nx s' z' => whT c body n s' z'
    | .ct s' z' => whT c body n s' z'
    | .bk s' z' => .nx s' z'
    | .rt r z' => .rt r z'
    | .exc c ds z' => .exc c ds z'
    | .stuck => .stuck) else nxT s
def noX (s : Y Z ν κ ρ) : Y Z ν κ ρ := fun z => match s z with
  | .exc _ _ _ => .stuck
  | o => o
def tryT (s : Y Z ν κ ρ) (h : Nat → List D → Y Z ν κ ρ) : Y Z ν κ ρ := fun z => match s z with
  | .exc c ds z' => h c ds z'
  | o => o
@[simp] theorem thnT_nx (s : ν) (t : ν → Y Z ν' κ ρ) : thnT (nxT s) t = t s := rfl
@[simp] theorem thnT_rt (r : ρ) (t : ν → Y Z ν' κ ρ) : thnT (rtT r) t = rtT r := rfl
@[simp] theorem thnT_bk (r : κ) (t : ν → Y Z ν' κ ρ) : thnT (bkT r) t = bkT r := rfl
@[simp] theorem thnT_ct (r : κ) (t : ν → Y Z ν' κ ρ) : thnT (ctT r) t = ctT r := rfl
@[simp] theorem thnT_sk (t : ν → Y Z ν' κ ρ) : thnT skT t = skT := rfl
@[simp] theorem thnT_ex (c : Nat) (ds : List D) (t : ν → Y Z ν' κ ρ) : thnT (exT c ds) t = exT c ds := rfl
@[simp] theorem thnT_ite (c : Prop) [Decidable c] (s s' : Y Z ν κ ρ) (t : ν → Y Z ν' κ ρ) : thnT (if c then s else s') t = if c then thnT s t else thnT s' t := by split <;> rfl
@[simp] theorem sbn_ret (x : α) (t : α → Y Z ν κ ρ) : sbn (ret x) t = t x := rfl
@[simp] theorem sbn_thr (c : Nat) (ds : List D) (t : α → Y Z ν κ ρ) : sbn (thr c ds) t = exT c ds := rfl
@[simp] theorem sbn_stk (t : α → Y Z ν κ ρ) : sbn stk t = skT := rfl
@[simp] theorem sbn_ite (c : Prop) [Decidable c] (s s' : X Z α) (t : α → Y Z ν κ ρ) : sbn (if c then s else s') t = if c then sbn s t else sbn s' t := by split <;> rfl
@[simp] theorem reT_ret (x : ρ) : (reT (ret x) : Y Z ν κ ρ) = rtT x := rfl
@[simp] theorem forT_nil (body : β → ν → Y Z ν ν ρ) (s : ν) : (forT body [] s : Y Z ν κ ρ) = nxT s := rfl
@[simp] theorem sbn_ap (s : X Z α) (t : α → Y Z ν κ ρ) (z : Z) : sbn s t z = match s z with
  | .ok x z' => t x z'
  | .exc c ds z' => .exc c ds z'
  | .stuck => .stuck := rfl
@[simp] theorem nxT_ap (s : ν) (z : Z) : (nxT s : Y Z ν κ ρ) z = .nx s z := rfl
@[simp] theorem rtT_ap (s : ρ) (z : Z) : (rtT s : Y Z ν κ ρ) z = .rt s z := rfl
@[simp] theorem exT_ap (c : Nat) (ds : List D) (z : Z) : (exT c ds : Y Z ν κ ρ) z = .exc c ds z := rfl
@[simp] theorem thnT_ap (s : Y Z ν κ ρ) (t : ν → Y Z ν' κ ρ) (z : Z) : thnT s t z = (s z).thn t := rfl
@[simp] theorem fthn_nx (s : ν) (z : Z) (t : ν → Y Z ν' κ ρ) : (Fo.nx s z : Fo Z ν κ ρ).thn t = t s z := rfl
@[simp] theorem fthn_rt (s : ρ) (z : Z) (t : ν → Y Z ν' κ ρ) : (Fo.rt s z : Fo Z ν κ ρ).thn t = .rt s z := rfl
theorem forT_cons (body : β → ν → Y Z ν ν ρ) (x : β) (xs : List β) (s : ν) : (forT body (x :: xs) s : Y Z ν κ ρ) = fun z => match body x s z with
    | .nx s' z' => forT body xs s' z'
    | .ct s' z' => forT body xs s' z'
    | .bk s' z' => .nx s' z'
    | .rt r z' => .rt r z'
    | .exc c ds z' => .exc c ds z'
    | .stuck => .stuck := rfl
@[simp] theorem tryT_nx (s : ν) (h : Nat → List D → Y Z ν κ ρ) : tryT (nxT s) h = nxT s := rfl
@[simp] theorem tryT_rt (r : ρ) (h : Nat → List D → Y Z ν κ ρ) : tryT (rtT r) h = rtT r := rfl
@[simp] theorem tryT_ex (c : Nat) (ds : List D) (h : Nat → List D → Y Z ν κ ρ) : tryT (exT c ds) h = h c ds := rfl
@[simp] theorem noX_nx (s : ν) : noX (nxT s : Y Z ν κ ρ) = nxT s := rfl
@[simp] theorem noX_rt (r : ρ) : noX (rtT r : Y Z ν κ ρ) = rtT r := rfl
def fnT (s : Y Z Unit Empty ρ) : X Z ρ := fun z => match s z with
  | .rt r z' => .ok r z'
  | .exc c ds z' => .exc c ds z'
  | _ => .stuck
def fnU (s : Y Z Unit Empty Unit) : X Z Unit := fun z => match s z with
  | .rt _ z' => .ok () z'
  | .nx _ z' => .ok () z'
  | .exc c ds z' => .exc c ds z'
  | _ => .stuck
def fnN (s : Y Z Unit Empty (Option ρ)) : X Z (Option ρ) := fun z => match s z with
  | .rt r z' => .ok r z'
  | .nx _ z' => .ok none z'
  | .exc c ds z' => .exc c ds z'
  | _ => .stuck
def inT (s : Y Z ν Empty Empty) : X Z ν := fun z => match s z with
  | .nx r z' => .ok r z'
  | .exc c ds z' => .exc c ds z'
  | _ => .stuck
@[simp] theorem fnT_rt (r : ρ) : fnT (rtT r : Y Z Unit Empty ρ) = ret r := rfl
@[simp] theorem fnT_ex (c : Nat) (ds : List D) : fnT (exT c ds : Y Z Unit Empty ρ) = thr c ds := rfl
@[simp] theorem fnU_nx : fnU (nxT () : Y Z Unit Empty Unit) = ret () := rfl
@[simp] theorem fnU_ex (c : Nat) (ds : List D) : fnU (exT c ds : Y Z Unit Empty Unit) = thr c ds := rfl
@[simp] theorem fnU_rt : fnU (rtT () : Y Z Unit Empty Unit) = ret () := rfl
@[simp] theorem fnN_rt (r : Option ρ) : fnN (rtT r : Y Z Unit Empty (Option ρ)) = ret r := rfl
@[simp] theorem fnN_nx : fnN (nxT () : Y Z Unit Empty (Option ρ)) = ret none := rfl
@[simp] theorem inT_nx (r : ν) : inT (nxT r : Y Z ν Empty Empty) = ret r := rfl
@[simp] theorem inT_ex (c : Nat) (ds : List D) : inT (exT c ds : Y Z ν Empty Empty) = thr c ds := rfl
@[simp] theorem fnT_ite (c : Prop) [Decidable c] (s s' : Y Z Unit Empty ρ) : fnT (if c then s else s') = if c then fnT s else fnT s' := by split <;> rfl
@[simp] theorem fnU_ite (c : Prop) [Decidable c] (s s' : Y Z Unit Empty Unit) : fnU (if c then s else s') = if c then fnU s else fnU s' := by split <;> rfl
@[simp] theorem fnN_ite (c : Prop) [Decidable c] (s s' : Y Z Unit Empty (Option ρ)) : fnN (if c then s else s') = if c then fnN s else fnN s' := by split <;> rfl
@[simp] theorem inT_ite (c : Prop) [Decidable c] (s s' : Y Z ν Empty Empty) : inT (if c then s else s') = if c then inT s else inT s' := by split <;> rfl
end
section
variable {Z ν ν' κ ρ α β τ νD νD' κD βD : Type} {R : Rel Z}
def SRl (N : ν → Rel Z) (eN : ν → νD) (K : κ → Rel Z) (eK : κ → κD) (Q : Rel Z) (eR : ρ → M) (E : Rel Z) : Fo Z ν κ ρ → Fl νD κD → Prop
  | .nx s z, o => ∃ a, o = .nx (eN s) a ∧ N s z a
  | .rt r z, o => ∃ a, o = .rt (eR r) a ∧ Q z a
  | .bk k z, o => ∃ a, o = .bk (eK k) a ∧ K k z a
  | .ct k z, o => ∃ a, o = .ct (eK k) a ∧ K k z a
  | .exc c ds z, o => ∃ a, o = .exc c (xn c) ds a ∧ E z a ∧ NLs ds
  | .stuck, _ => True
structure GS (R : Rel Z) (N : ν → Rel Z) (eN : ν → νD) (K : κ → Rel Z) (eK : κ → κD) (Q : Rel Z) (eR : ρ → M) (E : Rel Z) (s : Y Z ν κ ρ) (t : Fw νD κD) : Prop where
  go : ∀ z a, R z a → SRl N eN K eK Q eR E (s z) (t a)
instance {R : Rel Z} {N : ν → Rel Z} {eN : ν → νD} {K : κ → Rel Z} {eK : κ → κD} {Q : Rel Z} {eR : ρ → M} {E : Rel Z} {s : Y Z ν κ ρ} {t : Fw νD κD} : CoeFun (GS R N eN K eK Q eR E s t) fun _ => ∀ z a, R z a → SRl N eN K eK Q eR E (s z) (t a) := ⟨GS.go⟩
def Le (R S : Rel Z) : Prop := ∀ z a, R z a → S z a
theorem Le.refl {R : Rel Z} : Le R R := fun _ _ h => h
variable {N : ν → Rel Z} {eN : ν → νD} {N1 : ν' → Rel Z} {eN1 : ν' → νD'} {K : κ → Rel Z} {eK : κ → κD} {Q E : Rel Z} {eR : ρ → M}
theorem s_nx {x : ν} {d : νD} (h : eN x = d) (l : Le R (N x)) : GS R N eN K eK Q eR E (nxT x) (nxF d) := .mk fun z a r => ⟨a, by rw [h]; rfl, l z a r⟩
theorem s_rt {x : ρ} {m : M} (h : eR x = m) (l : Le R Q) : GS R N eN K eK Q eR E (rtT x) (rtF m) := .mk fun z a r => ⟨a, by rw [h]; rfl, l z a r⟩
theorem s_sk {t : Fw νD κD} : GS R N eN K eK Q eR E skT t := .mk fun z a r => trivial
theorem s_thn {s1 : Y Z ν' κ ρ} {s2 : ν' → Y Z ν κ ρ} {t1 : Fw νD' κD} {t2 : νD' → Fw νD κD} (h : GS R N1 eN1 K eK Q eR E s1 t1) (h2 : ∀ x, GS (N1 x) N eN K eK Q eR E (s2 x) (t2 (eN1 x))) : GS R N eN K eK Q eR E (thnT s1 s2) (thn t1 t2) := .mk fun z a r => by
  have q := h z a r
  show SRl N eN K eK Q eR E ((s1 z).thn s2) ((t1 a).thn t2)
  cases c : s1 z with
  | nx x z' =>
    rw [c] at q
    obtain ⟨a', e1, r'⟩ := q
    rw [e1]
    exact h2 x z' a' r'
  | rt x z' =>
    rw [c] at q
    obtain ⟨a', e1, r'⟩ := q
    rw [e1]
    exact ⟨a', rfl, r'⟩
  | bk x z' =>
    rw [c] at q
    obtain ⟨a', e1, r'⟩ := q
    rw [e1]
    exact ⟨a', rfl, r'⟩
  | ct x z' =>
    rw [c] at q
    obtain ⟨a', e1, r'⟩ := q
    rw [e1]
    exact ⟨a', rfl, r'⟩
  | exc c' ds z' =>
    rw [c] at q
    obtain ⟨a', e1, r'⟩ := q
    rw [e1]
    exact ⟨a', rfl, r'⟩
  | stuck => exact trivial
theorem s_fl {e : α → β} {s : X Z α} {k : α → Y Z ν κ ρ} {f : Sto → Out β} {t : β → Fw νD κD} (h : G R e s f) (l : Le R E) (h2 : ∀ x, GS R N eN K eK Q eR E (k x) (t (e x))) : GS R N eN K eK Q eR E (sbn s k) (fun a => (f a).fl t) := .mk fun z a r => by
  have q := h z a r
  show SRl N eN K eK Q eR E (match s z with | .ok x z' => k x z' | .exc c ds z' => .exc c ds z' | .stuck => .stuck) ((f a).fl t)
  cases c : s z with
  | ok x z' =>
    rw [c] at q
    obtain ⟨a', e1, r'⟩ := q
    rw [e1]
    exact h2 x z' a' r'
  | exc c' ds z' =>
    rw [c] at q
    obtain ⟨a', e1, r', n⟩ := q
    rw [e1]
    exact ⟨a', rfl, l _ _ r', n⟩
  | stuck => exact trivial
theorem s_eq {s : Y Z ν κ ρ} {t t' : Fw νD κD} (h : ∀ a, t' a = t a) (k : GS R N eN K eK Q eR E s t) : GS R N eN K eK Q eR E s t' := .mk fun z a r => by
  rw [h a]
  exact k z a r
theorem s_eqR {s : Y Z ν κ ρ} {t t' : Fw νD κD} (h : ∀ z a, R z a → t' a = t a) (k : GS R N eN K eK Q eR E s t) : GS R N eN K eK Q eR E s t' := .mk fun z a r => by
  rw [h z a r]
  exact k z a r
theorem s_V {e : α → D} {s : X Z α} {k : α → Y Z ν κ ρ} {f : EV} {t : D → Fw νD κD} (h : G R e s (f [])) (l : Le R E) (h2 : ∀ x, GS R N eN K eK Q eR E (k x) (t (e x))) : GS R N eN K eK Q eR E (sbn s k) (thn (seV f) t) := s_eq (t := fun a => (f [] a).fl t) (fun a => by
  show ((f [] a).fl fun d a' => .nx d a').thn t = _
  cases f [] a <;> rfl) (s_fl h l h2)
theorem s_VP {s : Y Z ν κ ρ} {f : EV} {d : D} {t : D → Fw νD κD} (h : PV f d) (h2 : GS R N eN K eK Q eR E s (t d)) : GS R N eN K eK Q eR E s (thn (seV f) t) := s_eq (t := t d) (fun a => by
  show ((f [] a).fl fun d a' => .nx d a').thn t = _
  rw [h a]
  rfl) h2
theorem s_L {m : α → M} {s : X Z (List α)} {k : List α → Y Z ν κ ρ} {f : EM} {t : List M → Fw νD κD} (h : G R (lm m) s (f [])) (l : Le R E) (h2 : ∀ x, GS R N eN K eK Q eR E (k x) (t (x.map m))) : GS R N eN K eK Q eR E (sbn s k) (thn (seL f) t) := s_eq (t := fun a => (f [] a).fl fun d => match d with
    | .lst ms => t ms
    | _ => skF) (fun a => by
  show ((f [] a).fl fun m a' => match m with
    | .lst ms => .nx ms a'
    | _ => .stuck).thn t = _
  cases f [] a with
  | ok d a' => cases d <;> rfl
  | _ => rfl) (s_fl h l fun x => h2 x)
theorem s_U {m : α → M} {s : X Z α} {k : Y Z ν κ ρ} {f : EM} {t : Unit → Fw νD κD} (h : G R m s (f [])) (l : Le R E) (h2 : GS R N eN K eK Q eR E k (t ())) : GS R N eN K eK Q eR E (sbn s fun _ => k) (thn (seU f) t) := s_eq (t := fun a => (f [] a).fl fun _ => t ()) (fun a => by
  show ((f [] a).fl fun d a' => .nx () a').thn t = _
  cases f [] a <;> rfl) (s_fl h l fun _ => h2)
theorem s_re {s : X Z ρ} {f : EM} (h : G R eR s (f [])) (l : Le R E) (l2 : Le R Q) : GS R N eN K eK Q eR E (reT s) (reM f) := s_fl h l fun x => .mk fun z a r => ⟨a, rfl, l2 z a r⟩
theorem s_reP {x : ρ} {m : M} {f : EM} (h : PM f m) (h2 : m = eR x) (l2 : Le R Q) : GS R N eN K eK Q eR E (rtT x) (reM f) := .mk fun z a r => by
  show SRl N eN K eK Q eR E (Fo.rt x z) ((f [] a).fl _)
  rw [h a]
  exact ⟨a, by rw [h2]; rfl, l2 z a r⟩
def raT (s : X Z τ) : Y Z ν κ ρ := sbn s fun _ => skT
@[simp] theorem raT_thr (c : Nat) (ds : List D) : (raT (thr c ds : X Z τ) : Y Z ν κ ρ) = exT c ds := rfl
theorem s_ra {e : τ → M} {s : X Z τ} {f : EM} (h : G R e s (f [])) (l : Le R E) : GS R N eN K eK Q eR E (raT s) (raF f) := s_fl h l fun x => s_sk
theorem x_exc {s : X Z τ} {e : τ → M} {c : Nat} {fs : List Str} {f : EA} (h : AK R e s f fun ds a1 => if ds.length = fs.length then .exc c fs ds a1 else .stuck) : G R e s (excM c fs f []) := h
theorem f_exc {e : τ → M} {c : Nat} {fs : List Str} {ds : List D} (h : xn c = fs) (hl : ds.length = fs.length) (hn : NLs ds) : G R e (thr c ds) fun a1 => if ds.length = fs.length then .exc c fs ds a1 else .stuck := .mk fun z a r => ⟨a, by
  rw [h]
  exact if_pos hl, r, hn⟩
theorem s_if {b : Bool} {s1 s2 : Y Z ν κ ρ} {c : ET} {t1 t2 : Fw νD κD} (h : PT c b) (h1 : GS R N eN K eK Q eR E s1 t1) (h2 : GS R N eN K eK Q eR E s2 t2) : GS R N eN K eK Q eR E (if b = true then s1 else s2) (ifF c t1 t2) := .mk fun z a r => by
  show SRl N eN K eK Q eR E _ ((c [] a).fl fun b a' => if b = true then t1 a' else t2 a')
  rw [h a]
  cases b with
  | true => exact h1 z a r
  | false => exact h2 z a r
theorem s_ifX {b : X Z Bool} {s1 s2 : Y Z ν κ ρ} {c : ET} {t1 t2 : Fw νD κD} (h : G R id b (c [])) (l : Le R E) (h1 : GS R N eN K eK Q eR E s1 t1) (h2 : GS R N eN K eK Q eR E s2 t2) : GS R N eN K eK Q eR E (sbn b fun b => if b = true then s1 else s2) (ifF c t1 t2) := s_fl h l fun x => by
  cases x with
  | true => exact h1
  | false => exact h2
theorem s_ifg [GdR R] {kd : Kd} (hk : Lo kd) {b : Bool} {s1 s2 : Y Z ν κ ρ} {c : ET} {t1 t2 : Fw νD κD} (h : PT c b) (h1 : GS R N eN K eK Q eR E s1 t1) (h2 : GS R N eN K eK Q eR E s2 t2) : GS R N eN K eK Q eR E (if b = true then s1 else s2) (ifFg kd c t1 t2) := .mk fun z a r => by
  show SRl N eN K eK Q eR E _ ((c [] a).fl fun b a' => if clA kd a' = true then (if b = true then t1 a' else t2 a') else .stuck)
  rw [h a, fl_ok, if_pos ((GdR.gd z a r).lo kd hk)]
  cases b with
  | true => exact h1 z a r
  | false => exact h2 z a r
theorem s_ifXg [GdR R] {kd : Kd} (hk : Lo kd) {b : X Z Bool} {s1 s2 : Y Z ν κ ρ} {c : ET} {t1 t2 : Fw νD κD} (h : G R id b (c [])) (l : Le R E) (h1 : GS R N eN K eK Q eR E s1 t1) (h2 : GS R N eN K eK Q eR E s2 t2) : GS R N eN K eK Q eR E (sbn b fun b => if b = true then s1 else s2) (ifFg kd c t1 t2) := s_fl h l fun x => s_eqR (t := if x = true then t1 else t2) (fun z a r => by
  have g := (GdR.gd z a r).lo kd hk
  cases x <;> exact if_pos g) (by
  cases x with
  | true => exact h1
  | false => exact h2)
theorem s_Lg [GdR R] {kd : Kd} (hk : Lo kd) {m : α → M} [ClM m] {s : X Z (List α)} {k : List α → Y Z ν κ ρ} {f : EM} {t : List M → Fw νD κD} (h : G R (lm m) s (f [])) (l : Le R E) (h2 : ∀ x, GS R N eN K eK Q eR E (k x) (t (x.map m))) : GS R N eN K eK Q eR E (sbn s k) (thn (seLg kd f) t) := s_eq (t := fun a => (f [] a).fl fun d a' => match d with
    | .lst ms => if (clMs kd ms && clA kd a') = true then t ms a' else .stuck
    | _ => .stuck) (fun a => by
  show ((f [] a).fl fun m a' => match m with
    | .lst ms => if (clMs kd ms && clA kd a') = true then .nx ms a' else .stuck
    | _ => .stuck).thn t = _
  cases f [] a with
  | ok d a' =>
    rw [fl_ok, fl_ok]
    cases d with
    | lst ms => dsimp only; split <;> rfl
    | _ => rfl
  | _ => rfl) (s_fl h l fun x => s_eqR (t := t (x.map m)) (fun z a r => if_pos (by
    rw [clMs_map (fun y => ClM.cl kd y hk) x, (GdR.gd z a r).lo kd hk]
    rfl)) (h2 x))
end
end TL
namespace TL
open PySem PySem.Spec PyProof.Rows L2 DL
section
variable {Z ν ν' κ ρ α β γ τ κ' νD νD' κD βD : Type} {R : Rel Z}
@[simp] theorem sbn_grd (c : Prop) [Decidable c] (s : X Z α) (t : α → Y Z ν κ ρ) : sbn (grd c s) t = if c then sbn s t else skT := by
  unfold grd
  split <;> rfl
variable {N : ν → Rel Z} {eN : ν → νD} {N1 : ν' → Rel Z} {eN1 : ν' → νD'} {K : κ → Rel Z} {eK : κ → κD} {Q E : Rel Z} {eR : ρ → M}
def ml (e : α → D) (xs : List α) : List D := xs.map e
theorem ik_it {e : α → D} {t : X Z (List α)} {f : EI} (h : IK R (ml e) t f fun ds a => .ok ds a) : G R (ml e) t (f []) := g_mono (fun a => by cases f [] a <;> rfl) h
theorem s_loop {e : α → D} {b : α → βD} {gd : D → Option βD} {bodyT : α → ν → Y Z ν ν ρ} {body : βD → νD → Fw νD νD} (hg : ∀ x, gd (e x) = some (b x)) (hb : ∀ x y, GS (N y) N eN N eN Q eR E (bodyT x y) (body (b x) (eN y))) :
    ∀ (xs : List α) (y : ν), GS (N y) N eN K eK Q eR E (forT bodyT xs y) (loopF gd body (xs.map e) (eN y))
  | [], y => .mk fun z a r => ⟨a, rfl, r⟩
  | x :: xs, y => .mk fun z a r => by
    have q := hb x y z a r
    show SRl N eN K eK Q eR E (match bodyT x y z with
      | .nx s' z' => forT bodyT xs s' z'
      | .ct s' z' => forT bodyT xs s' z'
      | .bk s' z' => .nx s' z'
      | .rt r z' => .rt r z'
      | .exc c ds z' => .exc c ds z'
      | .stuck => .stuck) (match gd (e x) with
      | none => .stuck
      | some b => (match body b (eN y) a with
        | .nx s' a' => loopF gd body (xs.map e) s' a'
        | .ct s' a' => loopF gd body (xs.map e) s' a'
        | .bk s' a' => .nx s' a'
        | .rt m a' => .rt m a'
        | .exc c ns es a' => .exc c ns es a'
        | .stuck => .stuck))
    rw [hg x]
    dsimp only
    cases c : bodyT x y z with
    | nx x z' =>
      rw [c] at q
      obtain ⟨a', e1, r'⟩ := q
      rw [e1]
      exact s_loop hg hb xs x z' a' r'
    | rt x z' =>
      rw [c] at q
      obtain ⟨a', e1, r'⟩ := q
      rw [e1]
      exact ⟨a', rfl, r'⟩
    | bk x z' =>
      rw [c] at q
      obtain ⟨a', e1, r'⟩ := q
      rw [e1]
      exact ⟨a', rfl, r'⟩
    | ct x z' =>
      rw [c] at q
      obtain ⟨a', e1, r'⟩ := q
      rw [e1]
      exact s_loop hg hb xs x z' a' r'
    | exc c' ds z' =>
      rw [c] at q
      obtain ⟨a', e1, r'⟩ := q
      rw [e1]
      exact ⟨a', rfl, r'⟩
    | stuck => exact trivial
theorem s_for {e : α → D} {b : α → βD} {gd : D → Option βD} {it : EI} {s : X Z (List α)} {bodyT : α → ν → Y Z ν ν ρ} {body : βD → νD → Fw νD νD} (y : ν) {y0 : νD} (hi : G R (ml e) s (it [])) (l : Le R E) (l2 : Le R (N y)) (h0 : eN y = y0)
    (hg : ∀ x, gd (e x) = some (b x)) (hb : ∀ x y, GS (N y) N eN N eN Q eR E (bodyT x y) (body (b x) (eN y))) :
    GS R N eN K eK Q eR E (sbn s fun xs => forT bodyT xs y) (forF it gd body y0) := s_fl hi l fun xs => .mk fun z a r => by
  rw [← h0]
  exact s_loop hg hb xs y z a (l2 z a r)
theorem s_forP {e : α → D} {b : α → βD} {gd : D → Option βD} {it : EI} {xs : List α} {bodyT : α → ν → Y Z ν ν ρ} {body : βD → νD → Fw νD νD} (y : ν) {y0 : νD} (hi : G R (ml e) (ret xs) (it [])) (l : Le R E) (l2 : Le R (N y)) (h0 : eN y = y0)
    (hg : ∀ x, gd (e x) = some (b x)) (hb : ∀ x y, GS (N y) N eN N eN Q eR E (bodyT x y) (body (b x) (eN y))) :
    GS R N eN K eK Q eR E (forT bodyT xs y) (forF it gd body y0) := s_for (s := ret xs) y hi l l2 h0 hg hb
theorem s_wh {k : νD → Kd} {c : νD → ET} {cT : ν → X Z Bool} {bodyT : ν → Y Z ν ν ρ} {body : νD → Fw νD νD} (hgd : ∀ y, GdR (N y)) (hk : ∀ y, Lo (k (eN y))) (hc : ∀ y, G (N y) id (cT y) (c (eN y) [])) (l : ∀ y, Le (N y) E) (hb : ∀ y, GS (N y) N eN N eN Q eR E (bodyT y) (body (eN y))) :
    ∀ (n : Nat) (y : ν), GS (N y) N eN K eK Q eR E (whT cT bodyT n y) (whF k c body n (eN y))
  | 0, y => s_sk
  | n + 1, y => s_fl (f := c (eN y) []) (hc y) (l y) fun x => s_eqR (t := if x = true then (fun a' => match body (eN y) a' with
      | .nx s' a2 => whF k c body n s' a2
      | .ct s' a2 => whF k c body n s' a2
      | .bk s' a2 => .nx s' a2
      | .rt m a2 => .rt m a2
      | .exc q ns ds a2 => .exc q ns ds a2
      | .stuck => .stuck) else fun a' => .nx (eN y) a') (fun z a r => by
    have g := ((hgd y).gd z a r).lo _ (hk y)
    cases x <;> exact if_pos g) (by
    cases x with
    | false => exact .mk fun z a r => ⟨a, rfl, r⟩
    | true =>
      refine .mk fun z a r => ?_
      have q := hb y z a r
      show SRl N eN K eK Q eR E (match bodyT y z with
        | .nx s' z' => whT cT bodyT n s' z'
        | .ct s' z' => whT cT bodyT n s' z'
        | .bk s' z' => .nx s' z'
        | .rt r z' => .rt r z'
        | .exc c ds z' => .exc c ds z'
        | .stuck => .stuck) (match body (eN y) a with
        | .nx s' a2 => whF k c body n s' a2
        | .ct s' a2 => whF k c body n s' a2
        | .bk s' a2 => .nx s' a2
        | .rt m a2 => .rt m a2
        | .exc q ns ds a2 => .exc q ns ds a2
        | .stuck => .stuck)
      cases c : bodyT y z with
      | nx x z' =>
        rw [c] at q
        obtain ⟨a', e1, r'⟩ := q
        rw [e1]
        exact s_wh hgd hk hc l hb n x z' a' r'
      | rt x z' =>
        rw [c] at q
        obtain ⟨a', e1, r'⟩ := q
        rw [e1]
        exact ⟨a', rfl, r'⟩
      | bk x z' =>
        rw [c] at q
        obtain ⟨a', e1, r'⟩ := q
        rw [e1]
        exact ⟨a', rfl, r'⟩
      | ct x z' =>
        rw [c] at q
        obtain ⟨a', e1, r'⟩ := q
        rw [e1]
        exact s_wh hgd hk hc l hb n x z' a' r'
      | exc c' ds z' =>
        rw [c] at q
        obtain ⟨a', e1, r'⟩ := q
        rw [e1]
        exact ⟨a', rfl, r'⟩
      | stuck => exact trivial)
def appT (xs : List α) (x : α) : Y Z (List α) κ ρ := if xs.length < 100000 then nxT (xs ++ [x]) else skT
theorem appT_ok {xs : List α} {x : α} (h : xs.length < 100000) : (appT xs x : Y Z (List α) κ ρ) = nxT (xs ++ [x]) := if_pos h
variable {m : α → M}
theorem s_app {xs : List α} {s : X Z α} {f : EM} {ms : List M} (h : G R m s (f [])) (l : Le R E) (hm : xs.map m = ms) : GS R (fun _ => R) (List.map m) K eK Q eR E (sbn s fun x => appT xs x) (appF f ms) := s_fl h l fun x => .mk fun z a r => by
  show SRl _ _ K eK Q eR E ((if xs.length < 100000 then nxT (xs ++ [x]) else skT : Y Z (List α) κ ρ) z) (if ms.length < 100000 then .nx (ms ++ [m x]) a else .stuck)
  by_cases c : xs.length < 100000
  · rw [if_pos c, if_pos (by rw [← hm, List.length_map]; exact c)]
    exact ⟨a, by rw [← hm, List.map_append]; rfl, r⟩
  · rw [if_neg c]
    exact trivial
theorem s_appP {xs : List α} {x : α} {f : EM} {n : M} {ms : List M} (h : PM f n) (hn : n = m x) (hm : xs.map m = ms) : GS R (fun _ => R) (List.map m) K eK Q eR E (appT xs x) (appF f ms) := .mk fun z a r => by
  show SRl _ _ K eK Q eR E ((if xs.length < 100000 then nxT (xs ++ [x]) else skT : Y Z (List α) κ ρ) z) ((f [] a).fl fun m a' => if ms.length < 100000 then .nx (ms ++ [m]) a' else .stuck)
  rw [h a, fl_ok]
  by_cases c : xs.length < 100000
  · rw [if_pos c, if_pos (by rw [← hm, List.length_map]; exact c)]
    exact ⟨a, by rw [← hm, hn, List.map_append]; rfl, r⟩
  · rw [if_neg c]
    exact trivial
def setT (xs : List α) (k : Int) (x : α) : Y Z (List α) κ ρ := match ixN xs.length k with
  | some j => nxT (xs.set j x)
  | none => skT
theorem s_setP0 [GdR R] {kd : Kd} (hk : Lo kd) [ClM m] {xs : List α} {k : Int} {s : X Z α} {f : EM} {ms : List M} (h : G R m s (f [])) (l : Le R E) (hm : xs.map m = ms) : GS R (fun _ => R) (List.map m) K eK Q eR E (sbn s fun x => setT xs k x) (setPF kd f ms (some []) (some k)) := s_fl h l fun x => .mk fun z a r => by
  show SRl _ _ K eK Q eR E ((match ixN xs.length k with | some j => nxT (xs.set j x) | none => skT : Y Z (List α) κ ρ) z) (if (clM kd (m x) && clA kd a) = true then (match (match (match ixN ms.length k with
    | some j => some (ms.set j (m x))
    | none => none) with
      | some l' => some l'
      | none => none) with
  | some l => .nx l a
  | none => .stuck) else .stuck)
  rw [if_pos (by rw [ClM.cl kd x hk, (GdR.gd z a r).lo kd hk]; rfl), ← hm, List.length_map]
  cases ixN xs.length k with
  | none => exact trivial
  | some j => exact ⟨a, by rw [List.map_set], r⟩
theorem s_Fg [GdR R] {kd : Kd} (hk : Lo kd) {n : α → M} {e : α → D} [ClM n] [Fz n e] {s : X Z α} {k : α → Y Z ν κ ρ} {f : EM} {t : D → Fw νD κD} (h : G R n s (f [])) (l : Le R E) (h2 : ∀ x, GS R N eN K eK Q eR E (k x) (t (e x))) : GS R N eN K eK Q eR E (sbn s k) (thn (seFg kd f) t) := s_eq (t := fun a => (f [] a).fl fun m a' => if (clM kd m && clA kd a') = true then t (freeze m) a' else .stuck) (fun a => by
  show ((f [] a).fl fun m a' => if (clM kd m && clA kd a') = true then .nx (freeze m) a' else .stuck).thn t = _
  cases f [] a with
  | ok d a' =>
    rw [fl_ok, fl_ok]
    split <;> rfl
  | _ => rfl) (s_fl h l fun x => s_eqR (t := t (e x)) (fun z a r => by
    rw [if_pos (by rw [ClM.cl kd x hk, (GdR.gd z a r).lo kd hk]; rfl), Fz.fz (m := n)]) (h2 x))
inductive HS (R : Rel Z) (N : ν → Rel Z) (eN : ν → νD) (K : κ → Rel Z) (eK : κ → κD) (Q : Rel Z) (eR : ρ → M) : (Nat → List D → Y Z ν κ ρ) → List (HcD νD κD) → Prop where
  | nil : HS R N eN K eK Q eR (fun c ds => exT c ds) []
  | cons {cs ms : List Nat} {h r : Nat → List D → Y Z ν κ ρ} {g : D → Fw νD κD} {l : List (HcD νD κD)} (hg : ∀ c ds, NLs ds → c ∈ ms → GS R N eN K eK Q eR (fun _ _ => True) (h c ds) (g (eX (c, ds)))) (hr : HS R N eN K eK Q eR r l) :
      HS R N eN K eK Q eR (fun c ds => if c ∈ cs then (if c ∈ ms then noX (h c ds) else r c ds) else skT) (⟨cs, ms, g⟩ :: l)
theorem fn_T {s : Y Z Unit Empty ρ} {t : Fw Unit Empty} {K : Empty → Rel Z} {eK : Empty → Empty} {F : Sto → Out M} (h : GS R (fun _ => R) (fun _ => ()) K eK R eR R s t) (hF : ∀ a o, fnO (t a) = o → o ≠ .stuck → F a = o) : G R eR (fnT s) F := .mk fun z a r => by
  have q := h z a r
  show Rl R eR (match s z with | .rt r z' => Ot.ok r z' | .exc c ds z' => .exc c ds z' | _ => .stuck) (F a)
  cases e : s z with
  | rt x z' =>
    rw [e] at q
    obtain ⟨a', e1, r'⟩ := q
    exact ⟨a', hF a _ (by rw [e1]; rfl) (fun w => nomatch w), r'⟩
  | exc c ds z' =>
    rw [e] at q
    obtain ⟨a', e1, r'⟩ := q
    exact ⟨a', hF a _ (by rw [e1]; rfl) (fun w => nomatch w), r'⟩
  | _ => exact trivial
theorem fn_U {s : Y Z Unit Empty Unit} {t : Fw Unit Empty} {K : Empty → Rel Z} {eK : Empty → Empty} {F : Sto → Out M} (h : GS R (fun _ => R) (fun _ => ()) K eK R (vm TL.eN) R s t) (hF : ∀ a o, fnO (t a) = o → o ≠ .stuck → F a = o) : G R (vm TL.eN) (fnU s) F := .mk fun z a r => by
  have q := h z a r
  show Rl R _ (match s z with | .rt _ z' => Ot.ok () z' | .nx _ z' => .ok () z' | .exc c ds z' => .exc c ds z' | _ => .stuck) (F a)
  cases e : s z with
  | rt x z' =>
    rw [e] at q
    obtain ⟨a', e1, r'⟩ := q
    exact ⟨a', hF a _ (by rw [e1]; rfl) (fun w => nomatch w), r'⟩
  | nx x z' =>
    rw [e] at q
    obtain ⟨a', e1, r'⟩ := q
    exact ⟨a', hF a _ (by rw [e1]; rfl) (fun w => nomatch w), r'⟩
  | exc c ds z' =>
    rw [e] at q
    obtain ⟨a', e1, r'⟩ := q
    exact ⟨a', hF a _ (by rw [e1]; rfl) (fun w => nomatch w), r'⟩
  | _ => exact trivial
end
section
variable {ν κ ρ α β γ : Type}
def Ri (a0 : Sto) (c : Nat) (ns : List Str) (ds : List D) : Rel Unit := fun _ a => a = a0 ++ [.obj c ns ds] ∧ (Gd a ∧ Gd a0) ∧ NLs ds
instance (a0 : Sto) (c : Nat) (ns : List Str) (ds : List D) : GdR (Ri a0 c ns ds) := ⟨fun z a h => h.2.1.1⟩
variable {νD κD : Type} {N : ν → Rel Unit} {eN : ν → νD} {K : κ → Rel Unit} {eK : κ → κD} {Q E : Rel Unit} {eR : ρ → M}
end
end TL
namespace TL
open PySem PySem.Spec PyProof.Rows L2 DL
section
variable {Z α β γ τ : Type} {R : Rel Z} {e : α → D}
theorem p_oNo : ∀ a, oNo [] a = .ok none a := fun _ => rfl
theorem p_oSome {f : EV} {i : Int} (h : PV f (.int i)) : ∀ a, oSome f [] a = .ok (some i) a := fun a => by
  show (f [] a).opt asI = _
  rw [h a, opt_ok]
  rfl
theorem x_oSome {f : EV} {s : X Z Int} (h : G R D.int s (f [])) : G R (some : Int → Option Int) s (oSome f []) := .mk fun z a r => by
  have q := h z a r
  show Rl R _ (s z) ((f [] a).opt asI)
  cases c : s z with
  | ok x z' =>
    rw [c] at q
    obtain ⟨a', e1, r'⟩ := q
    rw [e1]
    exact ⟨a', rfl, r'⟩
  | exc c' ds z' =>
    rw [c] at q
    obtain ⟨a', e1, r'⟩ := q
    rw [e1]
    exact ⟨a', rfl, r'⟩
  | stuck => exact trivial
theorem x_slN {m : α → M} {s : X Z α} {fe : EV} {fl fh : EO} (h : G R m s fun a => (fe [] a).bind fun d a1 => (fl [] a1).bind fun lo a2 => (fh [] a2).bind fun hi => osm fun _ => dSl d lo hi) : G R m s (slN fe fl fh []) := h
theorem cutG_map (e : α → β) (xs : List α) (lo hi : Option Int) : cutG (xs.map e) lo hi = (cutG xs lo hi).map e := by
  unfold cutG
  rw [List.length_map, ← List.map_drop, ← List.map_take]
theorem f_slL {xs : List α} {lo hi : Option Int} : G R (lm (vm e)) (ret (cutG xs lo hi)) (osm fun _ => dSl (eL e xs) lo hi) := f_sm (nw := .lst (cutG (xs.map e) lo hi)) (fun _ => rfl) (by
  rw [cutG_map]
  exact w_listM)
theorem w_all {xs : List Bool} (a : Sto) : un1 gAll a [eL D.bl xs] = some (.val (.bl (xs.all id))) := by
  show (blsD (xs.map D.bl)).map _ = _
  rw [blsD_map]
  rfl
theorem w_any {xs : List Bool} (a : Sto) : un1 gAny a [eL D.bl xs] = some (.val (.bl (xs.any id))) := by
  show (blsD (xs.map D.bl)).map _ = _
  rw [blsD_map]
  rfl
theorem x_bm1 {s : X Z α} {g : Str → List D → Option D} {fo : EV} {f : EA} {t : Str} (ho : PV fo (.str t)) (h : AK R e s f fun ds => ooo (g t ds)) : G R e s (bm1 g fo f []) := g_mono (o := fun a => (f [] a).bind fun ds => ooo (g t ds)) (fun a => by
  show (fo [] a).bind _ = _
  rw [ho a, bind_ok]
  rfl) h
theorem x_bmV {s : X Z α} {g : Str → List D → Option New} {fo : EV} {f : EA} {t : Str} (ho : PV fo (.str t)) (h : AK R e s f fun ds => onw (g t ds)) : G R e s (bmV g fo f []) := g_mono (o := fun a => (f [] a).bind fun ds => onw (g t ds)) (fun a => by
  show (fo [] a).bind _ = _
  rw [ho a, bind_ok]
  rfl) h
theorem x_bmM {m : α → M} {s : X Z α} {g : Str → List D → Option New} {fo : EV} {f : EA} {t : Str} (ho : PV fo (.str t)) (h : AK R m s f fun ds => osm fun _ => g t ds) : G R m s (bmM g fo f []) := g_mono (o := fun a => (f [] a).bind fun ds => osm fun _ => g t ds) (fun a => by
  show (fo [] a).bind _ = _
  rw [ho a, bind_ok]
  rfl) h
class NN (e : α → D) : Prop where
  nn : ∀ x, isNonD (e x) = false
instance : NN D.int := ⟨fun _ => rfl⟩
instance : NN D.bl := ⟨fun _ => rfl⟩
instance : NN D.str := ⟨fun _ => rfl⟩
instance : NN (eL e) := ⟨fun _ => rfl⟩
instance : NN (eT e) := ⟨fun _ => rfl⟩
instance {f : β → D} : NN (eP e f) := ⟨fun _ => rfl⟩
instance {f : β → D} {g : γ → D} : NN (eP3 e f g) := ⟨fun _ => rfl⟩
theorem w_is [NN e] (x : Option α) : dIs (eO e x) .non = some (.bl x.isNone) := by
  show some (D.bl (isNonD (eO e x))) = _
  cases x with
  | none => rfl
  | some x =>
    show some (D.bl (isNonD (e x))) = _
    rw [NN.nn]
    rfl
theorem w_isnt [NN e] (x : Option α) : dIsNot (eO e x) .non = some (.bl x.isSome) := by
  show some (D.bl (!isNonD (eO e x))) = _
  cases x with
  | none => rfl
  | some x =>
    show some (D.bl (!isNonD (e x))) = _
    rw [NN.nn]
    rfl
def theX (x : Option α) : X Z α := optX x
@[simp] theorem theX_some (x : α) : (theX (some x) : X Z α) = ret x := rfl
theorem g_the {f : EV} {x : Option α} (h : PV f (eO e x)) : G R e (theX x) (f []) := by
  cases x with
  | none => exact g_stk
  | some x => exact g_pv h rfl
class Flat (e : α → D) [DecidableEq α] : Prop where
  fl : ∀ x, flatD (e x) = true
  eq : ∀ x y, eqvD (e y) (e x) = decide (y = x)
  tx : ∀ x l, inB (e x) (.lst l) = inG (e x) (.lst l) ∧ inB (e x) (.tup l) = inG (e x) (.tup l)
instance : Flat D.int := ⟨fun _ => rfl, fun x y => by show (y == x) = _; exact Bool.beq_eq_decide_eq _ _, fun _ _ => ⟨rfl, rfl⟩⟩
instance : Flat D.str := ⟨fun _ => rfl, fun x y => by show (y == x) = _; exact Bool.beq_eq_decide_eq _ _, fun _ _ => ⟨rfl, rfl⟩⟩
class Deep (e : α → D) [DecidableEq α] where
  ok : α → Bool
  dd : ∀ x, ok x = true → dd 7 (e x) = true
  eq : ∀ x y, ok x = true → ok y = true → eqvD (e y) (e x) = decide (y = x)
instance : Deep D.int := ⟨fun _ => true, fun _ _ => rfl, fun x y _ _ => by show (y == x) = _; exact Bool.beq_eq_decide_eq _ _⟩
end
theorem loe_nil {m : M} (h : some m ∈ ([] : SlM)) : Lo (kdM m) := nomatch h
theorem loe_none {δ : SlM} (h : ∀ m, some m ∈ δ → Lo (kdM m)) (m : M) (k : some m ∈ (none :: δ)) : Lo (kdM m) := by
  rcases List.mem_cons.mp k with k | k
  · cases k
  · exact h m k
theorem loe_val {d : D} {δ : SlM} (h : ∀ m, some m ∈ δ → Lo (kdM m)) (m : M) (k : some m ∈ (some (.val d) :: δ)) : Lo (kdM m) := by
  rcases List.mem_cons.mp k with k | k
  · rw [Option.some.inj k]
    exact lo_val d
  · exact h m k
theorem loe_lst {α : Type} {n : α → M} [LoM n] {xs : List α} {l : List M} (e : xs.map n = l) {δ : SlM} (h : ∀ m, some m ∈ δ → Lo (kdM m)) (m : M) (k : some m ∈ (some (.lst l) :: δ)) : Lo (kdM m) := by
  rcases List.mem_cons.mp k with k | k
  · rw [Option.some.inj k, ← e]
    exact LoM.lo (m := lm n) xs
  · exact h m k
theorem lo_env {I : List Nat} {δ : SlM} (h : ∀ m, some m ∈ δ → Lo (kdM m)) : Lo (kin I 0 δ) := lo_kin I δ 0 h
section
variable {Z : Type} {R : Rel Z}
def excI (i : Nat) (ds : List D) : X Z Int := match ds[i]? with
  | some (.int v) => ret v
  | _ => stk
def excS (i : Nat) (ds : List D) : X Z Str := match ds[i]? with
  | some (.str v) => ret v
  | _ => stk
@[simp] theorem excI_0 (v : Int) (ds : List D) : (excI 0 (.int v :: ds) : X Z Int) = ret v := rfl
@[simp] theorem excI_1 (d : D) (v : Int) (ds : List D) : (excI 1 (d :: .int v :: ds) : X Z Int) = ret v := rfl
@[simp] theorem excS_0 (v : Str) (ds : List D) : (excS 0 (.str v :: ds) : X Z Str) = ret v := rfl
@[simp] theorem excS_1 (d : D) (v : Str) (ds : List D) : (excS 1 (d :: .str v :: ds) : X Z Str) = ret v := rfl
end
def drawT (ns : List Int) (lim : Int) : X Sto Int := fun z => if 0 < lim ∧ lim < 18446744073709551616 then (match DL.f_draw [.scr ns, .loc 0, .int lim] z with
  | .ok (.val (.int r)) z' => .ok r z'
  | _ => .stuck) else .stuck
theorem ok_draw (ns : List Int) (lim : Int) : G Rq (vm D.int) (drawT ns lim) (DL.f_draw [eScr ns, .loc 0, .int lim]) := .mk fun z a r => by
  obtain ⟨rfl, s4⟩ := r
  unfold drawT
  by_cases c : 0 < lim ∧ lim < 18446744073709551616
  · rw [if_pos c]
    obtain ⟨v, a', h0, h1, e, s5⟩ := draw4 ns c.1 c.2 s4
    rw [e]
    exact ⟨a', e, rfl, s5⟩
  · rw [if_neg c]
    exact trivial
theorem draw_spec (ns : List Int) {lim : Int} (h : 0 < lim) (h2 : lim < 18446744073709551616) {z : Sto} (hz : St4 z) : ∃ r z', drawT ns lim z = .ok r z' ∧ 0 ≤ r ∧ r < lim ∧ St4 z' := by
  obtain ⟨v, a', h0, h1, e, s5⟩ := draw4 ns h h2 hz
  refine ⟨v, a', ?_, h0, h1, s5⟩
  unfold drawT
  rw [if_pos ⟨h, h2⟩, e]
end TL
namespace TL
open PySem PySem.Spec PyProof.Rows L2 DL
section
variable {Z α β γ τ : Type} {R : Rel Z} {e : α → D} {f : β → D}
theorem s_VPl {ν κ ρ νD κD : Type} {N : ν → Rel Z} {eN : ν → νD} {K : κ → Rel Z} {eK : κ → κD} {Q E : Rel Z} {eR : ρ → M} {k : α → Y Z ν κ ρ} {t : D → Fw νD κD} {v : α} {f : EV} (hf : PV f (e v)) (h : ∀ x, GS R N eN K eK Q eR E (k x) (t (e x))) : GS R N eN K eK Q eR E (k v) (thn (seV f) t) := s_VP hf (h v)
theorem w_eqI (i j : Int) : dEq (.int i) (.int j) = some (.bl (decide (i = j))) := congrArg (fun b => some (D.bl b)) (Bool.beq_eq_decide_eq i j)
theorem w_neB (i j : Bool) : dNe (.bl i) (.bl j) = some (.bl (!decide (i = j))) := congrArg (fun b => some (D.bl !b)) (Bool.beq_eq_decide_eq i j)
def sumL (x : α ⊕ β) (k : α → X Z γ) : X Z γ := match x with
  | .inl x => k x
  | .inr _ => stk
def sumR (x : α ⊕ β) (k : β → X Z γ) : X Z γ := match x with
  | .inr x => k x
  | .inl _ => stk
@[simp] theorem sumL_inl (x : α) (k : α → X Z γ) : sumL (.inl x : α ⊕ β) k = k x := rfl
@[simp] theorem sumR_inr (x : β) (k : β → X Z γ) : sumR (.inr x : α ⊕ β) k = k x := rfl
theorem cls_c {k : Kd} {d : D} {ds : List D} (h : cl k d = true) (h2 : cls k ds = true) : cls k (d :: ds) = true := by
  show (cl k d && cls k ds) = true
  rw [h, h2]
  rfl
theorem clMs_c {k : Kd} {d : M} {ds : List M} (h : clM k d = true) (h2 : clMs k ds = true) : clMs k (d :: ds) = true := by
  show (clM k d && clMs k ds) = true
  rw [h, h2]
  rfl
theorem cl_obj {k : Kd} (h : Lo k) {c : Nat} {ns : List Str} {ds : List D} (h2 : cls k ds = true) : cl k (.obj c ns ds) = true := by
  show (!k.o && cls k ds) = true
  rw [h.2, h2]
  rfl
end
class Eqv {α : Type} [DecidableEq α] (e : α → D) : Prop where
  eq : ∀ x y, eqvD (e y) (e x) = decide (y = x)
instance : Eqv D.int := ⟨fun x y => Flat.eq x y⟩
instance : Eqv D.str := ⟨fun x y => Flat.eq x y⟩
instance : Eqv D.bl := ⟨fun x y => by show (y == x) = _; exact Bool.beq_eq_decide_eq _ _⟩
theorem eqvDs_map {α : Type} [DecidableEq α] {e : α → D} [Eqv e] : ∀ l m : List α, eqvDs (l.map e) (m.map e) = decide (l = m)
  | [], [] => rfl
  | [], y :: m => rfl
  | x :: l, [] => rfl
  | x :: l, y :: m => by
    show (eqvD (e x) (e y) && eqvDs (l.map e) (m.map e)) = _
    rw [Eqv.eq, eqvDs_map l m]
    by_cases h : x = y <;> by_cases k : l = m <;> simp [h, k]
instance {α : Type} [DecidableEq α] {e : α → D} [Eqv e] : Eqv (eT e) := ⟨fun x y => eqvDs_map y x⟩
instance {α : Type} [DecidableEq α] {e : α → D} [Eqv e] : Eqv (eL e) := ⟨fun x y => eqvDs_map y x⟩
instance {α β : Type} [DecidableEq α] [DecidableEq β] {e : α → D} {f : β → D} [Eqv e] [Eqv f] : Eqv (eP e f) := ⟨fun x y => by
  show (eqvD (e y.1) (e x.1) && (eqvD (f y.2) (f x.2) && true)) = _
  rw [Eqv.eq, Eqv.eq, Bool.and_true]
  obtain ⟨x1, x2⟩ := x
  obtain ⟨y1, y2⟩ := y
  by_cases h : y1 = x1 <;> by_cases k : y2 = x2 <;> simp [h, k]⟩
class NFlat {α : Type} (e : α → D) : Prop where
  nf : ∀ x, flatD (e x) = false ∧ txt (e x) = none
instance {α : Type} {e : α → D} : NFlat (eT e) := ⟨fun _ => ⟨rfl, rfl⟩⟩
instance {α : Type} {e : α → D} : NFlat (eL e) := ⟨fun _ => ⟨rfl, rfl⟩⟩
instance {α β : Type} {e : α → D} {f : β → D} : NFlat (eP e f) := ⟨fun _ => ⟨rfl, rfl⟩⟩
class Dec {α : Type} (e : α → D) where
  dec : D → Option α
  to : ∀ x, dec (e x) = some x
  of : ∀ d x, dec d = some x → d = e x
instance : Dec D.int := ⟨fun d => match d with | .int i => some i | _ => none, fun _ => rfl, fun d x h => by cases d <;> first | (cases h; rfl) | cases h⟩
instance : Dec D.str := ⟨fun d => match d with | .str i => some i | _ => none, fun _ => rfl, fun d x h => by cases d <;> first | (cases h; rfl) | cases h⟩
instance : Dec D.bl := ⟨fun d => match d with | .bl i => some i | _ => none, fun _ => rfl, fun d x h => by cases d <;> first | (cases h; rfl) | cases h⟩
def decL {α : Type} (f : D → Option α) : List D → Option (List α)
  | [] => some []
  | d :: ds => match f d, decL f ds with
    | some x, some xs => some (x :: xs)
    | _, _ => none
theorem decL_to {α : Type} {e : α → D} [Dec e] : ∀ xs : List α, decL (Dec.dec e) (xs.map e) = some xs
  | [] => rfl
  | x :: xs => by
    show (match Dec.dec e (e x), decL (Dec.dec e) (xs.map e) with | some x, some xs => some (x :: xs) | _, _ => none) = _
    rw [Dec.to, decL_to xs]
theorem decL_of {α : Type} {e : α → D} [Dec e] : ∀ (ds : List D) (xs : List α), decL (Dec.dec e) ds = some xs → ds = xs.map e
  | [], xs, h => by cases h; rfl
  | d :: ds, xs, h => by
    have h' : (match Dec.dec e d, decL (Dec.dec e) ds with | some x, some xs => some (x :: xs) | _, _ => none) = some xs := h
    cases c : Dec.dec e d with
    | none =>
      rw [c] at h'
      cases h'
    | some x =>
      cases k : decL (Dec.dec e) ds with
      | none =>
        rw [c, k] at h'
        cases h'
      | some ys =>
        rw [c, k] at h'
        cases h'
        rw [Dec.of d x c, decL_of ds ys k]
        rfl
instance {α : Type} {e : α → D} [Dec e] : Dec (eT e) := ⟨fun d => match d with | .tup l => decL (Dec.dec e) l | _ => none, fun xs => decL_to xs, fun d x h => by
  cases d with
  | tup l => exact congrArg D.tup (decL_of l x h)
  | _ => cases h⟩
instance {α : Type} {e : α → D} [Dec e] : Dec (eL e) := ⟨fun d => match d with | .lst l => decL (Dec.dec e) l | _ => none, fun xs => decL_to xs, fun d x h => by
  cases d with
  | lst l => exact congrArg D.lst (decL_of l x h)
  | _ => cases h⟩
def excA {Z α : Type} (e : α → D) [Dec e] (i : Nat) (ds : List D) : X Z α := optX ((ds[i]?).bind (Dec.dec e))
theorem excA_ok {Z α : Type} {e : α → D} [Dec e] {i : Nat} {ds : List D} {x : α} (h : ds[i]? = some (e x)) : (excA e i ds : X Z α) = ret x := by
  unfold excA
  rw [h, Option.bind_some, Dec.to]
  rfl
@[simp] theorem excA_0 {Z α : Type} {e : α → D} [Dec e] {ds : List D} (x : α) : (excA e 0 (e x :: ds) : X Z α) = ret x := excA_ok rfl
@[simp] theorem excA_1 {Z α : Type} {e : α → D} [Dec e] {d : D} {ds : List D} (x : α) : (excA e 1 (d :: e x :: ds) : X Z α) = ret x := excA_ok rfl
class Sm {α : Type} (e : α → D) : Prop where
  pl : ∀ x, pl (e x) = true
  sim : ∀ x y, simD (e x) (e y) = true → x = y
section
variable {α β γ : Type} {e : α → D} {f : β → D} {g : γ → D}
instance : Sm D.int := ⟨fun _ => rfl, fun x y h => eq_of_beq h⟩
instance : Sm D.str := ⟨fun _ => rfl, fun x y h => eq_of_beq h⟩
instance : Sm D.bl := ⟨fun _ => rfl, fun x y h => eq_of_beq h⟩
theorem pls_m [Sm e] : ∀ l : List α, pls (l.map e) = true
  | [] => rfl
  | x :: l => by
    show (DL.pl (e x) && pls (l.map e)) = true
    rw [Sm.pl, pls_m l]
    rfl
theorem sims_m [Sm e] : ∀ l m : List α, simDs (l.map e) (m.map e) = true → l = m
  | [], [], _ => rfl
  | [], y :: m, h => by cases h
  | x :: l, [], h => by cases h
  | x :: l, y :: m, h => by
    obtain ⟨h1, h2⟩ := Bool.and_eq_true_iff.mp (show (simD (e x) (e y) && simDs (l.map e) (m.map e)) = true from h)
    rw [Sm.sim x y h1, sims_m l m h2]
instance [Sm e] : Sm (eL e) := ⟨fun l => pls_m l, fun l m h => sims_m l m h⟩
instance [Sm e] : Sm (eT e) := ⟨fun l => pls_m l, fun l m h => sims_m l m h⟩
instance [Sm e] [Sm f] : Sm (eP e f) := ⟨fun p => by
  show (DL.pl (e p.1) && (DL.pl (f p.2) && true)) = true
  rw [Sm.pl, Sm.pl]
  rfl, fun p q h => by
  obtain ⟨h1, h2⟩ := Bool.and_eq_true_iff.mp (show (simD (e p.1) (e q.1) && (simD (f p.2) (f q.2) && true)) = true from h)
  rw [Bool.and_true] at h2
  exact Prod.ext (Sm.sim _ _ h1) (Sm.sim _ _ h2)⟩
theorem sim_non {d : D} (h : simD .non d = true ∨ simD d .non = true) : isNonD d = true := by
  cases d <;> first | rfl | (rcases h with h | h <;> cases h)
instance [Sm e] [NN e] : Sm (eO e) := ⟨fun x => by cases x with | none => rfl | some x => exact Sm.pl x, fun x y h => by
  cases x with
  | none =>
    cases y with
    | none => rfl
    | some y =>
      have z : isNonD (e y) = true := sim_non (.inl h)
      rw [NN.nn] at z
      cases z
  | some x =>
    cases y with
    | none =>
      have z : isNonD (e x) = true := sim_non (.inr h)
      rw [NN.nn] at z
      cases z
    | some y => rw [Sm.sim x y h]⟩
theorem pls_c {d : D} {ds : List D} (h : DL.pl d = true) (h2 : pls ds = true) : pls (d :: ds) = true := by
  show (DL.pl d && pls ds) = true
  rw [h, h2]
  rfl
theorem sims_c {d d' : D} {ds ds' : List D} (h : simDs (d :: ds) (d' :: ds') = true) : simD d d' = true ∧ simDs ds ds' = true := Bool.and_eq_true_iff.mp h
theorem sm_obj {c : Nat} {ns : List Str} {fs : α → List D} (hl : ∀ x, ns.length = (fs x).length) (hp : ∀ x, pls (fs x) = true) (hs : ∀ x y, simDs (fs x) (fs y) = true → x = y) : Sm fun x => D.obj c ns (fs x) := ⟨fun x => by
  show (decide (ns.length = (fs x).length) && pls (fs x)) = true
  rw [hp, decide_eq_true (hl x)]
  rfl, fun x y h => hs x y (Bool.and_eq_true_iff.mp (show ((ns == ns) && simDs (fs x) (fs y)) = true from h)).2⟩
end
def sum2 {α β α' β' Z γ : Type} (x : α ⊕ β) (y : α' ⊕ β') (k : α → α' → X Z γ) (l : β → β' → X Z γ) : X Z γ := match x, y with
  | .inl x, .inl y => k x y
  | .inr x, .inr y => l x y
  | _, _ => stk
@[simp] theorem sum2_l {α β α' β' Z γ : Type} (x : α) (y : α') (k : α → α' → X Z γ) (l : β → β' → X Z γ) : sum2 (.inl x) (.inl y) k l = k x y := rfl
@[simp] theorem sum2_r {α β α' β' Z γ : Type} (x : β) (y : β') (k : α → α' → X Z γ) (l : β → β' → X Z γ) : sum2 (.inr x) (.inr y) k l = l x y := rfl
theorem law_T {b : List Int → Y Sto Unit Empty Bool} {t : D → Fw Unit Empty} {F : FM} (hto : ∀ ns : List Int, (∀ p q : Int, ∃ a, t (.scr ns) [.nums [p, q, 1, 0]] = .rt (.val (.bl true)) a) → F [.scr ns] [] = .ok (.val (.bl true)) [])
    (h : ∀ ns, GS Rq (fun _ => Rq) (fun _ => ()) (fun _ => Rq) (fun k : Empty => k) Rq (vm D.bl) Rq (b ns) (t (.scr ns))) (hb : ∀ (ns : List Int) (z : Sto), St4 z → ∃ z', b ns z = .rt true z') (ns : List Int) : F [.scr ns] [] = .ok (.val (.bl true)) [] := hto ns fun p q => by
  obtain ⟨z', e⟩ := hb ns [.nums [p, q, 1, 0]] (St4.mk _ _ _ _)
  have k := h ns [.nums [p, q, 1, 0]] [.nums [p, q, 1, 0]] ⟨rfl, St4.mk _ _ _ _⟩
  rw [e] at k
  obtain ⟨a, e1, _⟩ := k
  exact ⟨a, e1⟩
end TL
namespace TL
open PySem PySem.Spec PyProof.Rows L2 DL
section
variable {Z ν ν' κ ρ α β γ τ κ' νD νD' κD βD : Type} {R : Rel Z}
variable {N : ν → Rel Z} {eN : ν → νD} {K : κ → Rel Z} {eK : κ → κD} {Q E : Rel Z} {eR : ρ → M}
end
section
variable {Z α β γ τ : Type} {R : Rel Z}
def sumE (x : α ⊕ β) (k : α → X Z γ) (l : β → X Z γ) : X Z γ := match x with
  | .inl x => k x
  | .inr y => l y
@[simp] theorem sumE_inl (x : α) (k : α → X Z γ) (l : β → X Z γ) : sumE (.inl x) k l = k x := rfl
@[simp] theorem sumE_inr (y : β) (k : α → X Z γ) (l : β → X Z γ) : sumE (.inr y) k l = l y := rfl
def isB (b c : Bool) : α ⊕ β → Bool
  | .inl _ => b
  | .inr _ => c
@[simp] theorem isB_inl (b c : Bool) (x : α) : isB b c (.inl x : α ⊕ β) = b := rfl
@[simp] theorem isB_inr (b c : Bool) (x : β) : isB b c (.inr x : α ⊕ β) = c := rfl
def dis2 (p : γ × (α ⊕ β)) : (γ × α) ⊕ (γ × β) := match p.2 with
  | .inl x => .inl (p.1, x)
  | .inr y => .inr (p.1, y)
@[simp] theorem dis2_inl (g : γ) (x : α) : dis2 (g, (.inl x : α ⊕ β)) = .inl (g, x) := rfl
@[simp] theorem dis2_inr (g : γ) (x : β) : dis2 (g, (.inr x : α ⊕ β)) = .inr (g, x) := rfl
instance : Dec (eSum D.int D.bl) := ⟨fun d => match d with
  | .int i => some (.inl i)
  | .bl b => some (.inr b)
  | _ => none, fun x => by cases x <;> rfl, fun d x h => by cases d <;> first | (cases h; rfl) | cases h⟩
end
end TL
namespace TL
open PySem PySem.Spec PyProof.Rows L2 DL
section
variable {Z : Type} {α β γ τ : Type} {R : Rel Z}
def dis1 (p : (α ⊕ β) × γ) : (α × γ) ⊕ (β × γ) := match p.1 with
  | .inl x => .inl (x, p.2)
  | .inr y => .inr (y, p.2)
@[simp] theorem dis1_inl (g : γ) (x : α) : dis1 ((.inl x : α ⊕ β), g) = .inl (x, g) := rfl
@[simp] theorem dis1_inr (g : γ) (x : β) : dis1 ((.inr x : α ⊕ β), g) = .inr (x, g) := rfl
theorem eqT_trip {α β γ : Type} [DecidableEq α] [DecidableEq β] [DecidableEq γ] {T : List (Nat × FM)} {a : Sto} {n : Nat} {e : α → D} {f : β → D} {g : γ → D} (h : EqT T a n (fun _ => True) e) (k : EqT T a n (fun _ => True) f) (l : EqT T a n (fun _ => True) g) : EqT T a (n + 1) (fun _ => True) (eP3 e f g) :=
  have hpl : ∀ p : α × β × γ, DL.pl (eP3 e f g p) = true := fun p => by
    show (DL.pl (e p.1) && (DL.pl (f p.2.1) && (DL.pl (g p.2.2) && true))) = true
    rw [h.pl _ trivial, k.pl _ trivial, l.pl _ trivial]
    rfl
  have hsim : ∀ p q : α × β × γ, simD (eP3 e f g p) (eP3 e f g q) = true → p = q := fun p q s => by
    have s' : (simD (e p.1) (e q.1) && (simD (f p.2.1) (f q.2.1) && (simD (g p.2.2) (g q.2.2) && true))) = true := s
    rw [Bool.and_eq_true, Bool.and_eq_true, Bool.and_eq_true] at s'
    obtain ⟨s1, s2, s3, _⟩ := s'
    exact Prod.ext (h.sim _ _ trivial trivial s1) (Prod.ext (k.sim _ _ trivial trivial s2) (l.sim _ _ trivial trivial s3))
  { eq := fun p q _ _ => by
      show ((eqZ (eqO T a n) [e p.1, f p.2.1, g p.2.2] [e q.1, f q.2.1, g q.2.2]).map fun r => r && true).bind (chk _ _) = _
      have z : eqZ (eqO T a n) [e p.1, f p.2.1, g p.2.2] [e q.1, f q.2.1, g q.2.2] = some (decide (p = q)) := by
        simp only [eqZ]
        rw [h.eq _ _ trivial trivial, k.eq _ _ trivial trivial, l.eq _ _ trivial trivial]
        obtain ⟨p1, p2, p3⟩ := p
        obtain ⟨q1, q2, q3⟩ := q
        by_cases c1 : p1 = q1 <;> by_cases c2 : p2 = q2 <;> by_cases c3 : p3 = q3 <;> simp [c1, c2, c3]
      rw [z]
      show chk _ _ (decide (p = q) && true) = _
      rw [Bool.and_true]
      exact chk_ok (hpl p) (hpl q) fun s => decide_eq_true (hsim p q s)
    pl := fun p _ => hpl p
    sim := fun p q _ _ s => hsim p q s }
instance {α β γ : Type} [DecidableEq α] [DecidableEq β] [DecidableEq γ] {T : List (Nat × FM)} {n : Nat} {e : α → D} {f : β → D} {g : γ → D} [QE T n e] [QE T n f] [QE T n g] : QE T (n + 1) (eP3 e f g) := ⟨fun a => eqT_trip (QE.eq (e := e) a) (QE.eq (e := f) a) (QE.eq (e := g) a)⟩
def opt4 (p q : Option α × Option β) (s : α × β → α × β → X Z Bool) : X Z Bool := match p, q with
  | (some a, some b), (some c, some d) => s (a, b) (c, d)
  | _, _ => stk
@[simp] theorem opt4_some (a c : α) (b d : β) (s : α × β → α × β → X Z Bool) : opt4 (some a, some b) (some c, some d) s = s (a, b) (c, d) := rfl
section
variable {β' γ' : Type} {gd : D → Option β'} {p : β' → ET} {it1 : β' → EI} {gd1 : D → Option γ'} {p1 : β' → γ' → ET} {f : β' → γ' → EM} {e : α → D} {e1 : γ → D} {b : α → β'} {b1 : γ → γ'} {m : β → M}
end
end
end TL
namespace TL
open PySem PySem.Spec PyProof.Rows L2 DL
section
variable {Z α β τ ν κ ρ νD κD : Type} {R : Rel Z}
theorem p_tTr {f : EV} {d : D} {b : Bool} (h : PV f d) (e : gTru d = some b) : PT (tTr f) b := fun a => by
  show (f [] a).opt gTru = _
  rw [h a, opt_ok, e]
theorem w_truL {e : α → D} (xs : List α) : gTru (eL e xs) = some (!xs.isEmpty) := by cases xs <;> rfl
def chX (p q : Int → Int → Bool) (a b : X Z Int) (c : X Z Int) : X Z Bool := bnd a fun x => bnd b fun y => if p x y = true then bnd c fun z => ret (q y z) else ret false
theorem x_vCh {g g' : D → D → Option D} {p q : Int → Int → Bool} {f1 f2 f3 : EV} {s1 s2 s3 : X Z Int} (hp : ∀ x y, g (.int x) (.int y) = some (.bl (p x y))) (hq : ∀ x y, g' (.int x) (.int y) = some (.bl (q x y))) (h1 : G R D.int s1 (f1 [])) (h2 : G R D.int s2 (f2 [])) (h3 : G R D.int s3 (f3 [])) :
    G R D.bl (chX p q s1 s2 s3) (vCh g g' f1 f2 f3 []) := gX h1 fun x => gX h2 fun y => by
  rw [hp x y]
  cases p x y with
  | true =>
    refine .mk fun z a r => ?_
    have w := h3 z a r
    show Rl R D.bl ((s3 z).bnd fun u => ret (q y u)) ((f3 [] a).opt (g' (.int y)))
    cases c : s3 z with
    | ok u z' =>
      rw [c] at w
      obtain ⟨a', e1, r'⟩ := w
      rw [e1, opt_ok, hq]
      exact ⟨a', rfl, r'⟩
    | exc c' ds z' =>
      rw [c] at w
      obtain ⟨a', e1, r', n⟩ := w
      rw [e1]
      exact ⟨a', rfl, r', n⟩
    | stuck => exact trivial
  | false => exact g_ret rfl
class Dd (n : Nat) (e : α → D) : Prop where
  dd : ∀ x, DL.dd n (e x) = true
instance {n : Nat} : Dd n D.int := ⟨fun _ => by cases n <;> rfl⟩
instance {n : Nat} : Dd n D.bl := ⟨fun _ => by cases n <;> rfl⟩
instance {n : Nat} : Dd n eN := ⟨fun _ => by cases n <;> rfl⟩
instance {n : Nat} {e : α → D} [Dd n e] : Dd n (eO e) := ⟨fun x => by
  cases x with
  | none => cases n <;> rfl
  | some x => exact Dd.dd x⟩
theorem dd_all {n : Nat} {e : α → D} [Dd n e] (xs : List α) : (xs.map e).all (DL.dd n) = true := by
  rw [List.all_eq_true]
  intro d hd
  obtain ⟨x, _, rfl⟩ := List.mem_map.mp hd
  exact Dd.dd x
instance {n : Nat} {e : α → D} [Dd n e] : Dd (n + 1) (eL e) := ⟨fun xs => dd_all xs⟩
instance {n : Nat} {e : α → D} [Dd n e] : Dd (n + 1) (eT e) := ⟨fun xs => dd_all xs⟩
class NNd (e : α → D) : Prop where
  l : ∀ x, eqvD .non (e x) = false
  r : ∀ x, eqvD (e x) .non = false
instance {e : α → D} : NNd (eL e) := ⟨fun _ => rfl, fun _ => rfl⟩
instance {e : α → D} : NNd (eT e) := ⟨fun _ => rfl, fun _ => rfl⟩
instance : NNd D.int := ⟨fun _ => rfl, fun _ => rfl⟩
instance [DecidableEq α] {e : α → D} [Eqv e] [NNd e] : Eqv (eO e) := ⟨fun x y => by
  cases x with
  | none =>
    cases y with
    | none => rfl
    | some y => exact NNd.r y
  | some x =>
    cases y with
    | none => exact NNd.l x
    | some y =>
      show eqvD (e y) (e x) = _
      rw [Eqv.eq]
      exact decide_eq_decide.mpr ⟨fun h => by rw [h], fun h => Option.some.inj h⟩⟩
theorem w_eqD [DecidableEq α] {e : α → D} [Eqv e] [Dd 8 e] [NFlat e] (x y : α) (hs : scE (e x) (e y) = none) : dEq (e x) (e y) = some (.bl (decide (x = y))) := by
  unfold dEq dEqB
  rw [hs]
  dsimp only
  rw [if_pos ⟨Dd.dd x, Dd.dd y⟩, Eqv.eq]
  rfl
theorem w_neD [DecidableEq α] {e : α → D} [Eqv e] [Dd 8 e] [NFlat e] (x y : α) (hs : scE (e x) (e y) = none) : dNe (e x) (e y) = some (.bl (!decide (x = y))) := by
  unfold dNe dEqB
  rw [hs]
  dsimp only
  rw [if_pos ⟨Dd.dd x, Dd.dd y⟩, Eqv.eq]
  rfl
class Ls (e : α → D) : Prop where
  l : ∀ x d, scE (e x) d = none
  r : ∀ x d, scE d (e x) = none
instance {e : α → D} : Ls (eL e) := ⟨fun _ d => by cases d <;> rfl, fun _ d => by cases d <;> rfl⟩
instance {e : α → D} : Ls (eT e) := ⟨fun _ d => by cases d <;> rfl, fun _ d => by cases d <;> rfl⟩
theorem b_eqO [DecidableEq α] {e : α → D} [Eqv e] [NNd e] [Dd 8 e] [Ls e] (x y : Option α) : dEqB (eO e x) (eO e y) = some (decide (x = y)) := by
  by_cases c : x = none ∧ y = none
  · obtain ⟨rfl, rfl⟩ := c
    rfl
  · have hs : scE (eO e x) (eO e y) = none := by
      cases x with
      | some x => exact Ls.l x _
      | none =>
        cases y with
        | none => exact absurd ⟨rfl, rfl⟩ c
        | some y => exact Ls.r y _
    unfold dEqB
    rw [hs]
    dsimp only
    rw [if_pos ⟨Dd.dd (e := eO e) x, Dd.dd (e := eO e) y⟩, Eqv.eq]
theorem w_eqDO [DecidableEq α] {e : α → D} [Eqv e] [NNd e] [Dd 8 e] [Ls e] (x y : Option α) : dEq (eO e x) (eO e y) = some (.bl (decide (x = y))) := by
  unfold dEq
  rw [b_eqO]
  rfl
theorem w_neDO [DecidableEq α] {e : α → D} [Eqv e] [NNd e] [Dd 8 e] [Ls e] (x y : Option α) : dNe (eO e x) (eO e y) = some (.bl (!decide (x = y))) := by
  unfold dNe
  rw [b_eqO]
  rfl
theorem allB_map : ∀ bs : List Bool, allB (bs.map D.bl) = some bs
  | [] => rfl
  | b :: bs => by
    show (allB (bs.map D.bl)).map _ = _
    rw [allB_map bs]
    rfl
theorem w_cnt {k : Bool} (bs : List Bool) : gCnt k (eL D.bl bs) = some (.int ((bs.count k : Nat) : Int)) := by
  show (allB (bs.map D.bl)).map _ = _
  rw [allB_map]
  rfl
class NpM (m : α → M) : Prop where
  np : ∀ x, npM (m x) = true
theorem npMs_map {m : α → M} [NpM m] : ∀ xs : List α, npMs (xs.map m) = true
  | [] => rfl
  | x :: xs => by
    show (npM (m x) && npMs (xs.map m)) = true
    rw [NpM.np, npMs_map xs]
    rfl
instance {e : α → D} : NpM (vm e) := ⟨fun _ => rfl⟩
instance {m : α → M} [NpM m] : NpM (lm m) := ⟨fun xs => npMs_map xs⟩
instance {m : α → M} {n : β → M} [NpM m] [NpM n] : NpM (om2 m n) := ⟨fun p => by
  show (npM (m p.1) && (npM (n p.2) && true)) = true
  rw [NpM.np, NpM.np]
  rfl⟩
instance {m : α → M} {n : β → M} [NpM m] [NpM n] : NpM (mSum m n) := ⟨fun x => by cases x with | inl x => exact NpM.np x | inr x => exact NpM.np x⟩
variable {N : ν → Rel Z} {eN : ν → νD} {K : κ → Rel Z} {eK : κ → κD} {Q E : Rel Z} {eR : ρ → M} {m : α → M}
theorem loe_wP {α : Type} {q : Nat} {n : α → M} [LoM n] {xs : List α} {l : List M} (e : xs.map n = l) {δ : SlM} (h : ∀ m, some m ∈ δ → Lo (kdM m)) (m : M) (k : some m ∈ (some (wP q l) :: δ)) : Lo (kdM m) := by
  rcases List.mem_cons.mp k with k | k
  · rw [Option.some.inj k, ← e]
    exact LoM.lo (m := lm n) xs
  · exact h m k
def at1T (xss : List (List α)) (k : Int) (f : List α → Option (List α)) : Y Z (List (List α)) κ ρ := match ixN xss.length k with
  | some j => (match xss[j]? with
    | some l => (match f l with
      | some l' => nxT (xss.set j l')
      | none => skT)
    | none => skT)
  | none => skT
def app1 (x : α) (l : List α) : Option (List α) := if l.length < 100000 then some (l ++ [x]) else none
def set1 (i : Int) (x : α) (l : List α) : Option (List α) := (ixN l.length i).map fun j => l.set j x
theorem atI_map1 {xss : List (List α)} {k : Int} : L2.atI (xss.map (lm m)) k = (match ixN xss.length k with
    | some j => (xss[j]?).map (lm m)
    | none => none) := by
  unfold L2.atI
  rw [List.length_map]
  cases ixN xss.length k with
  | none => rfl
  | some j =>
    show (xss.map (lm m))[j]? = _
    rw [List.getElem?_map]
theorem focL_1 {xss : List (List α)} {k : Int} : focL [k] (.lst (xss.map (lm m))) = (match ixN xss.length k with
    | some j => (xss[j]?).map (List.map m)
    | none => none) := by
  show (match L2.atI (xss.map (lm m)) k with
    | some m => focL [] m
    | none => none) = _
  rw [atI_map1]
  cases ixN xss.length k with
  | none => rfl
  | some j =>
    dsimp only
    cases xss[j]? <;> rfl
theorem putL_1 {xss : List (List α)} {k : Int} {j : Nat} {l : List α} {n : List M} (h : ixN xss.length k = some j) (h2 : xss[j]? = some l) : putL [k] n (.lst (xss.map (lm m))) = .lst ((xss.map (lm m)).set j (.lst n)) := by
  unfold putL
  rw [List.length_map, h]
  dsimp only
  rw [List.getElem?_map, h2]
  rfl
theorem s_at1 {xss : List (List α)} {k : Int} {ms : List M} {t : List M → Option (List M)} {f : List α → Option (List α)} (hm : xss.map (lm m) = ms) (ht : ∀ l, t (l.map m) = (f l).map (List.map m)) {a : Sto} {z : Z} (r : R z a) :
    SRl (fun _ => R) (List.map (lm m)) K eK Q eR E ((at1T xss k f : Y Z (List (List α)) κ ρ) z) (match DL.putF ms (jsAt (some []) (some k)) t with
      | some l => .nx l a
      | none => .stuck) := by
  subst hm
  have js : jsAt (some []) (some k) = some [k] := rfl
  rw [js]
  unfold DL.putF at1T
  dsimp only
  rw [focL_1]
  cases c : ixN xss.length k with
  | none => exact trivial
  | some j =>
    dsimp only
    cases c2 : xss[j]? with
    | none => exact trivial
    | some l =>
      dsimp only [Option.map_some]
      rw [ht]
      cases c3 : f l with
      | none => exact trivial
      | some l' =>
        dsimp only [Option.map_some]
        rw [putL_1 c c2]
        exact ⟨a, by rw [List.map_set] <;> rfl, r⟩
def app1T (xss : List (List α)) (k : Int) (s : X Z α) : Y Z (List (List α)) κ ρ := match ixN xss.length k with
    | some j => (match xss[j]? with
      | some _ => sbn s fun x => at1T xss k (app1 x)
      | none => skT)
    | none => skT
theorem s_app1 [GdR R] {kd : Kd} (hk : Lo kd) [ClM m] {xss : List (List α)} {k : Int} {s : X Z α} {f : EM} {ms : List M} (h : G R m s (f [])) (l : Le R E) (hm : xss.map (lm m) = ms) : GS R (fun _ => R) (List.map (lm m)) K eK Q eR E (app1T xss k s) (appPF kd f ms (jsAt (some []) (some k))) := by
  unfold app1T
  have js : jsAt (some []) (some k) = some [k] := rfl
  cases c : ixN xss.length k with
  | none => exact s_sk
  | some j =>
    dsimp only
    cases c2 : xss[j]? with
    | none => exact s_sk
    | some l0 =>
      dsimp only
      refine s_eq (t := fun a => (f [] a).fl fun m' a' => if (clM kd m' && clA kd a') = true ∧ (l0.map m).length < 100000 then .nx (putZ ms (some [k]) (l0.map m ++ [m'])) a' else .stuck) (fun a => ?_) (s_fl h l fun x => .mk fun z a r => ?_)
      · rw [x_appPF, js]
        unfold focZ
        dsimp only
        rw [← hm, focL_1, c]
        dsimp only
        rw [c2]
        rfl
      · unfold at1T
        rw [c]
        dsimp only
        rw [c2]
        dsimp only
        unfold app1
        by_cases c3 : l0.length < 100000
        · rw [if_pos c3, if_pos ⟨by rw [ClM.cl kd x hk, (GdR.gd z a r).lo kd hk]; rfl, by rw [List.length_map]; exact c3⟩]
          refine ⟨a, ?_, r⟩
          unfold putZ
          dsimp only
          rw [← hm, putL_1 c c2]
          dsimp only
          rw [List.map_set]
          show _ = Fl.nx ((xss.map (lm m)).set j (.lst ((l0 ++ [x]).map m))) a
          rw [List.map_append]
          rfl
        · rw [if_neg c3]
          exact trivial
theorem s_set1 [GdR R] {kd : Kd} (hk : Lo kd) [ClM m] {xss : List (List α)} {k i : Int} {s : X Z α} {f : EM} {ms : List M} (h : G R m s (f [])) (l : Le R E) (hm : xss.map (lm m) = ms) : GS R (fun _ => R) (List.map (lm m)) K eK Q eR E (sbn s fun x => at1T xss k (set1 i x)) (setPF kd f ms (jsAt (some []) (some k)) (some i)) := s_fl h l fun x => .mk fun z a r => by
  show SRl _ _ K eK Q eR E _ (if (clM kd (m x) && clA kd a) = true then (match DL.putF ms (jsAt (some []) (some k)) (atK (some i) (m x)) with
    | some l => .nx l a
    | none => .stuck) else .stuck)
  rw [if_pos (by rw [ClM.cl kd x hk, (GdR.gd z a r).lo kd hk]; rfl)]
  refine s_at1 hm (fun l => ?_) r
  unfold atK set1
  dsimp only
  rw [List.length_map]
  cases ixN l.length i with
  | none => rfl
  | some j =>
    dsimp only [Option.map_some]
    rw [List.map_set]
def aug0T (g : Int → Int → Int) (xs : List Int) (k y : Int) : Y Z (List Int) κ ρ := match ixN xs.length k with
  | some j => (match xs[j]? with
    | some x => nxT (xs.set j (g x y))
    | none => skT)
  | none => skT
theorem s_aug0 {g : Int → Int → Int} {xs : List Int} {k y : Int} {ms : List M} (hm : xs.map (vm D.int) = ms) : GS R (fun _ => R) (List.map (vm D.int)) K eK Q eR E (aug0T g xs k y) (augPF Kd.no g (mV (eC (.int y))) ms (some []) (some k)) := .mk fun z a r => by
  subst hm
  show SRl _ _ K eK Q eR E _ (if (clM Kd.no (.val (.int y)) && clA Kd.no a) = true then (match DL.putF (xs.map (vm D.int)) (some []) (atG g (some k) y) with
    | some l => .nx l a
    | none => .stuck) else .stuck)
  rw [if_pos (by rw [clM_no, clA_no]; rfl)]
  unfold aug0T
  show SRl _ _ K eK Q eR E _ (match (match atG g (some k) y (xs.map (vm D.int)) with
    | some l' => some l'
    | none => none) with
    | some l => .nx l a
    | none => .stuck)
  unfold atG
  dsimp only
  rw [List.length_map]
  cases c : ixN xs.length k with
  | none => exact trivial
  | some j =>
    dsimp only
    rw [List.getElem?_map]
    cases c2 : xs[j]? with
    | none => exact trivial
    | some x => exact ⟨a, by rw [List.map_set] <;> rfl, r⟩
def fnTT (s : Y Z (ρ × τ) Empty Empty) : X Z (ρ × τ) := fun z => match s z with
  | .nx r z' => .ok r z'
  | .exc c ds z' => .exc c ds z'
  | _ => .stuck
@[simp] theorem fnTT_nx (r : ρ × τ) : fnTT (nxT r : Y Z (ρ × τ) Empty Empty) = ret r := rfl
theorem fn_TT [NpM eR] {eU : τ → List (List M)} {eTt : τ → List M} (he : ∀ t, (eU t).map M.lst = eTt t) (hn : ∀ t, npMs (eTt t) = true) {s : Y Z (ρ × τ) Empty Empty} {t : Fw (M × List (List M)) Empty} {K : Empty → Rel Z} {eK : Empty → Empty} {eQ : Empty → M} {F : Sto → Out (M × List M)} (h : GS R (fun _ => R) (fun p : ρ × τ => (eR p.1, eU p.2)) K eK R eQ R s t) (hF : ∀ a o, fnOT (t a) = o → o ≠ .stuck → F a = o) :
    G R (fun p : ρ × τ => (eR p.1, eTt p.2)) (fnTT s) F := .mk fun z a r => by
  have q := h z a r
  show Rl R _ (match s z with | .nx r z' => Ot.ok r z' | .exc c ds z' => .exc c ds z' | _ => .stuck) (F a)
  cases e : s z with
  | nx x z' =>
    rw [e] at q
    obtain ⟨a', e1, r'⟩ := q
    refine ⟨a', hF a _ ?_ (fun w => nomatch w), r'⟩
    rw [e1]
    show (if (npM (eR x.1) && npMs ((eU x.2).map M.lst)) = true then Out.ok (eR x.1, (eU x.2).map M.lst) a' else .stuck) = _
    rw [he, NpM.np, hn]
    rfl
  | exc c ds z' =>
    rw [e] at q
    obtain ⟨a', e1, r'⟩ := q
    exact ⟨a', hF a _ (by rw [e1]; rfl) (fun w => nomatch w), r'⟩
  | _ => exact trivial
theorem and_t {a b : Bool} (h : a = true) (k : b = true) : (a && b) = true := by
  rw [h, k]
  rfl
def GK (R : Rel Z) (e : τ → β) (t : X Z τ) (fa : Sto → Out (List M)) (k : List M → Sto → Out β) : Prop := G R e t fun a => match fa a with
  | .ok ms a1 => k ms a1
  | _ => .stuck
theorem gg_nil {e : τ → β} {t : X Z τ} {k : List M → Sto → Out β} (h : G R e t (k [])) : GK R e t dgNil k := h
theorem gg_X {e0 : α → D} {s : X Z α} {e : τ → β} {t : α → X Z τ} {k : List M → Sto → Out β} {f : EV} {g : Sto → Out (List M)} (h : G R e0 s (f [])) (h2 : ∀ x, GK R e (t x) g fun ms => k (.val (e0 x) :: ms)) : GK R e (bnd (clm s) t) (dgCons f g) k := .mk fun z a r => by
  have q := h z a r
  show Rl R e (((match s z with | .ok x z' => .ok x z' | _ => .stuck : Ot Z α)).bnd t) (match (match f [] a with
    | .ok d a1 => (match g a1 with
      | .ok ms a2 => .ok (.val d :: ms) a2
      | _ => .stuck)
    | _ => .stuck : Out (List M)) with
    | .ok ms a1 => k ms a1
    | _ => .stuck)
  cases c : s z with
  | ok x z' =>
    rw [c] at q
    obtain ⟨a', e1, r'⟩ := q
    rw [e1]
    have w := (show G R e (t x) _ from h2 x) z' a' r'
    dsimp only at w ⊢
    cases cg : g a' with
    | ok ms a2 =>
      rw [cg] at w
      exact w
    | exc _ _ _ _ =>
      rw [cg] at w
      exact w
    | stuck =>
      rw [cg] at w
      exact w
  | exc c' ds z' => exact trivial
  | stuck => exact trivial
theorem gg_here {e : τ → β} {t : X Z τ} {k : List M → Sto → Out β} {m0 : M} {g : Sto → Out (List M)} (h2 : GK R e t g fun ms => k (m0 :: ms)) : GK R e t (dgHere m0 g) k := g_mono (fun a => by
  show (match (match g a with
    | .ok ms a2 => .ok (m0 :: ms) a2
    | _ => .stuck : Out (List M)) with
    | .ok ms a1 => k ms a1
    | _ => .stuck) = _
  cases g a <;> rfl) h2
theorem gg_if {e : τ → β} {t : X Z τ} {n : Nat} {ms : List M} {o : Sto → Out β} (h : ms.length = n) (k : G R e t o) : G R e t (fun a1 => if ms.length = n then o a1 else .stuck) := .mk fun z a r => by
  show Rl R e (t z) (if ms.length = n then o a else .stuck)
  rw [if_pos h]
  exact k z a r
theorem x_give {e : τ → M × List M} {t : X Z τ} {n : Nat} {F : FT} {fa : Sto → Out (List M)} (h : GK R e t fa fun ms a1 => if ms.length = n then F ms a1 else .stuck) : G R e t (giveD n F fa) := h
def extT (xs : List α) (s : X Z (List α × τ)) : Y Z (List α × τ) κ ρ := sbn s fun p => if xs.length < 100000 ∧ p.1.length < 100000 then nxT (xs ++ p.1, p.2) else skT
theorem s_ext {τD : Type} {eTt : τ → List M} {eU : τ → τD} {un : List M → Option τD} {xs : List α} {ms : List M} {s : X Z (List α × τ)} {x : Sto → Out (M × List M)} (hu : ∀ t, un (eTt t) = some (eU t)) (h : G R (fun p : List α × τ => (lm m p.1, eTt p.2)) s x) (l : Le R E) (hm : xs.map m = ms) :
    GS R (fun _ => R) (fun p : List α × τ => (p.1.map m, eU p.2)) K eK Q eR E (extT xs s) (extD ms un x) := s_fl h l fun p => .mk fun z a r => by
  subst hm
  show SRl _ _ K eK Q eR E ((if xs.length < 100000 ∧ p.1.length < 100000 then nxT (xs ++ p.1, p.2) else skT : Y Z (List α × τ) κ ρ) z) (match some (p.1.map m), un (eTt p.2) with
    | some ms2, some t => if (xs.map m).length < 100000 ∧ ms2.length < 100000 then .nx (xs.map m ++ ms2, t) a else .stuck
    | _, _ => .stuck)
  rw [hu]
  dsimp only
  rw [List.length_map, List.length_map]
  by_cases c : xs.length < 100000 ∧ p.1.length < 100000
  · rw [if_pos c, if_pos c]
    exact ⟨a, by
      show _ = Fl.nx ((xs ++ p.1).map m, eU p.2) a
      rw [List.map_append], r⟩
  · rw [if_neg c]
    exact trivial
theorem g_theX {e : α → D} {s : X Z (Option α)} {o : Sto → Out D} (h : G R (eO e) s o) : G R e (bnd s fun x => theX x) o := g_mono (o := fun a => (o a).bind fun d a => .ok d a) (fun a => by cases o a <;> rfl) (gX h fun x => by
  cases x with
  | none => exact g_stk
  | some x => exact g_ret rfl)
theorem eL_some {e : α → D} (xs : List α) : eL e xs = eL (eO e) (xs.map some) := by
  show D.lst _ = D.lst _
  rw [List.map_map]
  rfl
theorem opt_all {op : D → Option D} {e : α → D} {d : D} (h0 : op .non = some d) (h1 : ∀ x, op (e x) = some d) (x : Option α) : op (eO e x) = some d := by
  cases x with
  | none => exact h0
  | some x => exact h1 x
end
end TL
namespace TL
open PySem PySem.Spec PyProof.Rows L2 DL
section
variable {Z ν κ ρ α β : Type}
theorem forT_nx {body : β → ν → Y Z ν ν ρ} {x : β} {xs : List β} {s s' : ν} (h : body x s = nxT s') : (forT body (x :: xs) s : Y Z ν κ ρ) = forT body xs s' := by
  rw [forT_cons, h]
  rfl
theorem forT_rt {body : β → ν → Y Z ν ν ρ} {x : β} {xs : List β} {s : ν} {r : ρ} (h : body x s = rtT r) : (forT body (x :: xs) s : Y Z ν κ ρ) = rtT r := by
  rw [forT_cons, h]
  rfl
theorem forT_all {body : β → ν → Y Z ν ν ρ} {s : ν} : ∀ {xs : List β}, (∀ x ∈ xs, body x s = nxT s) → (forT body xs s : Y Z ν κ ρ) = nxT s
  | [], _ => rfl
  | x :: xs, h => by
    rw [forT_nx (h x List.mem_cons_self)]
    exact forT_all fun y hy => h y (List.mem_cons_of_mem _ hy)
theorem forT_map {body : β → List α → Y Z (List α) (List α) ρ} {g : β → α} : ∀ {xs : List β} {s : List α}, (∀ x ∈ xs, ∀ s : List α, s.length < 100000 → body x s = nxT (s ++ [g x])) → s.length + xs.length ≤ 100000 → (forT body xs s : Y Z (List α) κ ρ) = nxT (s ++ xs.map g)
  | [], s, _, _ => by rw [List.map_nil, List.append_nil]; rfl
  | x :: xs, s, h, hl => by
    rw [List.length_cons] at hl
    rw [forT_nx (h x List.mem_cons_self s (by omega)), forT_map (fun y hy => h y (List.mem_cons_of_mem _ hy)) (by rw [List.length_append, List.length_singleton]; omega), List.append_assoc]
    rfl
theorem forT_flat {body : β → List α → Y Z (List α) (List α) ρ} {g : β → List α} {m : Nat} : ∀ {xs : List β} {s : List α}, (∀ x ∈ xs, (g x).length ≤ m ∧ ∀ s : List α, s.length + m ≤ 100000 → body x s = nxT (s ++ g x)) → s.length + xs.length * m ≤ 100000 → (forT body xs s : Y Z (List α) κ ρ) = nxT (s ++ xs.flatMap g)
  | [], s, _, _ => by rw [List.flatMap_nil, List.append_nil]; rfl
  | x :: xs, s, h, hl => by
    obtain ⟨h1, h2⟩ := h x List.mem_cons_self
    rw [List.length_cons, Nat.succ_mul] at hl
    rw [forT_nx (h2 s (by omega)), forT_flat (m := m) (fun y hy => h y (List.mem_cons_of_mem _ hy)) (by rw [List.length_append]; omega), List.append_assoc]
    rfl
theorem forT_findR {body : β → ν → Y Z ν ν ρ} {q : β → Bool} {r : β → ρ} {s : ν} : ∀ {xs : List β}, (∀ x ∈ xs, body x s = if q x = true then rtT (r x) else nxT s) → (forT body xs s : Y Z ν κ ρ) = match xs.find? q with
    | some x => rtT (r x)
    | none => nxT s
  | [], _ => rfl
  | x :: xs, h => by
    have h1 := h x List.mem_cons_self
    cases c : q x with
    | true =>
      rw [c, if_pos rfl] at h1
      rw [forT_rt h1, List.find?_cons_of_pos c]
    | false =>
      rw [c, if_neg (by decide)] at h1
      rw [forT_nx h1, List.find?_cons_of_neg (by rw [c]; decide), forT_findR fun y hy => h y (List.mem_cons_of_mem _ hy)]
theorem forT_any {body : β → ν → Y Z ν ν ρ} {q : β → Bool} {r : ρ} {s : ν} : ∀ {xs : List β}, (∀ x ∈ xs, body x s = if q x = true then rtT r else nxT s) → (forT body xs s : Y Z ν κ ρ) = if xs.any q = true then rtT r else nxT s
  | [], _ => rfl
  | x :: xs, h => by
    have h1 := h x List.mem_cons_self
    rw [List.any_cons]
    cases c : q x with
    | true =>
      rw [c, if_pos rfl] at h1
      rw [forT_rt h1]
      rfl
    | false =>
      rw [c, if_neg (by decide)] at h1
      rw [forT_nx h1, forT_any fun y hy => h y (List.mem_cons_of_mem _ hy), Bool.false_or]
theorem enum_len (xs : List α) : (enumI xs).length = xs.length := by
  unfold enumI
  rw [List.length_map, List.length_zipIdx]
theorem ixX_nat {xs : List α} {i : Nat} {x : α} (h : xs[i]? = some x) : (ixX xs (i : Int) : X Z α) = ret x := by
  unfold ixX
  rw [at_nat, h]
  rfl
theorem ixX_int {xs : List α} {i : Int} {n : Nat} {x : α} (e : i = n) (h : xs[n]? = some x) : (ixX xs i : X Z α) = ret x := by
  rw [e]
  exact ixX_nat h
@[simp] theorem ixX_0 (x : α) (xs : List α) : (ixX (x :: xs) 0 : X Z α) = ret x := ixX_nat (i := 0) rfl
@[simp] theorem ixX_1 (x y : α) (xs : List α) : (ixX (x :: y :: xs) 1 : X Z α) = ret y := ixX_nat (i := 1) rfl
@[simp] theorem ixX_2 (x y z : α) (xs : List α) : (ixX (x :: y :: z :: xs) 2 : X Z α) = ret z := ixX_nat (i := 2) rfl
@[simp] theorem ixX_3 (x y z w : α) (xs : List α) : (ixX (x :: y :: z :: w :: xs) 3 : X Z α) = ret w := ixX_nat (i := 3) rfl
theorem mem_range {n i : Int} (h : i ∈ rangeL n) : 0 ≤ i ∧ i < n := by
  obtain ⟨k, hk, rfl⟩ := List.mem_map.mp h
  have := List.mem_range.mp hk
  omega
theorem range_len (n : Int) : (rangeL n).length = n.toNat := by
  unfold rangeL
  rw [List.length_map, List.length_range]
theorem bigP_of {i : Int} (h : -1073741824 ≤ i) (h2 : i ≤ 1073741824) : bigP i := ⟨by omega, by omega⟩
end
section
variable {ν κ ρ α β τ : Type}
def Does (s : X Sto α) (Q : α → Prop) : Prop := ∀ z, St4 z → ∃ x z', s z = .ok x z' ∧ Q x ∧ St4 z'
theorem does_ret {x : α} {Q : α → Prop} (h : Q x) : Does (ret x) Q := fun z hz => ⟨x, z, rfl, h, hz⟩
theorem does_bnd {s : X Sto α} {f : α → X Sto β} {P : α → Prop} {Q : β → Prop} (h : Does s P) (k : ∀ x, P x → Does (f x) Q) : Does (bnd s f) Q := fun z hz => by
  obtain ⟨x, z1, e, hx, h1⟩ := h z hz
  obtain ⟨y, z2, e2, hy, h2⟩ := k x hx z1 h1
  exact ⟨y, z2, by rw [bnd_ap, e, obnd_ok, e2], hy, h2⟩
theorem does_imp {s : X Sto α} {P Q : α → Prop} (h : Does s P) (k : ∀ x, P x → Q x) : Does s Q := fun z hz => by
  obtain ⟨x, z1, e, hx, h1⟩ := h z hz
  exact ⟨x, z1, e, k x hx, h1⟩
theorem does_grd {c : Prop} [Decidable c] {s : X Sto α} {Q : α → Prop} (h : c) (k : Does s Q) : Does (grd c s) Q := by
  rw [grd_pos h]
  exact k
theorem does_draw {ns : List Int} {lim : Int} (h : 0 < lim) (h2 : lim < 18446744073709551616) : Does (drawT ns lim) fun r => 0 ≤ r ∧ r < lim := fun z hz => by
  obtain ⟨r, z', e, h0, h1, h3⟩ := draw_spec ns h h2 hz
  exact ⟨r, z', e, ⟨h0, h1⟩, h3⟩
theorem does_clm {s : X Sto α} {Q : α → Prop} (h : Does s Q) : Does (clm s) Q := fun z hz => by
  obtain ⟨x, z1, e, hx, h1⟩ := h z hz
  refine ⟨x, z1, ?_, hx, h1⟩
  unfold clm
  rw [e]
theorem does_map {F : β → X Sto α} {Q : α → Prop} : ∀ {xs : List β}, (∀ x ∈ xs, Does (F x) Q) → Does (mapX F xs) fun ys => ys.length = xs.length ∧ ∀ y ∈ ys, Q y
  | [], _ => does_ret ⟨rfl, fun y h => nomatch h⟩
  | x :: xs, h => does_bnd (does_clm (h x List.mem_cons_self)) fun y hy => does_bnd (does_map fun y hy => h y (List.mem_cons_of_mem _ hy)) fun ys hys => does_ret ⟨by rw [List.length_cons, List.length_cons, hys.1], fun w hw => by
    rcases List.mem_cons.mp hw with rfl | hw
    · exact hy
    · exact hys.2 w hw⟩
def Goes (s : Y Sto ν κ ρ) (Q : ν → Prop) : Prop := ∀ z, St4 z → ∃ x z', s z = .nx x z' ∧ Q x ∧ St4 z'
theorem goes_nx {x : ν} {Q : ν → Prop} (h : Q x) : Goes (nxT x : Y Sto ν κ ρ) Q := fun z hz => ⟨x, z, rfl, h, hz⟩
theorem goes_sbn {s : X Sto α} {t : α → Y Sto ν κ ρ} {P : α → Prop} {Q : ν → Prop} (h : Does s P) (k : ∀ x, P x → Goes (t x) Q) : Goes (sbn s t) Q := fun z hz => by
  obtain ⟨x, z1, e, hx, h1⟩ := h z hz
  obtain ⟨y, z2, e2, hy, h2⟩ := k x hx z1 h1
  exact ⟨y, z2, by rw [sbn_ap, e]; exact e2, hy, h2⟩
theorem goes_thn {ν' : Type} {s : Y Sto ν' κ ρ} {t : ν' → Y Sto ν κ ρ} {P : ν' → Prop} {Q : ν → Prop} (h : Goes s P) (k : ∀ x, P x → Goes (t x) Q) : Goes (thnT s t) Q := fun z hz => by
  obtain ⟨x, z1, e, hx, h1⟩ := h z hz
  obtain ⟨y, z2, e2, hy, h2⟩ := k x hx z1 h1
  exact ⟨y, z2, by rw [thnT_ap, e, fthn_nx, e2], hy, h2⟩
theorem goes_if {c : Prop} [Decidable c] {s t : Y Sto ν κ ρ} {Q : ν → Prop} (h : c → Goes s Q) (k : ¬c → Goes t Q) : Goes (if c then s else t) Q := by
  by_cases hc : c
  · rw [if_pos hc]
    exact h hc
  · rw [if_neg hc]
    exact k hc
theorem goes_for (I : Nat → ν → Prop) {body : β → ν → Y Sto ν ν ρ} : ∀ {xs : List β} {n : Nat} {s : ν}, I n s → (∀ i x, xs[i]? = some x → ∀ s, I (n + i) s → Goes (body x s) (I (n + i + 1))) → Goes (forT body xs s : Y Sto ν κ ρ) (I (n + xs.length))
  | [], n, s, hs, _ => goes_nx hs
  | x :: xs, n, s, hs, h => fun z hz => by
    obtain ⟨s1, z1, e, h1, h2⟩ := h 0 x rfl s hs z hz
    obtain ⟨s2, z2, e2, h3, h4⟩ := goes_for I (body := body) (xs := xs) (n := n + 1) (s := s1) h1 (fun i y hy s hs => by
      have e : n + 1 + i = n + (i + 1) := by omega
      rw [e] at hs ⊢
      exact h (i + 1) y hy s hs) z1 h2
    refine ⟨s2, z2, ?_, by rw [List.length_cons]; have e : n + (xs.length + 1) = n + 1 + xs.length := by omega
                           rw [e]; exact h3, h4⟩
    rw [forT_cons]
    simp only [e]
    exact e2
theorem goes_imp {s : Y Sto ν κ ρ} {P Q : ν → Prop} (h : Goes s P) (k : ∀ x, P x → Q x) : Goes s Q := fun z hz => by
  obtain ⟨x, z1, e, hx, h1⟩ := h z hz
  exact ⟨x, z1, e, k x hx, h1⟩
theorem goes_app {xs : List α} {x : α} {Q : List α → Prop} (h : xs.length < 100000) (k : Q (xs ++ [x])) : Goes (appT xs x : Y Sto (List α) κ ρ) Q := by
  rw [appT_ok h]
  exact goes_nx k
def Rets (s : Y Sto ν κ ρ) (Q : ρ → Prop) : Prop := ∀ z, St4 z → ∃ x z', s z = .rt x z' ∧ Q x ∧ St4 z'
theorem rets_rt {x : ρ} {Q : ρ → Prop} (h : Q x) : Rets (rtT x : Y Sto ν κ ρ) Q := fun z hz => ⟨x, z, rfl, h, hz⟩
theorem rets_re {s : X Sto ρ} {Q : ρ → Prop} (h : Does s Q) : Rets (reT s : Y Sto ν κ ρ) Q := fun z hz => by
  obtain ⟨x, z1, e, hx, h1⟩ := h z hz
  refine ⟨x, z1, ?_, hx, h1⟩
  show sbn s rtT z = _
  rw [sbn_ap, e]
  rfl
theorem rets_sbn {s : X Sto α} {t : α → Y Sto ν κ ρ} {P : α → Prop} {Q : ρ → Prop} (h : Does s P) (k : ∀ x, P x → Rets (t x) Q) : Rets (sbn s t) Q := fun z hz => by
  obtain ⟨x, z1, e, hx, h1⟩ := h z hz
  obtain ⟨y, z2, e2, hy, h2⟩ := k x hx z1 h1
  exact ⟨y, z2, by rw [sbn_ap, e]; exact e2, hy, h2⟩
theorem rets_thn {ν' : Type} {s : Y Sto ν' κ ρ} {t : ν' → Y Sto ν κ ρ} {P : ν' → Prop} {Q : ρ → Prop} (h : Goes s P) (k : ∀ x, P x → Rets (t x) Q) : Rets (thnT s t) Q := fun z hz => by
  obtain ⟨x, z1, e, hx, h1⟩ := h z hz
  obtain ⟨y, z2, e2, hy, h2⟩ := k x hx z1 h1
  exact ⟨y, z2, by rw [thnT_ap, e, fthn_nx, e2], hy, h2⟩
theorem does_fn {s : Y Sto Unit Empty ρ} {Q : ρ → Prop} (h : Rets s Q) : Does (fnT s) Q := fun z hz => by
  obtain ⟨x, z1, e, hx, h1⟩ := h z hz
  refine ⟨x, z1, ?_, hx, h1⟩
  unfold fnT
  rw [e]
theorem law_of {b : List Int → Y Sto Unit Empty Bool} (h : ∀ ns, Rets (b ns) fun r => r = true) (ns : List Int) (z : Sto) (hz : St4 z) : ∃ z', b ns z = .rt true z' := by
  obtain ⟨x, z1, e, rfl, _⟩ := h ns z hz
  exact ⟨z1, e⟩
end
end TL
namespace TP
open PySem PySem.Spec PyProof.Rows L2 DL TL
structure CPlot where
  name : Str
  hold : Int
  drink : Int
  deriving DecidableEq
def CPlot.ns : List Str := ["name", "hold", "drink"]
def CPlot.fs (x : CPlot) : List D := [D.str x.name, D.int x.hold, D.int x.drink]
def CPlot.e (x : CPlot) : D := .obj 14 CPlot.ns (CPlot.fs x)
def CPlot.m (x : CPlot) : M := .obj 14 CPlot.ns ((CPlot.fs x).map M.val)
instance : NoL CPlot.e := ⟨fun x => ((.cons (NoL.nl (e := D.str) x.name) (.cons (NoL.nl (e := D.int) x.hold) (.cons (NoL.nl (e := D.int) x.drink) .nil))) : NLs (CPlot.fs x))⟩
instance : NN CPlot.e := ⟨fun _ => rfl⟩
instance : Fz CPlot.m CPlot.e := ⟨fun _ => rfl⟩
instance : Cl CPlot.e := ⟨fun k x h => cl_obj h ((cls_c (Cl.cl (e := D.str) k x.name h) (cls_c (Cl.cl (e := D.int) k x.hold h) (cls_c (Cl.cl (e := D.int) k x.drink h) rfl))) : cls k (CPlot.fs x) = true)⟩
instance : ClM CPlot.m := ⟨fun k x h => ((clMs_c (Cl.cl (e := D.str) k x.name h) (clMs_c (Cl.cl (e := D.int) k x.hold h) (clMs_c (Cl.cl (e := D.int) k x.drink h) rfl))) : clMs k ((CPlot.fs x).map M.val) = true)⟩
theorem CPlot.pls (x : CPlot) : pls (CPlot.fs x) = true := (pls_c (Sm.pl (e := D.str) x.name) (pls_c (Sm.pl (e := D.int) x.hold) (pls_c (Sm.pl (e := D.int) x.drink) rfl)))
theorem CPlot.sims (x y : CPlot) (h : simDs (CPlot.fs x) (CPlot.fs y) = true) : x = y := by
  obtain ⟨x0, x1, x2⟩ := x
  obtain ⟨y0, y1, y2⟩ := y
  obtain ⟨h0, h⟩ := sims_c h
  have e0 : x0 = y0 := Sm.sim (e := D.str) _ _ h0
  subst e0
  obtain ⟨h1, h⟩ := sims_c h
  have e1 : x1 = y1 := Sm.sim (e := D.int) _ _ h1
  subst e1
  obtain ⟨h2, h⟩ := sims_c h
  have e2 : x2 = y2 := Sm.sim (e := D.int) _ _ h2
  subst e2
  rfl
instance : Sm CPlot.e := sm_obj (fun _ => rfl) CPlot.pls CPlot.sims
structure CGates where
  groups : (List (List Str))
  deriving DecidableEq
def CGates.ns : List Str := ["groups"]
def CGates.fs (x : CGates) : List D := [(eT (eT D.str)) x.groups]
def CGates.e (x : CGates) : D := .obj 15 CGates.ns (CGates.fs x)
def CGates.m (x : CGates) : M := .obj 15 CGates.ns ((CGates.fs x).map M.val)
instance : NoL CGates.e := ⟨fun x => ((.cons (NoL.nl (e := (eT (eT D.str))) x.groups) .nil) : NLs (CGates.fs x))⟩
instance : NN CGates.e := ⟨fun _ => rfl⟩
instance : Fz CGates.m CGates.e := ⟨fun _ => rfl⟩
instance : Cl CGates.e := ⟨fun k x h => cl_obj h ((cls_c (Cl.cl (e := (eT (eT D.str))) k x.groups h) rfl) : cls k (CGates.fs x) = true)⟩
instance : ClM CGates.m := ⟨fun k x h => ((clMs_c (Cl.cl (e := (eT (eT D.str))) k x.groups h) rfl) : clMs k ((CGates.fs x).map M.val) = true)⟩
theorem CGates.pls (x : CGates) : pls (CGates.fs x) = true := (pls_c (Sm.pl (e := (eT (eT D.str))) x.groups) rfl)
theorem CGates.sims (x y : CGates) (h : simDs (CGates.fs x) (CGates.fs y) = true) : x = y := by
  obtain ⟨x0⟩ := x
  obtain ⟨y0⟩ := y
  obtain ⟨h0, h⟩ := sims_c h
  have e0 : x0 = y0 := Sm.sim (e := (eT (eT D.str))) _ _ h0
  subst e0
  rfl
instance : Sm CGates.e := sm_obj (fun _ => rfl) CGates.pls CGates.sims
structure CGround where
  plots : (List CPlot)
  names : (List Str)
  gates : CGates
  reserve : Int
  deriving DecidableEq
def CGround.ns : List Str := ["plots", "names", "gates", "reserve"]
def CGround.fs (x : CGround) : List D := [(eT CPlot.e) x.plots, (eT D.str) x.names, CGates.e x.gates, D.int x.reserve]
def CGround.e (x : CGround) : D := .obj 16 CGround.ns (CGround.fs x)
def CGround.m (x : CGround) : M := .obj 16 CGround.ns ((CGround.fs x).map M.val)
instance : NoL CGround.e := ⟨fun x => ((.cons (NoL.nl (e := (eT CPlot.e)) x.plots) (.cons (NoL.nl (e := (eT D.str)) x.names) (.cons (NoL.nl (e := CGates.e) x.gates) (.cons (NoL.nl (e := D.int) x.reserve) .nil)))) : NLs (CGround.fs x))⟩
instance : NN CGround.e := ⟨fun _ => rfl⟩
instance : Fz CGround.m CGround.e := ⟨fun _ => rfl⟩
instance : Cl CGround.e := ⟨fun k x h => cl_obj h ((cls_c (Cl.cl (e := (eT CPlot.e)) k x.plots h) (cls_c (Cl.cl (e := (eT D.str)) k x.names h) (cls_c (Cl.cl (e := CGates.e) k x.gates h) (cls_c (Cl.cl (e := D.int) k x.reserve h) rfl)))) : cls k (CGround.fs x) = true)⟩
instance : ClM CGround.m := ⟨fun k x h => ((clMs_c (Cl.cl (e := (eT CPlot.e)) k x.plots h) (clMs_c (Cl.cl (e := (eT D.str)) k x.names h) (clMs_c (Cl.cl (e := CGates.e) k x.gates h) (clMs_c (Cl.cl (e := D.int) k x.reserve h) rfl)))) : clMs k ((CGround.fs x).map M.val) = true)⟩
theorem CGround.pls (x : CGround) : pls (CGround.fs x) = true := (pls_c (Sm.pl (e := (eT CPlot.e)) x.plots) (pls_c (Sm.pl (e := (eT D.str)) x.names) (pls_c (Sm.pl (e := CGates.e) x.gates) (pls_c (Sm.pl (e := D.int) x.reserve) rfl))))
theorem CGround.sims (x y : CGround) (h : simDs (CGround.fs x) (CGround.fs y) = true) : x = y := by
  obtain ⟨x0, x1, x2, x3⟩ := x
  obtain ⟨y0, y1, y2, y3⟩ := y
  obtain ⟨h0, h⟩ := sims_c h
  have e0 : x0 = y0 := Sm.sim (e := (eT CPlot.e)) _ _ h0
  subst e0
  obtain ⟨h1, h⟩ := sims_c h
  have e1 : x1 = y1 := Sm.sim (e := (eT D.str)) _ _ h1
  subst e1
  obtain ⟨h2, h⟩ := sims_c h
  have e2 : x2 = y2 := Sm.sim (e := CGates.e) _ _ h2
  subst e2
  obtain ⟨h3, h⟩ := sims_c h
  have e3 : x3 = y3 := Sm.sim (e := D.int) _ _ h3
  subst e3
  rfl
instance : Sm CGround.e := sm_obj (fun _ => rfl) CGround.pls CGround.sims
structure CDay where
  dry : (List Int)
  rain : (List Int)
  fill : Int
  mood : Int
  deriving DecidableEq
def CDay.ns : List Str := ["dry", "rain", "fill", "mood"]
def CDay.fs (x : CDay) : List D := [(eT D.int) x.dry, (eT D.int) x.rain, D.int x.fill, D.int x.mood]
def CDay.e (x : CDay) : D := .obj 17 CDay.ns (CDay.fs x)
def CDay.m (x : CDay) : M := .obj 17 CDay.ns ((CDay.fs x).map M.val)
instance : NoL CDay.e := ⟨fun x => ((.cons (NoL.nl (e := (eT D.int)) x.dry) (.cons (NoL.nl (e := (eT D.int)) x.rain) (.cons (NoL.nl (e := D.int) x.fill) (.cons (NoL.nl (e := D.int) x.mood) .nil)))) : NLs (CDay.fs x))⟩
instance : NN CDay.e := ⟨fun _ => rfl⟩
instance : Fz CDay.m CDay.e := ⟨fun _ => rfl⟩
instance : Cl CDay.e := ⟨fun k x h => cl_obj h ((cls_c (Cl.cl (e := (eT D.int)) k x.dry h) (cls_c (Cl.cl (e := (eT D.int)) k x.rain h) (cls_c (Cl.cl (e := D.int) k x.fill h) (cls_c (Cl.cl (e := D.int) k x.mood h) rfl)))) : cls k (CDay.fs x) = true)⟩
instance : ClM CDay.m := ⟨fun k x h => ((clMs_c (Cl.cl (e := (eT D.int)) k x.dry h) (clMs_c (Cl.cl (e := (eT D.int)) k x.rain h) (clMs_c (Cl.cl (e := D.int) k x.fill h) (clMs_c (Cl.cl (e := D.int) k x.mood h) rfl)))) : clMs k ((CDay.fs x).map M.val) = true)⟩
theorem CDay.pls (x : CDay) : pls (CDay.fs x) = true := (pls_c (Sm.pl (e := (eT D.int)) x.dry) (pls_c (Sm.pl (e := (eT D.int)) x.rain) (pls_c (Sm.pl (e := D.int) x.fill) (pls_c (Sm.pl (e := D.int) x.mood) rfl))))
theorem CDay.sims (x y : CDay) (h : simDs (CDay.fs x) (CDay.fs y) = true) : x = y := by
  obtain ⟨x0, x1, x2, x3⟩ := x
  obtain ⟨y0, y1, y2, y3⟩ := y
  obtain ⟨h0, h⟩ := sims_c h
  have e0 : x0 = y0 := Sm.sim (e := (eT D.int)) _ _ h0
  subst e0
  obtain ⟨h1, h⟩ := sims_c h
  have e1 : x1 = y1 := Sm.sim (e := (eT D.int)) _ _ h1
  subst e1
  obtain ⟨h2, h⟩ := sims_c h
  have e2 : x2 = y2 := Sm.sim (e := D.int) _ _ h2
  subst e2
  obtain ⟨h3, h⟩ := sims_c h
  have e3 : x3 = y3 := Sm.sim (e := D.int) _ _ h3
  subst e3
  rfl
instance : Sm CDay.e := sm_obj (fun _ => rfl) CDay.pls CDay.sims
structure CWeather where
  width : Int
  moods : (List (List CDay))
  deriving DecidableEq
def CWeather.ns : List Str := ["width", "moods"]
def CWeather.fs (x : CWeather) : List D := [D.int x.width, (eT (eT CDay.e)) x.moods]
def CWeather.e (x : CWeather) : D := .obj 18 CWeather.ns (CWeather.fs x)
def CWeather.m (x : CWeather) : M := .obj 18 CWeather.ns ((CWeather.fs x).map M.val)
instance : NoL CWeather.e := ⟨fun x => ((.cons (NoL.nl (e := D.int) x.width) (.cons (NoL.nl (e := (eT (eT CDay.e))) x.moods) .nil)) : NLs (CWeather.fs x))⟩
instance : NN CWeather.e := ⟨fun _ => rfl⟩
instance : Fz CWeather.m CWeather.e := ⟨fun _ => rfl⟩
instance : Cl CWeather.e := ⟨fun k x h => cl_obj h ((cls_c (Cl.cl (e := D.int) k x.width h) (cls_c (Cl.cl (e := (eT (eT CDay.e))) k x.moods h) rfl)) : cls k (CWeather.fs x) = true)⟩
instance : ClM CWeather.m := ⟨fun k x h => ((clMs_c (Cl.cl (e := D.int) k x.width h) (clMs_c (Cl.cl (e := (eT (eT CDay.e))) k x.moods h) rfl)) : clMs k ((CWeather.fs x).map M.val) = true)⟩
theorem CWeather.pls (x : CWeather) : pls (CWeather.fs x) = true := (pls_c (Sm.pl (e := D.int) x.width) (pls_c (Sm.pl (e := (eT (eT CDay.e))) x.moods) rfl))
theorem CWeather.sims (x y : CWeather) (h : simDs (CWeather.fs x) (CWeather.fs y) = true) : x = y := by
  obtain ⟨x0, x1⟩ := x
  obtain ⟨y0, y1⟩ := y
  obtain ⟨h0, h⟩ := sims_c h
  have e0 : x0 = y0 := Sm.sim (e := D.int) _ _ h0
  subst e0
  obtain ⟨h1, h⟩ := sims_c h
  have e1 : x1 = y1 := Sm.sim (e := (eT (eT CDay.e))) _ _ h1
  subst e1
  rfl
instance : Sm CWeather.e := sm_obj (fun _ => rfl) CWeather.pls CWeather.sims
structure CStanding where
  levels : (List Int)
  tank : Int
  mood : Int
  deriving DecidableEq
def CStanding.ns : List Str := ["levels", "tank", "mood"]
def CStanding.fs (x : CStanding) : List D := [(eT D.int) x.levels, D.int x.tank, D.int x.mood]
def CStanding.e (x : CStanding) : D := .obj 19 CStanding.ns (CStanding.fs x)
def CStanding.m (x : CStanding) : M := .obj 19 CStanding.ns ((CStanding.fs x).map M.val)
instance : NoL CStanding.e := ⟨fun x => ((.cons (NoL.nl (e := (eT D.int)) x.levels) (.cons (NoL.nl (e := D.int) x.tank) (.cons (NoL.nl (e := D.int) x.mood) .nil))) : NLs (CStanding.fs x))⟩
instance : NN CStanding.e := ⟨fun _ => rfl⟩
instance : Fz CStanding.m CStanding.e := ⟨fun _ => rfl⟩
instance : Cl CStanding.e := ⟨fun k x h => cl_obj h ((cls_c (Cl.cl (e := (eT D.int)) k x.levels h) (cls_c (Cl.cl (e := D.int) k x.tank h) (cls_c (Cl.cl (e := D.int) k x.mood h) rfl))) : cls k (CStanding.fs x) = true)⟩
instance : ClM CStanding.m := ⟨fun k x h => ((clMs_c (Cl.cl (e := (eT D.int)) k x.levels h) (clMs_c (Cl.cl (e := D.int) k x.tank h) (clMs_c (Cl.cl (e := D.int) k x.mood h) rfl))) : clMs k ((CStanding.fs x).map M.val) = true)⟩
theorem CStanding.pls (x : CStanding) : pls (CStanding.fs x) = true := (pls_c (Sm.pl (e := (eT D.int)) x.levels) (pls_c (Sm.pl (e := D.int) x.tank) (pls_c (Sm.pl (e := D.int) x.mood) rfl)))
theorem CStanding.sims (x y : CStanding) (h : simDs (CStanding.fs x) (CStanding.fs y) = true) : x = y := by
  obtain ⟨x0, x1, x2⟩ := x
  obtain ⟨y0, y1, y2⟩ := y
  obtain ⟨h0, h⟩ := sims_c h
  have e0 : x0 = y0 := Sm.sim (e := (eT D.int)) _ _ h0
  subst e0
  obtain ⟨h1, h⟩ := sims_c h
  have e1 : x1 = y1 := Sm.sim (e := D.int) _ _ h1
  subst e1
  obtain ⟨h2, h⟩ := sims_c h
  have e2 : x2 = y2 := Sm.sim (e := D.int) _ _ h2
  subst e2
  rfl
instance : Sm CStanding.e := sm_obj (fun _ => rfl) CStanding.pls CStanding.sims
structure CField where
  ground : CGround
  weather : CWeather
  amount : Int
  bottom : Int
  turn_list : (List (List Str))
  deriving DecidableEq
def CField.ns : List Str := ["ground", "weather", "amount", "bottom", "turn_list"]
def CField.fs (x : CField) : List D := [CGround.e x.ground, CWeather.e x.weather, D.int x.amount, D.int x.bottom, (eT (eT D.str)) x.turn_list]
def CField.e (x : CField) : D := .obj 20 CField.ns (CField.fs x)
def CField.m (x : CField) : M := .obj 20 CField.ns ((CField.fs x).map M.val)
instance : NoL CField.e := ⟨fun x => ((.cons (NoL.nl (e := CGround.e) x.ground) (.cons (NoL.nl (e := CWeather.e) x.weather) (.cons (NoL.nl (e := D.int) x.amount) (.cons (NoL.nl (e := D.int) x.bottom) (.cons (NoL.nl (e := (eT (eT D.str))) x.turn_list) .nil))))) : NLs (CField.fs x))⟩
instance : NN CField.e := ⟨fun _ => rfl⟩
instance : Fz CField.m CField.e := ⟨fun _ => rfl⟩
instance : Cl CField.e := ⟨fun k x h => cl_obj h ((cls_c (Cl.cl (e := CGround.e) k x.ground h) (cls_c (Cl.cl (e := CWeather.e) k x.weather h) (cls_c (Cl.cl (e := D.int) k x.amount h) (cls_c (Cl.cl (e := D.int) k x.bottom h) (cls_c (Cl.cl (e := (eT (eT D.str))) k x.turn_list h) rfl))))) : cls k (CField.fs x) = true)⟩
instance : ClM CField.m := ⟨fun k x h => ((clMs_c (Cl.cl (e := CGround.e) k x.ground h) (clMs_c (Cl.cl (e := CWeather.e) k x.weather h) (clMs_c (Cl.cl (e := D.int) k x.amount h) (clMs_c (Cl.cl (e := D.int) k x.bottom h) (clMs_c (Cl.cl (e := (eT (eT D.str))) k x.turn_list h) rfl))))) : clMs k ((CField.fs x).map M.val) = true)⟩
theorem CField.pls (x : CField) : pls (CField.fs x) = true := (pls_c (Sm.pl (e := CGround.e) x.ground) (pls_c (Sm.pl (e := CWeather.e) x.weather) (pls_c (Sm.pl (e := D.int) x.amount) (pls_c (Sm.pl (e := D.int) x.bottom) (pls_c (Sm.pl (e := (eT (eT D.str))) x.turn_list) rfl)))))
theorem CField.sims (x y : CField) (h : simDs (CField.fs x) (CField.fs y) = true) : x = y := by
  obtain ⟨x0, x1, x2, x3, x4⟩ := x
  obtain ⟨y0, y1, y2, y3, y4⟩ := y
  obtain ⟨h0, h⟩ := sims_c h
  have e0 : x0 = y0 := Sm.sim (e := CGround.e) _ _ h0
  subst e0
  obtain ⟨h1, h⟩ := sims_c h
  have e1 : x1 = y1 := Sm.sim (e := CWeather.e) _ _ h1
  subst e1
  obtain ⟨h2, h⟩ := sims_c h
  have e2 : x2 = y2 := Sm.sim (e := D.int) _ _ h2
  subst e2
  obtain ⟨h3, h⟩ := sims_c h
  have e3 : x3 = y3 := Sm.sim (e := D.int) _ _ h3
  subst e3
  obtain ⟨h4, h⟩ := sims_c h
  have e4 : x4 = y4 := Sm.sim (e := (eT (eT D.str))) _ _ h4
  subst e4
  rfl
instance : Sm CField.e := sm_obj (fun _ => rfl) CField.pls CField.sims
structure CUpSet where
  least : (List CStanding)
  deriving DecidableEq
def CUpSet.ns : List Str := ["least"]
def CUpSet.fs (x : CUpSet) : List D := [(eT CStanding.e) x.least]
def CUpSet.e (x : CUpSet) : D := .obj 21 CUpSet.ns (CUpSet.fs x)
def CUpSet.m (x : CUpSet) : M := .obj 21 CUpSet.ns ((CUpSet.fs x).map M.val)
instance : NoL CUpSet.e := ⟨fun x => ((.cons (NoL.nl (e := (eT CStanding.e)) x.least) .nil) : NLs (CUpSet.fs x))⟩
instance : NN CUpSet.e := ⟨fun _ => rfl⟩
instance : Fz CUpSet.m CUpSet.e := ⟨fun _ => rfl⟩
instance : Cl CUpSet.e := ⟨fun k x h => cl_obj h ((cls_c (Cl.cl (e := (eT CStanding.e)) k x.least h) rfl) : cls k (CUpSet.fs x) = true)⟩
instance : ClM CUpSet.m := ⟨fun k x h => ((clMs_c (Cl.cl (e := (eT CStanding.e)) k x.least h) rfl) : clMs k ((CUpSet.fs x).map M.val) = true)⟩
theorem CUpSet.pls (x : CUpSet) : pls (CUpSet.fs x) = true := (pls_c (Sm.pl (e := (eT CStanding.e)) x.least) rfl)
theorem CUpSet.sims (x y : CUpSet) (h : simDs (CUpSet.fs x) (CUpSet.fs y) = true) : x = y := by
  obtain ⟨x0⟩ := x
  obtain ⟨y0⟩ := y
  obtain ⟨h0, h⟩ := sims_c h
  have e0 : x0 = y0 := Sm.sim (e := (eT CStanding.e)) _ _ h0
  subst e0
  rfl
instance : Sm CUpSet.e := sm_obj (fun _ => rfl) CUpSet.pls CUpSet.sims
structure CSafe where
  field : CField
  game : (List (List (Option (List Int))))
  found : (List Int)
  least : CUpSet
  deriving DecidableEq
def CSafe.ns : List Str := ["field", "game", "found", "least"]
def CSafe.fs (x : CSafe) : List D := [CField.e x.field, (eL (eL (eO (eL D.int)))) x.game, (eL D.int) x.found, CUpSet.e x.least]
def CSafe.e (x : CSafe) : D := .obj 22 CSafe.ns (CSafe.fs x)
def CSafe.m (x : CSafe) : M := .obj 22 CSafe.ns ((CSafe.fs x).map M.val)
instance : NoL CSafe.e := ⟨fun x => ((.cons (NoL.nl (e := CField.e) x.field) (.cons (NoL.nl (e := (eL (eL (eO (eL D.int))))) x.game) (.cons (NoL.nl (e := (eL D.int)) x.found) (.cons (NoL.nl (e := CUpSet.e) x.least) .nil)))) : NLs (CSafe.fs x))⟩
instance : NN CSafe.e := ⟨fun _ => rfl⟩
instance : Fz CSafe.m CSafe.e := ⟨fun _ => rfl⟩
theorem CSafe.pls (x : CSafe) : pls (CSafe.fs x) = true := (pls_c (Sm.pl (e := CField.e) x.field) (pls_c (Sm.pl (e := (eL (eL (eO (eL D.int))))) x.game) (pls_c (Sm.pl (e := (eL D.int)) x.found) (pls_c (Sm.pl (e := CUpSet.e) x.least) rfl))))
theorem CSafe.sims (x y : CSafe) (h : simDs (CSafe.fs x) (CSafe.fs y) = true) : x = y := by
  obtain ⟨x0, x1, x2, x3⟩ := x
  obtain ⟨y0, y1, y2, y3⟩ := y
  obtain ⟨h0, h⟩ := sims_c h
  have e0 : x0 = y0 := Sm.sim (e := CField.e) _ _ h0
  subst e0
  obtain ⟨h1, h⟩ := sims_c h
  have e1 : x1 = y1 := Sm.sim (e := (eL (eL (eO (eL D.int))))) _ _ h1
  subst e1
  obtain ⟨h2, h⟩ := sims_c h
  have e2 : x2 = y2 := Sm.sim (e := (eL D.int)) _ _ h2
  subst e2
  obtain ⟨h3, h⟩ := sims_c h
  have e3 : x3 = y3 := Sm.sim (e := CUpSet.e) _ _ h3
  subst e3
  rfl
instance : Sm CSafe.e := sm_obj (fun _ => rfl) CSafe.pls CSafe.sims
end TP
namespace TP
open PySem PySem.Spec PyProof.Rows L2 DL TL
noncomputable section
@[irreducible] def s_is_integer (x0 : Int) : X Unit Bool :=
  fnT (rtT (true && (!false)))
@[irreducible] def s_check_number (x0 : Str) (x1 : Int) (x2 : Int) (x3 : Int) : X Unit Int :=
  fnT (thnT (sbn (orX (bnd (TP.s_is_integer x1) fun b => ret (!b)) (ret ((decide (x1 < x2)) || (decide (x3 < x1))))) fun b => if b = true then
    (raT ((thr 2 [D.str x0, D.int x1]) : X _ Unit))
    else (nxT ()))
    fun (w1_ : Unit) => (rtT x1))
@[irreducible] def s_within (x0 : (List Str)) (x1 : (List Str)) : X Unit Bool :=
  fnT (thnT (forT (fun (b2 : Str) (u1 : Unit) => (if (!decide (b2 ∈ x1)) = true then
    (rtT false)
    else (nxT ()))) (x0) ())
    fun (u1 : Unit) => (rtT true))
@[irreducible] def s_allows (x0 : (List (List Str))) (x1 : (List Str)) : X Unit Bool :=
  fnT (thnT (if (decide ((x1.length : Int) = (0 : Int))) = true then
    (rtT true)
    else (nxT ()))
    fun (w1_ : Unit) => (thnT (forT (fun (b2 : (List Str)) (u1 : Unit) => (sbn (TP.s_within x1 b2) fun b => if b = true then
    (rtT true)
    else (nxT ()))) (x0) ())
    fun (u1 : Unit) => (rtT false)))
@[irreducible] def s_Ground_place_of (x0 : CGround) (x1 : Str) : X Unit Int :=
  fnT (thnT (forT (fun (b2 : (Int × Str)) (u1 : Unit) => (if (decide (b2.2 = x1)) = true then
    (rtT b2.1)
    else (nxT ()))) (enumI x0.names) ())
    fun (u1 : Unit) => (raT ((thr 1 [D.str x1]) : X _ Unit)))
@[irreducible] def s_Ground_turn_of (x0 : CGround) (x1 : (List Str)) : X Unit (List Str) :=
  fnT (thnT (forT (fun (b2 : Str) (u1 : Unit) => (sbn (TP.s_Ground_place_of x0 b2) fun _ =>
    (nxT ()))) (x1) ())
    fun (u1 : Unit) => (sbn (bnd (bnd (ret (x0.names)) fun l1_ => grd (l1_.length ≤ 100000) (ret ((l1_.filter fun (b4 : Str) => (decide (b4 ∈ x1))).map fun (b4 : Str) => b4))) fun y2_ => (ret y2_))
    fun (v3 : (List Str)) => (thnT (sbn (orX (ret (!decide ((v3.length : Int) = (x1.length : Int)))) (bnd (TP.s_allows x0.gates.groups v3) fun b => ret (!b))) fun b => if b = true then
    (raT ((thr 3 [(eT D.str) x1]) : X _ Unit))
    else (nxT ()))
    fun (w3_ : Unit) => (rtT v3))))
@[irreducible] def s_check_game (x0 : (List (List (Option (List Int))))) : X Unit Unit :=
  fnU (thnT (if (decide ((12000 : Int) < (x0.length : Int))) = true then
    (raT ((thr 5 [D.int (12000 : Int)]) : X _ Unit))
    else (nxT ()))
    fun (w1_ : Unit) => (thnT (forT (fun (b2 : (List (Option (List Int)))) (u1 : Unit) => (thnT (forT (fun (b4 : (Option (List Int))) (u3 : Unit) => (if b4.isSome = true then
    (thnT (sbn (bnd (theX b4) fun y2_ => ret (y2_)) fun l3_ => forT (fun (b6 : Int) (u5 : Unit) => (sbn (TP.s_check_number ("node" : Str) b6 (0 : Int) ((x0.length : Int) - (1 : Int))) fun _ =>
    (nxT ()))) l3_ ())
    fun (u5 : Unit) => (nxT ()))
    else (nxT ()))) (b2) ())
    fun (u3 : Unit) => (nxT ()))) (x0) ())
    fun (u1 : Unit) => (nxT ())))
@[irreducible] def s_users_of (x0 : (List (List (Option (List Int))))) : X Unit (List (List (Int × Int))) :=
  fnT (sbn (bnd (ret (x0)) fun l1_ => grd (l1_.length ≤ 100000) (ret (l1_.map fun (b2 : (List (Option (List Int)))) => ([] : List (Int × Int)))))
    fun (l1 : List (List (Int × Int))) => (thnT (forT (fun (b4 : (Int × (List (Option (List Int))))) (s3 : ((List (List (Int × Int))))) => (thnT (forT (fun (b6 : (Int × (Option (List Int)))) (s5 : ((List (List (Int × Int))))) => (if b6.2.isSome = true then
    (thnT (sbn (bnd (theX b6.2) fun y2_ => ret (y2_)) fun l3_ => forT (fun (b8 : Int) (s7 : ((List (List (Int × Int))))) => (thnT (app1T s7 b8 (ret (b4.1, b6.1)))
    fun (l9 : List (List (Int × Int))) => (nxT l9))) l3_ s5)
    fun (s7 : ((List (List (Int × Int))))) => (nxT s7))
    else (nxT s5))) (enumI b4.2) s3)
    fun (s5 : ((List (List (Int × Int))))) => (nxT s5))) (enumI x0) l1)
    fun (s3 : ((List (List (Int × Int))))) => (rtT s3)))
@[irreducible] def s_fail_options (x0 : (List (Int × Int))) (y1 : (List (List Bool))) (y2 : (List Int)) : X Unit ((List Int) × (List (List Bool)) × (List Int)) :=
  fnTT (sbn (ret ([] : List Int))
    fun (l1 : List Int) => (thnT (forT (fun (b3 : (Int × Int)) (s2 : ((List (List Bool)) × (List Int) × (List Int))) => (sbn (bnd (ixX s2.1 b3.1) fun y1_ => (ixX y1_ b3.2)) fun b => if b = true then
    (thnT (sbn (ret false) fun x => at1T s2.1 b3.1 (set1 b3.2 x))
    fun (l4 : List (List Bool)) => (thnT (aug0T (fun i j => i - j) s2.2.1 b3.1 (1 : Int))
    fun (l5 : List Int) => (sbn (bnd (ixX l5 b3.1) fun y2_ => (ret (decide (y2_ = (0 : Int))))) fun b => if b = true then
    (thnT (appT s2.2.2 b3.1)
    fun (l6 : List Int) => (nxT (l4, l5, l6)))
    else (nxT (l4, l5, s2.2.2)))))
    else (nxT (s2.1, s2.2.1, s2.2.2)))) (x0) (y1, y2, l1))
    fun (s2 : ((List (List Bool)) × (List Int) × (List Int))) => (nxT (s2.2.2, (s2.1, s2.2.1)))))
@[irreducible] def s_ranks (x0 : (List (List (Option (List Int))))) : X Unit (List Int) :=
  fnT (sbn (TP.s_check_game x0) fun _ =>
    (sbn (TP.s_users_of x0)
    fun (v1 : (List (List (Int × Int)))) => (sbn (bnd (ret (x0)) fun l2_ => grd (l2_.length ≤ 100000) (mapX (fun (b3 : (List (Option (List Int)))) => (bnd (ret (b3)) fun l1_ => grd (l1_.length ≤ 100000) (ret (l1_.map fun (b4 : (Option (List Int))) => b4.isSome)))) l2_))
    fun (l2 : List (List Bool)) => (sbn (bnd (ret (l2)) fun l3_ => grd (l3_.length ≤ 100000) (ret (l3_.map fun (b6 : (List Bool)) => ((b6.count true : Nat) : Int))))
    fun (l5 : List Int) => (sbn (bnd (ret (x0)) fun l4_ => grd (l4_.length ≤ 100000) (ret (l4_.map fun (b8 : (List (Option (List Int)))) => (0 : Int))))
    fun (l7 : List Int) => (sbn (bnd (ret (enumI l5)) fun l5_ => grd (l5_.length ≤ 100000) (ret ((l5_.filter fun (b10 : (Int × Int)) => (decide (b10.2 = (0 : Int)))).map fun (b10 : (Int × Int)) => b10.1)))
    fun (v9 : (List Int)) => (let v11 : Int := (0 : Int)
    (thnT (whT (fun (s12 : ((List (List Bool)) × (List Int) × (List Int) × (List Int) × Int)) => (ret (!s12.2.2.2.1.isEmpty))) (fun (s12 : ((List (List Bool)) × (List Int) × (List Int) × (List Int) × Int)) => (let v13 : Int := (s12.2.2.2.2 + (1 : Int))
    (sbn (ret ([] : List Int))
    fun (l14 : List Int) => (thnT (forT (fun (b16 : Int) (s15 : ((List (List Bool)) × (List Int) × (List Int) × (List Int))) => (thnT (sbn (ret v13) fun x => setT s15.2.2.1 b16 x)
    fun (l17 : List Int) => (thnT (extT s15.2.2.2 (bnd (clm (ixX v1 b16)) fun y6_ => (TP.s_fail_options y6_ s15.1 s15.2.1)))
    fun (s18 : List Int × ((List (List Bool)) × (List Int))) => (nxT (s18.2.1, s18.2.2, l17, s18.1))))) (s12.2.2.2.1) (s12.1, s12.2.1, s12.2.2.1, l14))
    fun (s15 : ((List (List Bool)) × (List Int) × (List Int) × (List Int))) => (sbn (ret s15.2.2.2)
    fun (v19 : (List Int)) => (nxT (s15.1, s15.2.1, s15.2.2.1, v19, v13))))))) 100000 (l2, l5, l7, v9, v11))
    fun (s12 : ((List (List Bool)) × (List Int) × (List Int) × (List Int) × Int)) => (rtT s12.2.2.1)))))))))
@[irreducible] def s_good_options (x0 : (List (List (Option (List Int))))) (x1 : (List Int)) (x2 : Int) : X Unit (List Int) :=
  fnT (sbn (ret ([] : List Int))
    fun (l1 : List Int) => (thnT (sbn (bnd (ixX x0 x2) fun y1_ => (ret (enumI y1_))) fun l6_ => forT (fun (b3 : (Int × (Option (List Int)))) (s2 : ((List Int))) => (sbn (andX (ret b3.2.isSome) (bnd (bnd (bnd (theX b3.2) fun y2_ => ret (y2_)) fun l4_ => grd (l4_.length ≤ 100000) (mapX (fun (b4 : Int) => (bnd (ixX x1 b4) fun y3_ => (ret (decide (y3_ = (0 : Int)))))) l4_)) fun y5_ => (ret (y5_.all id)))) fun b => if b = true then
    (thnT (appT s2 b3.1)
    fun (l5 : List Int) => (nxT l5))
    else (nxT s2))) l6_ l1)
    fun (s2 : ((List Int))) => (rtT s2)))
@[irreducible] def s_spoiler_of (x0 : (Option (List Int))) (x1 : (List Int)) (x2 : Int) : X Unit (Option Int) :=
  fnT (thnT (sbn (bnd (theX x0) fun y1_ => ret (y1_)) fun l2_ => forT (fun (b2 : Int) (u1 : Unit) => (sbn (chX (fun x y => decide (x < y)) (fun x y => decide (x < y)) (ret (0 : Int)) (ixX x1 b2) (ret x2)) fun b => if b = true then
    (rtT (some b2))
    else (nxT ()))) l2_ ())
    fun (u1 : Unit) => (rtT none))
@[irreducible] def s_spoilers (x0 : (List (List (Option (List Int))))) (x1 : (List Int)) (x2 : Int) : X Unit (List (Option Int)) :=
  fnT (thnT (sbn (bnd (ixX x1 x2) fun y1_ => (ret (decide (y1_ = (0 : Int))))) fun b => if b = true then
    (rtT ([] : List (Option Int)))
    else (nxT ()))
    fun (w2_ : Unit) => (sbn (ret ([] : List (Option Int)))
    fun (l1 : List (Option Int)) => (thnT (sbn (bnd (ixX x0 x2) fun y3_ => ret (y3_)) fun l5_ => forT (fun (b3 : (Option (List Int))) (s2 : ((List (Option Int)))) => (thnT (sbn (bnd (ret b3.isNone) fun b => if b = true then (ret none) else (bnd (ixX x1 x2) fun y4_ => (TP.s_spoiler_of b3 x1 y4_))) fun x => appT s2 x)
    fun (l4 : List (Option Int)) => (nxT l4))) l5_ l1)
    fun (s2 : ((List (Option Int)))) => (rtT s2))))
end
end TP
namespace TP
open PySem PySem.Spec PyProof.Rows L2 DL TL
@[simp] theorem is_integer_is (x : Int) : s_is_integer x = ret true := by
  unfold s_is_integer
  rfl
abbrev Bad := Option (Str × Int)
def thrB (e : Str × Int) : List D := [.str e.1, .int e.2]
section
variable {Z ν ν' κ ρ α β : Type}
def badY (e : Bad) (s : Y Z ν κ ρ) : Y Z ν κ ρ := match e with
  | none => s
  | some e => exT 2 (thrB e)
def badX (e : Bad) (s : X Z α) : X Z α := match e with
  | none => s
  | some e => thr 2 (thrB e)
@[simp] theorem badY_none (s : Y Z ν κ ρ) : badY none s = s := rfl
@[simp] theorem badY_some (e : Str × Int) (s : Y Z ν κ ρ) : badY (some e) s = exT 2 (thrB e) := rfl
@[simp] theorem badX_none (s : X Z α) : badX none s = s := rfl
@[simp] theorem badX_some (e : Str × Int) (s : X Z α) : badX (some e) s = thr 2 (thrB e) := rfl
theorem sbn_badX (e : Bad) (s : X Z α) (t : α → Y Z ν κ ρ) : sbn (badX e s) t = badY e (sbn s t) := by cases e <;> rfl
def chkN (w : Str) (v lo hi : Int) : Bad := if lo ≤ v ∧ v ≤ hi then none else some (w, v)
theorem chkN_in {w : Str} {v lo hi : Int} (h : lo ≤ v ∧ v ≤ hi) : chkN w v lo hi = none := if_pos h
def chkL (w : Str) (lo hi : Int) : List Int → Bad
  | [] => none
  | v :: r => (chkN w v lo hi).or (chkL w lo hi r)
theorem chkL_in {w : Str} {lo hi : Int} : ∀ {l : List Int}, (∀ v ∈ l, lo ≤ v ∧ v ≤ hi) → chkL w lo hi l = none
  | [], _ => rfl
  | v :: r, h => by
    show (chkN w v lo hi).or _ = none
    rw [chkN_in (h v List.mem_cons_self), chkL_in fun y hy => h y (List.mem_cons_of_mem _ hy)]
    rfl
theorem check_number_is (w : Str) (v lo hi : Int) : s_check_number w v lo hi = badX (chkN w v lo hi) (ret v) := by
  unfold s_check_number chkN
  simp
  by_cases c : lo ≤ v ∧ v ≤ hi
  · have h1 : ¬(v < lo ∨ hi < v) := by omega
    rw [if_pos c, if_neg h1]
    rfl
  · have h1 : v < lo ∨ hi < v := by omega
    rw [if_neg c, if_pos h1]
    rfl
theorem sbn_chk (w : Str) (v lo hi : Int) (t : Int → Y Unit ν κ ρ) : sbn (s_check_number w v lo hi) t = badY (chkN w v lo hi) (t v) := by
  rw [check_number_is, sbn_badX]
  rfl
end
def dayBad (dry rain : List Int) (fill mood : Int) : Bad := (chkN "plots" dry.length 1 4).or ((chkL "dry" 0 8 dry).or ((chkN "plots" rain.length dry.length dry.length).or ((chkL "rain" 0 8 rain).or ((chkN "fill" fill 0 8).or (chkN "mood" mood 0 3)))))
structure DayOk (x : CDay) : Prop where
  lo : 1 ≤ x.dry.length
  hi : x.dry.length ≤ 4
  len : x.rain.length = x.dry.length
  dry : ∀ i ∈ x.dry, 0 ≤ i ∧ i ≤ 8
  rain : ∀ i ∈ x.rain, 0 ≤ i ∧ i ≤ 8
  fill : 0 ≤ x.fill ∧ x.fill ≤ 8
  mood : 0 ≤ x.mood ∧ x.mood ≤ 3
theorem DayOk.bad {x : CDay} (h : DayOk x) : dayBad x.dry x.rain x.fill x.mood = none := by
  unfold dayBad
  rw [chkN_in ⟨by have := h.lo; omega, by have := h.hi; omega⟩, chkL_in h.dry, chkN_in ⟨by rw [h.len]; omega, by rw [h.len]; omega⟩, chkL_in h.rain, chkN_in h.fill, chkN_in h.mood]
  rfl
def CDay.more (x : CDay) (u : Int) : CDay := { x with rain := x.rain.map fun v => if v + u < 8 then v + u else 8 }
theorem DayOk.more {x : CDay} (h : DayOk x) {u : Int} (hu : 0 ≤ u) : DayOk (x.more u) where
  lo := h.lo
  hi := h.hi
  len := by
    show (x.rain.map _).length = x.dry.length
    rw [List.length_map, h.len]
  dry := h.dry
  rain := fun i hi => by
    obtain ⟨v, hv, rfl⟩ := List.mem_map.mp hi
    have := h.rain v hv
    split <;> omega
  fill := h.fill
  mood := h.mood
def CDay.le (x y : CDay) : Prop := x.dry.length = y.dry.length ∧ x.mood = y.mood ∧ (∀ i (h : i < y.dry.length) (h' : i < x.dry.length), y.dry[i] ≤ x.dry[i]) ∧ (∀ i (h : i < x.rain.length) (h' : i < y.rain.length), x.rain[i] ≤ y.rain[i]) ∧ x.fill ≤ y.fill
def newW (w : Int) (x : CDay) : Int := if w = 0 then (x.dry.length : Int) else w
def weatherBad1 (m w : Int) : List CDay → Bad × Int
  | [] => (none, w)
  | x :: r => ((chkN "plots" x.dry.length (newW w x) (newW w x)).or ((chkN "mood" x.mood 0 (m - 1)).or (weatherBad1 m (newW w x) r).1), (weatherBad1 m (newW w x) r).2)
def weatherBad2 (m w : Int) : List (List CDay) → Bad × Int
  | [] => (none, w)
  | l :: r => ((chkN "days" l.length 1 6).or ((weatherBad1 m w l).1.or (weatherBad2 m (weatherBad1 m w l).2 r).1), (weatherBad2 m (weatherBad1 m w l).2 r).2)
def weatherBad (ls : List (List CDay)) : Bad := (chkN "moods" ls.length 1 4).or (weatherBad2 ls.length 0 ls).1
def widthOf (ls : List (List CDay)) : Int := (weatherBad2 ls.length 0 ls).2
structure WOk (m w : Nat) (ls : List (List CDay)) : Prop where
  m1 : 1 ≤ m
  m4 : m ≤ 4
  w1 : 1 ≤ w
  len : ls.length = m
  row : ∀ l ∈ ls, 1 ≤ l.length ∧ l.length ≤ 6
  day : ∀ l ∈ ls, ∀ x ∈ l, DayOk x ∧ x.dry.length = w ∧ x.mood < m
theorem bad1_ok {m w : Nat} : ∀ {l : List CDay} {v : Int}, v = 0 ∨ v = w → (∀ x ∈ l, DayOk x ∧ x.dry.length = w ∧ x.mood < m) → (weatherBad1 m v l).1 = none ∧ ((weatherBad1 m v l).2 = if l = [] then v else (w : Int))
  | [], v, _, _ => ⟨rfl, rfl⟩
  | x :: r, v, hv, h => by
    obtain ⟨hx, hw, hm⟩ := h x List.mem_cons_self
    have e : newW v x = w := by
      unfold newW
      split
      · rw [hw]
      · omega
    obtain ⟨h1, h2⟩ := bad1_ok (v := w) (.inr rfl) fun y hy => h y (List.mem_cons_of_mem _ hy)
    refine ⟨?_, ?_⟩
    · show (chkN "plots" x.dry.length (newW v x) (newW v x)).or ((chkN "mood" x.mood 0 (m - 1)).or (weatherBad1 m (newW v x) r).1) = none
      rw [e, h1, chkN_in ⟨by omega, by omega⟩, chkN_in ⟨hx.mood.1, by omega⟩]
      rfl
    · show (weatherBad1 m (newW v x) r).2 = _
      rw [e, h2, if_neg (List.cons_ne_nil x r)]
      split <;> rfl
theorem bad2_ok {m w : Nat} : ∀ {ls : List (List CDay)} {v : Int}, v = 0 ∨ v = w → (∀ l ∈ ls, 1 ≤ l.length ∧ l.length ≤ 6) → (∀ l ∈ ls, ∀ x ∈ l, DayOk x ∧ x.dry.length = w ∧ x.mood < m) → (weatherBad2 m v ls).1 = none ∧ ((weatherBad2 m v ls).2 = if ls = [] then v else (w : Int))
  | [], v, _, _, _ => ⟨rfl, rfl⟩
  | l :: r, v, hv, h, k => by
    obtain ⟨l1, l6⟩ := h l List.mem_cons_self
    obtain ⟨h1, h2⟩ := bad1_ok (m := m) hv (k l List.mem_cons_self)
    have e : (weatherBad1 m v l).2 = w := by
      rw [h2, if_neg]
      intro z
      rw [z] at l1
      exact absurd l1 (by decide)
    obtain ⟨h3, h4⟩ := bad2_ok (m := m) (v := w) (.inr rfl) (fun y hy => h y (List.mem_cons_of_mem _ hy)) fun y hy => k y (List.mem_cons_of_mem _ hy)
    refine ⟨?_, ?_⟩
    · show (chkN "days" l.length 1 6).or ((weatherBad1 m v l).1.or (weatherBad2 m (weatherBad1 m v l).2 r).1) = none
      rw [e, h1, h3, chkN_in ⟨by omega, by omega⟩]
      rfl
    · show (weatherBad2 m (weatherBad1 m v l).2 r).2 = _
      rw [e, h4, if_neg (List.cons_ne_nil l r)]
      split <;> rfl
theorem WOk.bad {m w : Nat} {ls : List (List CDay)} (h : WOk m w ls) : weatherBad ls = none ∧ widthOf ls = w := by
  obtain ⟨h1, h2⟩ := bad2_ok (m := m) (v := 0) (.inl rfl) h.row h.day
  unfold weatherBad widthOf
  rw [h.len]
  refine ⟨?_, ?_⟩
  · rw [h1, chkN_in ⟨by have := h.m1; omega, by have := h.m4; omega⟩]
    rfl
  · rw [h2, if_neg]
    intro z
    have := h.len
    have := h.m1
    rw [z] at *
    simp at *
    omega
theorem WOk.map {m w : Nat} {ls : List (List CDay)} (h : WOk m w ls) {f : List CDay → List CDay} (hf : ∀ l ∈ ls, 1 ≤ (f l).length ∧ (f l).length ≤ 6 ∧ ∀ x ∈ f l, DayOk x ∧ x.dry.length = w ∧ x.mood < m) : WOk m w (ls.map f) where
  m1 := h.m1
  m4 := h.m4
  w1 := h.w1
  len := by rw [List.length_map, h.len]
  row := fun l hl => by
    obtain ⟨l0, h0, rfl⟩ := List.mem_map.mp hl
    exact ⟨(hf l0 h0).1, (hf l0 h0).2.1⟩
  day := fun l hl => by
    obtain ⟨l0, h0, rfl⟩ := List.mem_map.mp hl
    exact (hf l0 h0).2.2
theorem CDay.le_trans {x y z : CDay} (hx : DayOk x) (hy : DayOk y) (h : x.le y) (k : y.le z) : x.le z := by
  obtain ⟨a1, a2, a3, a4, a5⟩ := h
  obtain ⟨b1, b2, b3, b4, b5⟩ := k
  have l1 := hx.len
  have l2 := hy.len
  exact ⟨a1.trans b1, a2.trans b2, fun i h h' => Int.le_trans (b3 i h (by omega)) (a3 i (by omega) h'), fun i h h' => Int.le_trans (a4 i h (by omega)) (b4 i (by omega) h'), Int.le_trans a5 b5⟩
end TP
namespace TP
open PySem PySem.Spec PyProof.Rows L2 DL TL
structure NameOk (x : Str) : Prop where
  lo : 1 ≤ x.length
  hi : x.length ≤ 8
  az : ∀ c ∈ tl x, 97 ≤ c ∧ c ≤ 122
theorem NameOk.ne {x : Str} (h : NameOk x) : tl x ≠ [] := by
  intro e
  have := h.lo
  have : x.length = (tl x).length := (Array.length_toList).symm
  rw [e] at this
  simp at this
  omega
theorem NameOk.dd {x : Str} (h : NameOk x) (n : Nat) : dd n (.str x) = true := by
  have : PySem.PyData.strOk x = true := by
    show x.cps.all _ = true
    rw [← Array.all_toList]
    refine List.all_eq_true.mpr fun c hc => decide_eq_true ?_
    have := h.az c hc
    omega
  cases n <;> exact this
theorem within_is (a b : List Str) : s_within a b = ret (decide (a ⊆ b)) := by
  unfold s_within
  rw [forT_any (q := fun x => !decide (x ∈ b)) (r := false) fun x hx => rfl]
  by_cases c : a ⊆ b
  · have e : a.any (fun x => !decide (x ∈ b)) = false := by
      rw [List.any_eq_false]
      intro x hx
      simp [c hx]
    rw [e, decide_eq_true c]
    rfl
  · have e : a.any (fun x => !decide (x ∈ b)) = true := by
      rw [← Bool.not_eq_false]
      intro e
      rw [List.any_eq_false] at e
      exact c fun x hx => by simpa using e x hx
    rw [e, decide_eq_false c]
    rfl
def allowsP (G : List (List Str)) (t : List Str) : Prop := t = [] ∨ ∃ g ∈ G, t ⊆ g
instance (G : List (List Str)) (t : List Str) : Decidable (allowsP G t) := inferInstanceAs (Decidable (_ ∨ _))
theorem allows_is (G : List (List Str)) (t : List Str) : s_allows G t = ret (decide (allowsP G t)) := by
  unfold s_allows
  cases t with
  | nil =>
    rw [decide_eq_true (show allowsP G [] from .inl rfl)]
    simp
  | cons x t =>
    have h0 : ¬(((x :: t).length : Int) = 0) := by rw [List.length_cons]; omega
    rw [decide_eq_false h0, forT_any (q := fun g => decide ((x :: t) ⊆ g)) (r := true) fun g hg => by rw [within_is, sbn_ret]]
    by_cases c : ∃ g ∈ G, (x :: t) ⊆ g
    · rw [decide_eq_true (show allowsP G (x :: t) from .inr c)]
      have e : G.any (fun g => decide ((x :: t) ⊆ g)) = true := by
        obtain ⟨g, hg, k⟩ := c
        exact List.any_eq_true.mpr ⟨g, hg, decide_eq_true k⟩
      rw [e]
      rfl
    · rw [decide_eq_false (show ¬allowsP G (x :: t) from fun h => h.elim (fun h => nomatch h) c)]
      have e : G.any (fun g => decide ((x :: t) ⊆ g)) = false := by
        rw [List.any_eq_false]
        intro g hg k
        exact c ⟨g, hg, of_decide_eq_true k⟩
      rw [e]
      rfl
def SP : Str := " "
structure RowOk (r : List Str) : Prop where
  name : ∀ n ∈ r, NameOk n
  nd : r.Nodup
  len : r.length < 64
theorem sort_mem {r : List Str} {n : Str} : n ∈ sortO leS r ↔ n ∈ r := (sortO_perm leS r).mem_iff
def lt2 (g h : List Str) : Prop := leS (Txt.join SP g) (Txt.join SP h) = true ∧ g ≠ h
structure Great (rows G : List (List Str)) : Prop where
  mem : ∀ g ∈ G, g ≠ [] ∧ ∃ r ∈ rows, g = sortO leS r
  anti : ∀ g ∈ G, ∀ h ∈ G, g ⊆ h → h = g
  cover : ∀ r ∈ rows, r ≠ [] → ∃ g ∈ G, r ⊆ g
  asc : G.Pairwise lt2
theorem sub_len {α : Type} [DecidableEq α] : ∀ {a b : List α}, a.Nodup → a ⊆ b → a.length ≤ b.length
  | [], b, _, _ => Nat.zero_le _
  | x :: a, b, ha, h => by
    obtain ⟨h1, h2⟩ := List.nodup_cons.mp ha
    have hx : x ∈ b := h List.mem_cons_self
    have k := sub_len (b := b.erase x) h2 fun y hy => (List.mem_erase_of_ne fun e => h1 (by rw [← e]; exact hy)).mpr (h (List.mem_cons_of_mem _ hy))
    have e := List.length_erase_of_mem hx
    have := List.length_pos_of_mem hx
    rw [List.length_cons]
    omega
theorem sort_nd {r : List Str} (h : r.Nodup) : (sortO leS r).Nodup := (sortO_perm leS r).nodup_iff.mpr h
end TP
namespace TP
open PySem PySem.Spec PyProof.Rows L2 DL TL
structure GOk (n : Nat) (G : List (List Str)) : Prop where
  src : ∃ rows, (∀ r ∈ rows, RowOk r) ∧ Great rows G
  len : G.length ≤ n
theorem sort_ok {r : List Str} (h : RowOk r) : RowOk (sortO leS r) := ⟨fun n hn => h.name n (sort_mem.mp hn), sort_nd h.nd, by rw [(sortO_perm leS r).length_eq]; exact h.len⟩
theorem GOk.row {n : Nat} {G : List (List Str)} (h : GOk n G) {g : List Str} (hg : g ∈ G) : RowOk g := by
  obtain ⟨rows, h1, h2⟩ := h.src
  obtain ⟨_, r, hr, rfl⟩ := h2.mem g hg
  exact sort_ok (h1 r hr)
theorem GOk.ne {n : Nat} {G : List (List Str)} (h : GOk n G) {g : List Str} (hg : g ∈ G) : g ≠ [] := by
  obtain ⟨rows, h1, h2⟩ := h.src
  exact (h2.mem g hg).1
theorem GOk.anti {n : Nat} {G : List (List Str)} (h : GOk n G) : ∀ g ∈ G, ∀ k ∈ G, g ⊆ k → k = g := by
  obtain ⟨rows, h1, h2⟩ := h.src
  exact h2.anti
end TP
namespace TP
open PySem PySem.Spec PyProof.Rows L2 DL TL
theorem enum_cons {α : Type} (x : α) (xs : List α) : enumI (x :: xs) = (0, x) :: (enumI xs).map fun p => (p.1 + 1, p.2) := by
  unfold enumI
  rw [List.zipIdx_cons, List.map_cons, List.map_map, List.zipIdx_succ, List.map_map]
  rfl
def placeI : List Str → Str → Option Int
  | [], _ => none
  | y :: ys, x => if y = x then some 0 else (placeI ys x).map (· + 1)
theorem find_place (x : Str) : ∀ ys : List Str, ((enumI ys).find? fun p => decide (p.2 = x)).map Prod.fst = placeI ys x
  | [] => rfl
  | y :: ys => by
    rw [enum_cons]
    unfold placeI
    by_cases c : y = x
    · rw [List.find?_cons_of_pos (by exact decide_eq_true c), if_pos c]
      rfl
    · rw [List.find?_cons_of_neg (by exact fun z => c (of_decide_eq_true z)), if_neg c, ← find_place x ys, List.find?_map, Option.map_map, Option.map_map]
      rfl
theorem place_some : ∀ {ys : List Str} {x : Str}, x ∈ ys → ∃ i, placeI ys x = some i
  | y :: ys, x, h => by
    unfold placeI
    by_cases c : y = x
    · exact ⟨0, if_pos c⟩
    · rw [if_neg c]
      obtain ⟨i, e⟩ := place_some ((List.mem_cons.mp h).resolve_left fun z => c z.symm)
      exact ⟨i + 1, by rw [e]; rfl⟩
theorem place_of_is (g : CGround) (x : Str) : s_Ground_place_of g x = match placeI g.names x with
    | some i => TL.ret i
    | none => thr 1 [.str x] := by
  unfold s_Ground_place_of
  rw [forT_findR (q := fun p => decide (p.2 = x)) (r := fun p => p.1) fun p _ => rfl, ← find_place]
  cases (enumI g.names).find? fun p => decide (p.2 = x) <;> rfl
theorem place_of_in {g : CGround} {x : Str} (h : x ∈ g.names) : ∃ i, s_Ground_place_of g x = TL.ret i := by
  obtain ⟨i, e⟩ := place_some h
  exact ⟨i, by rw [place_of_is, e]⟩
def rowOf (names xs : List Str) : List Str := names.filter fun n => decide (n ∈ xs)
theorem turn_of_in {g : CGround} {xs : List Str} (h : ∀ x ∈ xs, x ∈ g.names) (hl : g.names.length ≤ 100) : s_Ground_turn_of g xs = if (rowOf g.names xs).length = xs.length ∧ allowsP g.gates.groups (rowOf g.names xs) then ret (rowOf g.names xs) else thr 3 [(eT D.str) xs] := by
  unfold s_Ground_turn_of
  rw [forT_all (fun x hx => by
    obtain ⟨i, e⟩ := place_of_in (h x hx)
    rw [e, sbn_ret]), thnT_nx, bnd_ret, grd_pos (by omega), bnd_ret, sbn_ret, List.map_id', allows_is]
  show fnT (thnT (sbn (orX (ret (!decide (((rowOf g.names xs).length : Int) = (xs.length : Int)))) (bnd (ret (decide (allowsP g.gates.groups (rowOf g.names xs)))) fun b => ret !b)) _) _) = _
  rw [bnd_ret, orX_ret, sbn_ret]
  by_cases c : (rowOf g.names xs).length = xs.length
  · rw [decide_eq_true (show ((rowOf g.names xs).length : Int) = xs.length by omega)]
    by_cases d : allowsP g.gates.groups (rowOf g.names xs)
    · rw [decide_eq_true d, if_neg (by decide), if_pos ⟨c, d⟩]
      rfl
    · rw [decide_eq_false d, if_pos (by decide), if_neg (c := _ ∧ _) fun z => d z.2]
      rfl
  · rw [decide_eq_false (show ¬((rowOf g.names xs).length : Int) = xs.length by omega), Bool.not_false, Bool.true_or, if_pos rfl, if_neg (c := _ ∧ _) fun z => c z.1]
    rfl
def pickL (names : List Str) (k : Nat) : List Str := ((enumI names).filter fun p => decide (k / 2 ^ p.1.toNat % 2 = 1)).map Prod.snd
def turnsG (names : List Str) (G : List (List Str)) : List (List Str) := ((List.range (2 ^ names.length)).map (pickL names)).filter fun t => decide (allowsP G t)
end TP
namespace TP
open PySem PySem.Spec PyProof.Rows L2 DL TL
theorem tl_len (a : Str) : a.length = (tl a).length := (Array.length_toList).symm
structure Part (c : Nat) (m : Nat) (x : Str) : Prop where
  len : (tl x).length = m + 1
  az : ∀ d ∈ tl x, 97 ≤ d ∧ d ≤ 122
  last : ∃ p, tl x = p ++ [c]
theorem Part.ok {c m : Nat} {x : Str} (h : Part c m x) (hm : m ≤ 7) : NameOk x := ⟨by rw [tl_len, h.len]; omega, by rw [tl_len, h.len]; omega, h.az⟩
theorem ix_any {α : Type} {l : List α} {i : Int} (h0 : -(l.length : Int) ≤ i) (h1 : i < l.length) : ∃ x ∈ l, ∀ {Z : Type}, (ixX l i : X Z α) = TL.ret x := by
  have k : ∃ j, j < l.length ∧ L2.atI l i = l[j]? := by
    by_cases c : 0 ≤ i
    · refine ⟨i.toNat, by omega, ?_⟩
      have e : i = (i.toNat : Int) := by omega
      rw [e, at_nat, Int.toNat_natCast]
    · refine ⟨(i + l.length).toNat, by omega, ?_⟩
      unfold L2.atI L2.ixN
      rw [if_neg c, if_pos h0]
      rfl
  obtain ⟨j, hj, e⟩ := k
  refine ⟨l[j], List.getElem_mem hj, fun {Z} => ?_⟩
  unfold ixX
  rw [e, List.getElem?_eq_getElem hj]
  rfl
structure PlotOk (x : CPlot) : Prop where
  nm : NameOk x.name
  hold : 1 ≤ x.hold ∧ x.hold ≤ 8
  drink : 1 ≤ x.drink ∧ x.drink ≤ 8
structure GrOk (g : CGround) : Prop where
  nm : RowOk g.names
  l1 : 1 ≤ g.names.length
  l4 : g.names.length ≤ 4
  pn : g.plots.map (fun p => p.name) = g.names
  gt : GOk 3 g.gates.groups
  sub : ∀ r ∈ g.gates.groups, r ⊆ g.names
  res : 0 ≤ g.reserve ∧ g.reserve ≤ 8
end TP
namespace TP
open PySem PySem.Spec PyProof.Rows L2 DL TL
instance : Dec CStanding.e where
  dec d := match d with
    | .obj c ns [a, b, e] => if c = 19 ∧ ns = CStanding.ns then (match (Dec.dec (eT D.int) a : Option (List Int)), (Dec.dec D.int b : Option Int), (Dec.dec D.int e : Option Int) with
      | some x, some y, some z => some ⟨x, y, z⟩
      | _, _, _ => none) else none
    | _ => none
  to x := by
    show (if 19 = 19 ∧ CStanding.ns = CStanding.ns then (match (Dec.dec (eT D.int) (eT D.int x.levels) : Option (List Int)), (Dec.dec D.int (D.int x.tank) : Option Int), (Dec.dec D.int (D.int x.mood) : Option Int) with
      | some x, some y, some z => some (CStanding.mk x y z)
      | _, _, _ => none) else none) = some x
    rw [if_pos ⟨rfl, rfl⟩, Dec.to, Dec.to, Dec.to]
  of d x h := by
    cases d with
    | obj c ns l =>
      match l, h with
      | [a, b, e], h =>
        have h' : (if c = 19 ∧ ns = CStanding.ns then (match (Dec.dec (eT D.int) a : Option (List Int)), (Dec.dec D.int b : Option Int), (Dec.dec D.int e : Option Int) with
          | some x, some y, some z => some (CStanding.mk x y z)
          | _, _, _ => none) else none) = some x := h
        by_cases q : c = 19 ∧ ns = CStanding.ns
        · rw [if_pos q] at h'
          obtain ⟨rfl, rfl⟩ := q
          cases e1 : (Dec.dec (eT D.int) a : Option (List Int)) with
          | none => rw [e1] at h'; cases h'
          | some x1 =>
            cases e2 : (Dec.dec D.int b : Option Int) with
            | none => rw [e1, e2] at h'; cases h'
            | some x2 =>
              cases e3 : (Dec.dec D.int e : Option Int) with
              | none => rw [e1, e2, e3] at h'; cases h'
              | some x3 =>
                rw [e1, e2, e3] at h'
                cases h'
                rw [Dec.of a x1 e1, Dec.of b x2 e2, Dec.of e x3 e3]
                rfl
        · rw [if_neg q] at h'
          cases h'
      | [], h => cases h
      | [_], h => cases h
      | [_, _], h => cases h
      | _ :: _ :: _ :: _ :: _, h => cases h
    | _ => cases h
structure StdOk (s : CStanding) : Prop where
  l1 : 1 ≤ s.levels.length
  l4 : s.levels.length ≤ 4
  lv : ∀ v ∈ s.levels, 0 ≤ v ∧ v ≤ 8
  tank : 0 ≤ s.tank ∧ s.tank ≤ 8
  mood : 0 ≤ s.mood ∧ s.mood ≤ 3
def Within : List CPlot → List Int → Prop
  | [], [] => True
  | p :: ps, l :: ls => (0 ≤ l ∧ l ≤ p.hold) ∧ Within ps ls
  | _, _ => False
theorem Within.len : ∀ {ps : List CPlot} {ls : List Int}, Within ps ls → ls.length = ps.length
  | [], [], _ => rfl
  | p :: ps, l :: ls, h => by rw [List.length_cons, List.length_cons, Within.len h.2]
  | [], _ :: _, h => h.elim
  | _ :: _, [], h => h.elim
theorem Within.lv : ∀ {ps : List CPlot} {ls : List Int}, Within ps ls → (∀ p ∈ ps, PlotOk p) → ∀ v ∈ ls, 0 ≤ v ∧ v ≤ 8
  | [], [], _, _, v, hv => nomatch hv
  | p :: ps, l :: ls, h, hp, v, hv => by
    rcases List.mem_cons.mp hv with rfl | hv
    · have := (hp p List.mem_cons_self).hold
      have := h.1
      omega
    · exact Within.lv h.2 (fun q hq => hp q (List.mem_cons_of_mem _ hq)) v hv
  | [], _ :: _, h, _, _, _ => h.elim
  | _ :: _, [], h, _, _, _ => h.elim
structure Fits (f : CField) (s : CStanding) : Prop where
  wi : Within f.ground.plots s.levels
  tank : 0 ≤ s.tank ∧ s.tank ≤ f.bottom
  mood : 0 ≤ s.mood ∧ s.mood < f.weather.moods.length
def sizeF (g : CGround) (m : Int) : Int := g.plots.foldl (fun a p => a * (p.hold + 1)) ((g.reserve + 1) * m)
structure FieldOk (f : CField) : Prop where
  gr : GrOk f.ground
  pl : ∀ p ∈ f.ground.plots, PlotOk p
  we : WOk f.weather.moods.length f.ground.plots.length f.weather.moods
  wi : f.weather.width = f.ground.plots.length
  am : f.amount = sizeF f.ground f.weather.moods.length
  lim : f.amount ≤ 6000
  bot : f.bottom = f.ground.reserve
  tl : f.turn_list = turnsG f.ground.names f.ground.gates.groups
theorem GrOk.len {g : CGround} (h : GrOk g) : g.plots.length = g.names.length := by rw [← h.pn, List.length_map]
theorem mood_at {f : CField} {s : CStanding} (hs : Fits f s) : ∃ (n : Nat) (days : List CDay), s.mood = n ∧ f.weather.moods[n]? = some days := by
  have := hs.mood
  exact ⟨s.mood.toNat, f.weather.moods[s.mood.toNat]'(by omega), by omega, List.getElem?_eq_getElem (by omega)⟩
def daysOf (f : CField) (s : CStanding) : List CDay := (f.weather.moods[s.mood.toNat]?).getD []
theorem days_mem {f : CField} {s : CStanding} (hs : Fits f s) : daysOf f s ∈ f.weather.moods := by
  obtain ⟨n, days, e1, e2⟩ := mood_at hs
  unfold daysOf
  rw [e1, Int.toNat_natCast, e2]
  exact List.mem_of_getElem? e2
theorem FieldOk.day {f : CField} (h : FieldOk f) {s : CStanding} (hs : Fits f s) {d : CDay} (hd : d ∈ daysOf f s) : DayOk d ∧ d.dry.length = f.ground.plots.length ∧ d.mood < f.weather.moods.length := h.we.day _ (days_mem hs) d hd
end TP
namespace TP
open PySem PySem.Spec PyProof.Rows L2 DL TL
structure DaySm (most : Int) (x : CDay) : Prop where
  dry : ∀ i ∈ x.dry, i ≤ most
  rain : ∀ i ∈ x.rain, i ≤ most
  fill : x.fill ≤ most + 1
structure WthOk (pl : Int) (mm dd most : Int) (w : CWeather) : Prop where
  wi : w.width = pl
  ok : WOk w.moods.length pl.toNat w.moods
  mm : w.moods.length ≤ mm
  dd : ∀ l ∈ w.moods, l.length ≤ dd
  sm : ∀ l ∈ w.moods, ∀ x ∈ l, DaySm most x
end TP
namespace TP
open PySem PySem.Spec PyProof.Rows L2 DL TL
structure TurnOk (g : CGround) (t : List Str) : Prop where
  row : rowOf g.names t = t
  al : allowsP g.gates.groups t
  sub : t ⊆ g.names
  len : t.length ≤ g.names.length
theorem TurnOk.of {g : CGround} (h : GrOk g) {t : List Str} (ht : TurnOk g t) : s_Ground_turn_of g t = ret t := by
  rw [turn_of_in (fun x hx => ht.sub hx) (by have := h.l4; omega), if_pos ⟨by rw [ht.row], by rw [ht.row]; exact ht.al⟩, ht.row]
end TP
namespace TP
open PySem PySem.Spec PyProof.Rows L2 DL TL
def leL : List Int → List Int → Bool
  | x :: xs, y :: ys => decide (x ≤ y) && leL xs ys
  | _, _ => true
def Under (x y : CStanding) : Prop := x.mood = y.mood ∧ x.levels.length = y.levels.length ∧ leL x.levels y.levels = true ∧ x.tank ≤ y.tank
instance (x y : CStanding) : Decidable (Under x y) := inferInstanceAs (Decidable (_ ∧ _))
theorem leL_refl : ∀ xs : List Int, leL xs xs = true
  | [] => rfl
  | x :: xs => by
    show (decide (x ≤ x) && leL xs xs) = true
    rw [leL_refl xs, decide_eq_true (Int.le_refl x)]
    rfl
theorem leL_cons {x y : Int} {xs ys : List Int} : leL (x :: xs) (y :: ys) = true ↔ x ≤ y ∧ leL xs ys = true := by
  show (decide (x ≤ y) && leL xs ys) = true ↔ _
  rw [Bool.and_eq_true, decide_eq_true_iff]
theorem leL_trans : ∀ {xs ys zs : List Int}, xs.length = ys.length → ys.length = zs.length → leL xs ys = true → leL ys zs = true → leL xs zs = true
  | [], _, _, _, _, _, _ => by
    unfold leL
    rfl
  | x :: xs, y :: ys, z :: zs, h1, h2, h3, h4 => by
    rw [leL_cons] at h3 h4 ⊢
    exact ⟨Int.le_trans h3.1 h4.1, leL_trans (by simpa using h1) (by simpa using h2) h3.2 h4.2⟩
  | x :: xs, [], _, h1, _, _, _ => by simp at h1
  | x :: xs, y :: ys, [], _, h2, _, _ => by simp at h2
theorem leL_anti : ∀ {xs ys : List Int}, xs.length = ys.length → leL xs ys = true → leL ys xs = true → xs = ys
  | [], [], _, _, _ => rfl
  | x :: xs, y :: ys, h, h1, h2 => by
    rw [leL_cons] at h1 h2
    rw [Int.le_antisymm h1.1 h2.1, leL_anti (by simpa using h) h1.2 h2.2]
  | [], y :: ys, h, _, _ => by simp at h
  | x :: xs, [], h, _, _ => by simp at h
theorem Under.refl (x : CStanding) : Under x x := ⟨rfl, rfl, leL_refl _, Int.le_refl _⟩
theorem Under.trans {x y z : CStanding} (h : Under x y) (k : Under y z) : Under x z := ⟨h.1.trans k.1, h.2.1.trans k.2.1, leL_trans h.2.1 k.2.1 h.2.2.1 k.2.2.1, Int.le_trans h.2.2.2 k.2.2.2⟩
theorem Under.anti {x y : CStanding} (h : Under x y) (k : Under y x) : x = y := by
  obtain ⟨a, b, c⟩ := x
  obtain ⟨a', b', c'⟩ := y
  obtain ⟨h1, h2, h3, h4⟩ := h
  obtain ⟨k1, k2, k3, k4⟩ := k
  have e1 : a = a' := leL_anti h2 h3 k3
  have e2 : b = b' := Int.le_antisymm h4 k4
  have e3 : c = c' := h1
  rw [e1, e2, e3]
def numL (n : Int) : List Int → Int
  | [] => n
  | l :: ls => numL (n * 9 + l) ls
def numOf (s : CStanding) : Int := numL s.mood s.levels * 9 + s.tank
def leastB (xs : List CStanding) (x : CStanding) : Bool := !(xs.any fun o => decide (Under o x) && !(decide (o = x)))
def Wide (w : Nat) (xs : List CStanding) : Prop := ∀ s ∈ xs, StdOk s ∧ s.levels.length = w
structure LeastOf (xs ls : List CStanding) : Prop where
  mem : ∀ s, s ∈ ls ↔ s ∈ xs ∧ leastB xs s = true
  pw : ls.Pairwise fun a b => numOf a < numOf b
def Above (xs : List CStanding) (s : CStanding) : Bool := xs.any fun l => decide (Under l s)
theorem above_iff {xs : List CStanding} {s : CStanding} : Above xs s = true ↔ ∃ l ∈ xs, Under l s := by
  unfold Above
  rw [List.any_eq_true]
  exact ⟨fun ⟨l, h, k⟩ => ⟨l, h, of_decide_eq_true k⟩, fun ⟨l, h, k⟩ => ⟨l, h, decide_eq_true k⟩⟩
theorem above_self {xs : List CStanding} {s : CStanding} (h : s ∈ xs) : Above xs s = true := above_iff.mpr ⟨s, h, Under.refl s⟩
structure UpOk (w n : Nat) (u : CUpSet) : Prop where
  wd : Wide w u.least
  anti : ∀ a ∈ u.least, ∀ b ∈ u.least, Under a b → a = b
  pw : u.least.Pairwise fun a b => numOf a < numOf b
  len : u.least.length ≤ n
theorem pw_ext : ∀ {ls ms : List CStanding}, ls.Pairwise (fun a b => numOf a < numOf b) → ms.Pairwise (fun a b => numOf a < numOf b) → (∀ s, s ∈ ls ↔ s ∈ ms) → ls = ms
  | [], [], _, _, _ => rfl
  | [], m :: ms, _, _, h => by have := (h m).mpr List.mem_cons_self; simp at this
  | l :: ls, [], _, _, h => by have := (h l).mp List.mem_cons_self; simp at this
  | l :: ls, m :: ms, h1, h2, h => by
    obtain ⟨a1, a2⟩ := List.pairwise_cons.mp h1
    obtain ⟨b1, b2⟩ := List.pairwise_cons.mp h2
    have e : l = m := by
      rcases List.mem_cons.mp ((h l).mp List.mem_cons_self) with e | c
      · exact e
      · rcases List.mem_cons.mp ((h m).mpr List.mem_cons_self) with e | d
        · exact e.symm
        · have := a1 m d
          have := b1 l c
          omega
    subst e
    rw [pw_ext a2 b2 fun s => ?_]
    constructor
    · intro hs
      rcases List.mem_cons.mp ((h s).mp (List.mem_cons_of_mem _ hs)) with rfl | z
      · exact absurd (a1 s hs) (by omega)
      · exact z
    · intro hs
      rcases List.mem_cons.mp ((h s).mpr (List.mem_cons_of_mem _ hs)) with rfl | z
      · exact absurd (b1 s hs) (by omega)
      · exact z
theorem UpOk.ext {w n m : Nat} {u v : CUpSet} (hu : UpOk w n u) (hv : UpOk w m v) : u = v ↔ ∀ s, Above u.least s = Above v.least s := by
  constructor
  · rintro rfl s
    rfl
  · intro h
    have one : ∀ {n m : Nat} {u v : CUpSet}, UpOk w n u → UpOk w m v → (∀ s, Above u.least s = Above v.least s) → ∀ s, s ∈ u.least → s ∈ v.least := fun {n m u v} hu hv h s hs => by
      obtain ⟨l, h1, h2⟩ := above_iff.mp ((h s).symm.trans (above_self hs))
      obtain ⟨k, h3, h4⟩ := above_iff.mp ((h l).trans (above_self h1))
      have e := hu.anti k h3 s hs (h4.trans h2)
      subst e
      exact h2.anti h4 ▸ h1
    obtain ⟨a⟩ := u
    obtain ⟨b⟩ := v
    exact congrArg CUpSet.mk (pw_ext hu.pw hv.pw fun s => ⟨one hu hv h s, one hv hu (fun s => (h s).symm) s⟩)
end TP
namespace TP
open PySem PySem.Spec PyProof.Rows L2 DL TL
section
variable {Z ν κ ρ α β : Type}
theorem for_ex {body : β → ν → Y Z ν ν ρ} {xs : List β} (I : List β → ν → Prop) (h : ∀ d x r s, xs = d ++ x :: r → I d s → ∃ s', body x s = nxT s' ∧ I (d ++ [x]) s') : ∀ {s : ν}, I [] s → ∃ s', (forT body xs s : Y Z ν κ ρ) = nxT s' ∧ I xs s' := by
  have go : ∀ r d s, xs = d ++ r → I d s → ∃ s', (forT body r s : Y Z ν κ ρ) = nxT s' ∧ I xs s' := by
    intro r
    induction r with
    | nil =>
      intro d s e hi
      rw [List.append_nil] at e
      exact ⟨s, rfl, by rw [e]; exact hi⟩
    | cons x r ih =>
      intro d s e hi
      obtain ⟨s1, e1, h1⟩ := h d x r s e hi
      obtain ⟨s2, e2, h2⟩ := ih (d ++ [x]) s1 (by rw [e, List.append_assoc]; rfl) h1
      exact ⟨s2, by rw [forT_nx e1, e2], h2⟩
  intro s hi
  exact go xs [] s rfl hi
theorem for_heap {body : β → ν → Y Z ν ν ρ} {γ : Type} {h : β → List γ} {u : List γ → ν} {B : Nat} : ∀ {xs : List β} {d : List γ}, (∀ x ∈ xs, ∀ d : List γ, d.length + (h x).length ≤ B → body x (u d) = nxT (u (d ++ h x))) → d.length + (xs.flatMap h).length ≤ B → (forT body xs (u d) : Y Z ν κ ρ) = nxT (u (d ++ xs.flatMap h))
  | [], d, _, _ => by rw [List.flatMap_nil, List.append_nil]; rfl
  | x :: xs, d, hb, hl => by
    rw [List.flatMap_cons, List.length_append] at hl
    rw [forT_nx (hb x List.mem_cons_self d (by omega)), for_heap (fun y hy => hb y (List.mem_cons_of_mem _ hy)) (by rw [List.length_append]; omega), List.flatMap_cons, List.append_assoc]
theorem setT_nat {xs : List α} {i : Nat} (h : i < xs.length) (x : α) : (setT xs (i : Int) x : Y Z (List α) κ ρ) = nxT (xs.set i x) := by
  unfold setT
  rw [ixN_nt h]
theorem at1T_nat {xss : List (List α)} {i : Nat} {l l' : List α} {f : List α → Option (List α)} (h : xss[i]? = some l) (e : f l = some l') : (at1T xss (i : Int) f : Y Z (List (List α)) κ ρ) = nxT (xss.set i l') := by
  unfold at1T
  have hi : i < xss.length := (List.getElem?_eq_some_iff.mp h).1
  rw [ixN_nt hi]
  show (match xss[i]? with
    | some l => (match f l with
      | some l' => nxT (xss.set i l')
      | none => skT)
    | none => skT : Y Z (List (List α)) κ ρ) = _
  rw [h]
  show (match f l with
      | some l' => nxT (xss.set i l')
      | none => skT : Y Z (List (List α)) κ ρ) = _
  rw [e]
theorem app1T_nat {xss : List (List α)} {i : Nat} {l : List α} (h : xss[i]? = some l) (hl : l.length < 100000) (x : α) : (app1T xss (i : Int) (TL.ret x) : Y Z (List (List α)) κ ρ) = nxT (xss.set i (l ++ [x])) := by
  unfold app1T
  have hi : i < xss.length := (List.getElem?_eq_some_iff.mp h).1
  rw [ixN_nt hi]
  show (match xss[i]? with
      | some _ => sbn (TL.ret x) fun x => at1T xss (i : Int) (app1 x)
      | none => skT : Y Z (List (List α)) κ ρ) = _
  rw [h]
  show (at1T xss (i : Int) (app1 x) : Y Z (List (List α)) κ ρ) = _
  exact at1T_nat h (by unfold app1; rw [if_pos hl])
theorem aug0T_nat {xs : List Int} {i : Nat} {v : Int} {g : Int → Int → Int} (h : xs[i]? = some v) (y : Int) : (aug0T g xs (i : Int) y : Y Z (List Int) κ ρ) = nxT (xs.set i (g v y)) := by
  unfold aug0T
  have hi : i < xs.length := (List.getElem?_eq_some_iff.mp h).1
  rw [ixN_nt hi]
  show (match xs[i]? with
    | some x => nxT (xs.set i (g x y))
    | none => skT : Y Z (List Int) κ ρ) = _
  rw [h]
theorem set1_nat {l : List α} {i : Nat} (h : i < l.length) (x : α) : set1 (i : Int) x l = some (l.set i x) := by
  unfold set1
  rw [ixN_nt h]
  rfl
theorem rmap_at {N : Nat} {f : Nat → α} {i : Nat} (h : i < N) : ((List.range N).map f)[i]? = some (f i) := by
  rw [List.getElem?_map, List.getElem?_range h]
  rfl
theorem rmap_set {N : Nat} {f : Nat → α} {k : Nat} {x : α} : ((List.range N).map f).set k x = (List.range N).map (fun n => if n = k then x else f n) := by
  apply List.ext_getElem
  · simp
  · intro i h1 h2
    rw [List.getElem_set]
    by_cases e : k = i
    · subst e
      simp
    · rw [if_neg e]
      simp only [List.getElem_map, List.getElem_range]
      rw [if_neg fun h => e h.symm]
theorem map_rmap {xs : List α} {f : α → β} {g : Nat → β} (h : ∀ i x, xs[i]? = some x → f x = g i) : xs.map f = (List.range xs.length).map g := by
  apply List.ext_getElem
  · simp
  · intro i h1 h2
    simp only [List.getElem_map, List.getElem_range]
    exact h i _ (List.getElem?_eq_getElem _)
theorem wh_go {c : ν → X Z Bool} {body : ν → Y Z ν ν ρ} {n : Nat} {s s' : ν} (hc : c s = TL.ret true) (hb : body s = nxT s') : (whT c body (n + 1) s : Y Z ν κ ρ) = whT c body n s' := by
  show sbn (c s) (fun b => if b = true then (fun z => match body s z with
    | .nx s' z' => whT c body n s' z'
    | .ct s' z' => whT c body n s' z'
    | .bk s' z' => .nx s' z'
    | .rt r z' => .rt r z'
    | .exc c ds z' => .exc c ds z'
    | .stuck => .stuck) else nxT s) = _
  rw [hc, sbn_ret, if_pos rfl, hb]
  rfl
theorem wh_end {c : ν → X Z Bool} {body : ν → Y Z ν ν ρ} {n : Nat} {s : ν} (hc : c s = TL.ret false) : (whT c body (n + 1) s : Y Z ν κ ρ) = nxT s := by
  show sbn (c s) (fun b => if b = true then (fun z => match body s z with
    | .nx s' z' => whT c body n s' z'
    | .ct s' z' => whT c body n s' z'
    | .bk s' z' => .nx s' z'
    | .rt r z' => .rt r z'
    | .exc c ds z' => .exc c ds z'
    | .stuck => .stuck) else nxT s) = _
  rw [hc, sbn_ret, if_neg (by decide)]
theorem flat1 (f : α → β) : ∀ xs : List α, (xs.flatMap fun t => [f t]) = xs.map f := fun xs => by
  induction xs with
  | nil => rfl
  | cons x xs ih => rw [List.flatMap_cons, ih]; rfl
theorem nod_len {l : List Int} {N : Nat} (h : l.Nodup) (hr : ∀ x ∈ l, ∃ n : Nat, x = n ∧ n < N) : l.length ≤ N := by
  have := sub_len (b := (List.range N).map fun n : Nat => (n : Int)) h fun x hx => by
    obtain ⟨n, rfl, hn⟩ := hr x hx
    exact List.mem_map.mpr ⟨n, List.mem_range.mpr hn, rfl⟩
  simpa using this
end
abbrev Game := List (List (Option (List Int)))
def optsN (g : Game) (v : Nat) : List (Option (List Int)) := g[v]?.getD []
def occO (n i : Int) (o : Option (List Int)) : List (Int × Int × Int) := (o.getD []).map fun t => (t, n, i)
def occR (n : Int) (os : List (Option (List Int))) : List (Int × Int × Int) := (enumI os).flatMap fun q => occO n q.1 q.2
def occG (g : Game) : List (Int × Int × Int) := (enumI g).flatMap fun q => occR q.1 q.2
structure GameOk (g : Game) : Prop where
  len : g.length ≤ 12000
  node : ∀ os ∈ g, ∀ ts, some ts ∈ os → ∀ t ∈ ts, 0 ≤ t ∧ t < g.length
  row : ∀ os ∈ g, os.length ≤ 100000
  opt : ∀ os ∈ g, ∀ ts, some ts ∈ os → ts.length ≤ 100000
  tot : (occG g).length < 100000
theorem check_game_is {g : Game} (h : GameOk g) : s_check_game g = TL.ret () := by
  have hl := h.len
  unfold s_check_game
  rw [if_neg (by simp only [decide_eq_true_eq]; omega), thnT_nx, forT_all (fun os hos => by
    rw [forT_all (fun o ho => by
      cases o with
      | none => rfl
      | some ts =>
        rw [if_pos (Option.isSome_some : (some ts).isSome = true)]
        show thnT (sbn (bnd (TL.ret ts) fun y2_ => TL.ret y2_) _) _ = _
        rw [bnd_ret, sbn_ret, forT_all (fun t ht => by
          have := h.node os hos ts ho t ht
          rw [sbn_chk, chkN_in (by omega)]
          rfl), thnT_nx]), thnT_nx]), thnT_nx]
  rfl
def usF (N : Nat) (d : List (Int × Int × Int)) : List (List (Int × Int)) := (List.range N).map fun v : Nat => (d.filter fun q => decide (q.1 = (v : Int))).map fun q => q.2
theorem usF_app {N v : Nat} {d : List (Int × Int × Int)} {p : Int × Int} (hv : v < N) (hd : d.length < 100000) {κ ρ : Type} : (app1T (usF N d) (v : Int) (TL.ret p) : Y Unit (List (List (Int × Int))) κ ρ) = nxT (usF N (d ++ [((v : Int), p)])) := by
  unfold usF
  rw [app1T_nat (rmap_at hv) (by
    rw [List.length_map]
    have := List.length_filter_le (fun q : Int × Int × Int => decide (q.1 = (v : Int))) d
    omega), rmap_set]
  congr 1
  apply List.map_congr_left
  intro n _
  by_cases e : n = v
  · subst e
    simp
  · rw [if_neg e]
    have : ¬((v : Int) = n) := by omega
    simp [this]
theorem users_of_is {g : Game} (h : GameOk g) : s_users_of g = TL.ret (usF g.length (occG g)) := by
  have hl := h.len
  unfold s_users_of
  have e0 : (g.map fun (b2 : List (Option (List Int))) => ([] : List (Int × Int))) = usF g.length [] := by
    unfold usF
    exact map_rmap fun i x _ => rfl
  rw [bnd_ret, grd_pos (by omega), e0, sbn_ret]
  have nd : ∀ q ∈ enumI g, q.2 ∈ g := fun q hq => by
    unfold enumI at hq
    obtain ⟨p, hp, rfl⟩ := List.mem_map.mp hq
    exact List.mem_of_getElem? (List.mem_zipIdx_iff_getElem?.mp hp)
  have nd2 : ∀ (os : List (Option (List Int))), ∀ q ∈ enumI os, q.2 ∈ os := fun os q hq => by
    unfold enumI at hq
    obtain ⟨p, hp, rfl⟩ := List.mem_map.mp hq
    exact List.mem_of_getElem? (List.mem_zipIdx_iff_getElem?.mp hp)
  have tot := h.tot
  rw [for_heap (h := fun q : Int × List (Option (List Int)) => occR q.1 q.2) (u := usF g.length) (d := []) (B := 99999) (fun q hq d hd => by
    rw [for_heap (h := fun p : Int × Option (List Int) => occO q.1 p.1 p.2) (u := usF g.length) (d := d) (B := 99999) (fun p hp d hd => by
      obtain ⟨i, o⟩ := p
      cases o with
      | none =>
        rw [if_neg (fun h => nomatch h)]
        show nxT _ = nxT (usF g.length (d ++ []))
        rw [List.append_nil]
      | some ts =>
        rw [if_pos (Option.isSome_some : (some ts).isSome = true)]
        show thnT (sbn (bnd (TL.ret ts) fun y2_ => TL.ret y2_) _) _ = _
        have hd' : d.length + ts.length ≤ 99999 := by
          have : (occO q.1 i (some ts)).length = ts.length := List.length_map ..
          rw [← this]
          exact hd
        rw [bnd_ret, sbn_ret, for_heap (h := fun t : Int => [(t, q.1, i)]) (u := usF g.length) (d := d) (B := 99999) (fun t ht d hd => by
          have b := h.node q.2 (nd q hq) ts (nd2 _ _ hp) t ht
          obtain ⟨v, rfl⟩ := Int.eq_ofNat_of_zero_le b.1
          rw [usF_app (by omega) (by rw [List.length_singleton] at hd; omega), thnT_nx]) (by
            have : (ts.flatMap fun t : Int => [(t, q.1, i)]) = occO q.1 i (some ts) := by
              show _ = ts.map _
              exact flat1 _ ts
            rw [this]
            exact hd), thnT_nx]
        have : (ts.flatMap fun t : Int => [(t, q.1, i)]) = occO q.1 i (some ts) := by
          show _ = ts.map _
          exact flat1 _ ts
        rw [this]) (by exact hd), thnT_nx]
    rfl) (by rw [List.length_nil]; show 0 + (occG g).length ≤ _; omega), thnT_nx]
  rfl
theorem enum_mem {α : Type} {l : List α} {q : Int × α} : q ∈ enumI l ↔ ∃ n : Nat, q.1 = n ∧ l[n]? = some q.2 := by
  unfold enumI
  rw [List.mem_map]
  constructor
  · rintro ⟨p, hp, rfl⟩
    exact ⟨p.2, rfl, List.mem_zipIdx_iff_getElem?.mp hp⟩
  · rintro ⟨n, e, hn⟩
    exact ⟨(q.2, n), List.mem_zipIdx_iff_getElem?.mpr hn, by rw [← e]⟩
theorem occ_mem {g : Game} {t : Int} {p : Int × Int} : (t, p) ∈ occG g ↔ ∃ n i : Nat, ∃ ts, p = ((n : Int), (i : Int)) ∧ (optsN g n)[i]? = some (some ts) ∧ t ∈ ts := by
  unfold occG occR occO
  simp only [List.mem_flatMap, List.mem_map]
  constructor
  · rintro ⟨q, hq, r, hr, x, hx, e⟩
    obtain ⟨n, e1, h1⟩ := enum_mem.mp hq
    obtain ⟨i, e2, h2⟩ := enum_mem.mp hr
    obtain ⟨rfl, rfl⟩ := Prod.mk.inj e
    obtain ⟨r1, o⟩ := r
    cases o with
    | none => exact nomatch hx
    | some ts =>
      refine ⟨n, i, ts, by rw [← e1, ← e2], ?_, hx⟩
      unfold optsN
      rw [h1]
      exact h2
  · rintro ⟨n, i, ts, rfl, h1, h2⟩
    unfold optsN at h1
    cases e : g[n]? with
    | none =>
      rw [e] at h1
      exact nomatch h1
    | some os =>
      rw [e] at h1
      exact ⟨((n : Int), os), enum_mem.mpr ⟨n, rfl, e⟩, ((i : Int), some ts), enum_mem.mpr ⟨i, rfl, h1⟩, t, h2, rfl⟩
theorem us_mem {g : Game} {v : Nat} (hv : v < g.length) : ∃ l, (usF g.length (occG g))[v]? = some l ∧ ∀ p : Int × Int, p ∈ l ↔ ∃ n i : Nat, ∃ ts, p = ((n : Int), (i : Int)) ∧ (optsN g n)[i]? = some (some ts) ∧ (v : Int) ∈ ts := by
  refine ⟨_, rmap_at hv, fun p => ?_⟩
  rw [List.mem_map]
  constructor
  · rintro ⟨q, hq, rfl⟩
    obtain ⟨h1, h2⟩ := List.mem_filter.mp hq
    have := of_decide_eq_true h2
    obtain ⟨t, q⟩ := q
    dsimp only at this ⊢
    subst this
    exact occ_mem.mp h1
  · intro h
    exact ⟨((v : Int), p), List.mem_filter.mpr ⟨occ_mem.mpr h, decide_eq_true rfl⟩, rfl⟩
def mkU (g : Game) (P : Nat → Nat → Bool) : List (List Bool) := (List.range g.length).map fun n => (List.range (optsN g n).length).map (P n)
def cnt (g : Game) (P : Nat → Nat → Bool) (n : Nat) : Nat := (List.range (optsN g n).length).countP (P n)
def mkC (g : Game) (P : Nat → Nat → Bool) : List Int := (List.range g.length).map fun n => (cnt g P n : Int)
def less (P : Nat → Nat → Bool) (d : List (Int × Int)) (n i : Nat) : Bool := P n i && !decide (((n : Int), (i : Int)) ∈ d)
theorem cnt_zero {g : Game} {P : Nat → Nat → Bool} {n : Nat} : cnt g P n = 0 ↔ ∀ i, i < (optsN g n).length → P n i = false := by
  unfold cnt
  rw [List.countP_eq_zero]
  constructor
  · intro h i hi
    have := h i (List.mem_range.mpr hi)
    simpa using this
  · intro h i hi
    rw [h i (List.mem_range.mp hi)]
    decide
theorem cnt_congr {g : Game} {P Q : Nat → Nat → Bool} {n : Nat} (h : ∀ i, i < (optsN g n).length → P n i = Q n i) : cnt g P n = cnt g Q n := by
  unfold cnt
  apply List.countP_congr
  intro i hi
  rw [h i (List.mem_range.mp hi)]
theorem countP_flip {p q : Nat → Bool} : ∀ {l : List Nat} {i : Nat}, l.Nodup → i ∈ l → p i = true → q i = false → (∀ j, j ≠ i → q j = p j) → l.countP p = l.countP q + 1
  | [], i, _, hi, _, _, _ => nomatch hi
  | x :: l, i, hn, hi, hp, hq, h => by
    obtain ⟨h1, h2⟩ := List.nodup_cons.mp hn
    rcases List.mem_cons.mp hi with rfl | hi
    · rw [List.countP_cons_of_pos hp, List.countP_cons_of_neg (by rw [hq]; decide)]
      congr 1
      apply List.countP_congr
      intro j hj
      rw [h j fun e => h1 (e ▸ hj)]
    · have := countP_flip h2 hi hp hq h
      have e := h x fun e => h1 (e ▸ hi)
      rw [List.countP_cons, List.countP_cons, e]
      omega
theorem cnt_flip {g : Game} {P Q : Nat → Nat → Bool} {n i : Nat} (hi : i < (optsN g n).length) (hp : P n i = true) (hq : Q n i = false) (h : ∀ j, j ≠ i → Q n j = P n j) : cnt g P n = cnt g Q n + 1 :=
  countP_flip List.nodup_range (List.mem_range.mpr hi) hp hq h
theorem less_nil (P : Nat → Nat → Bool) : less P [] = P := by
  funext n i
  unfold less
  simp
def gone (g : Game) (P Q : Nat → Nat → Bool) (x : Int) : Prop := ∃ n : Nat, x = n ∧ n < g.length ∧ cnt g P n ≠ 0 ∧ cnt g Q n = 0
theorem fail_options_is {g : Game} (h : GameOk g) {P : Nat → Nat → Bool} {l : List (Int × Int)} (hl : ∀ p ∈ l, ∃ n i : Nat, p = ((n : Int), (i : Int)) ∧ n < g.length ∧ i < (optsN g n).length) : ∃ w, s_fail_options l (mkU g P) (mkC g P) = TL.ret (w, mkU g (less P l), mkC g (less P l)) ∧ w.Nodup ∧ (∀ x, x ∈ w ↔ gone g P (less P l) x) := by
  have hg := h.len
  unfold s_fail_options
  obtain ⟨s', e, h1⟩ := for_ex (Z := Unit) (κ := Empty) (ρ := Empty) (xs := l) (body := fun (b3 : (Int × Int)) (s2 : ((List (List Bool)) × (List Int) × (List Int))) => (sbn (bnd (ixX s2.1 b3.1) fun y1_ => (ixX y1_ b3.2)) fun b => if b = true then
    (thnT (sbn (TL.ret false) fun x => at1T s2.1 b3.1 (set1 b3.2 x))
    fun (l4 : List (List Bool)) => (thnT (aug0T (fun i j => i - j) s2.2.1 b3.1 (1 : Int))
    fun (l5 : List Int) => (sbn (bnd (ixX l5 b3.1) fun y2_ => (TL.ret (decide (y2_ = (0 : Int))))) fun b => if b = true then
    (thnT (appT s2.2.2 b3.1)
    fun (l6 : List Int) => (nxT (l4, l5, l6)))
    else (nxT (l4, l5, s2.2.2)))))
    else (nxT (s2.1, s2.2.1, s2.2.2)))) (fun d s => ∃ w, s = (mkU g (less P d), mkC g (less P d), w) ∧ w.Nodup ∧ ∀ x, x ∈ w ↔ gone g P (less P d) x) (fun d p r s el hi => by
      obtain ⟨w, rfl, nw, hw⟩ := hi
      obtain ⟨n, i, rfl, hn, hi⟩ := hl p (by rw [el]; simp)
      have hU : (mkU g (less P d))[n]? = some ((List.range (optsN g n).length).map (less P d n)) := rmap_at hn
      have hr : ((List.range (optsN g n).length).map (less P d n))[i]? = some (less P d n i) := rmap_at hi
      have hC : (mkC g (less P d))[n]? = some (cnt g (less P d) n : Int) := rmap_at hn
      have other : ∀ m j, ¬(m = n ∧ j = i) → less P (d ++ [((n : Int), (i : Int))]) m j = less P d m j := fun m j hm => by
        have : ¬(((m : Int), (j : Int)) = ((n : Int), (i : Int))) := fun e => hm (by
          have := Prod.mk.inj e
          exact ⟨by omega, by omega⟩)
        unfold less
        simp only [List.mem_append, List.mem_singleton, this, or_false]
      have here : less P (d ++ [((n : Int), (i : Int))]) n i = false := by
        unfold less
        simp
      dsimp only
      rw [ixX_nat hU, bnd_ret, ixX_nat hr, sbn_ret]
      by_cases c : less P d n i = true
      · rw [if_pos c, sbn_ret, at1T_nat hU (set1_nat (by simpa using hi) _), thnT_nx, aug0T_nat hC, thnT_nx]
        have eU : (mkU g (less P d)).set n (((List.range (optsN g n).length).map (less P d n)).set i false) = mkU g (less P (d ++ [((n : Int), (i : Int))])) := by
          unfold mkU
          rw [rmap_set, rmap_set]
          apply List.map_congr_left
          intro m _
          by_cases em : m = n
          · subst em
            rw [if_pos rfl]
            apply List.map_congr_left
            intro j _
            by_cases ej : j = i
            · subst ej
              rw [if_pos rfl, here]
            · rw [if_neg ej, other _ _ fun e => ej e.2]
          · rw [if_neg em]
            apply List.map_congr_left
            intro j _
            rw [other _ _ fun e => em e.1]
        have fl := cnt_flip (g := g) hi c here fun j hj => other n j fun e => hj e.2
        have oc : ∀ m, m ≠ n → cnt g (less P (d ++ [((n : Int), (i : Int))])) m = cnt g (less P d) m := fun m hm => cnt_congr fun j _ => other m j fun e => hm e.1
        have eC : (mkC g (less P d)).set n ((cnt g (less P d) n : Int) - 1) = mkC g (less P (d ++ [((n : Int), (i : Int))])) := by
          unfold mkC
          rw [rmap_set]
          apply List.map_congr_left
          intro m _
          by_cases em : m = n
          · subst em
            rw [if_pos rfl, fl]
            omega
          · rw [if_neg em, oc m em]
        rw [eU, eC, ixX_nat (show (mkC g (less P (d ++ [((n : Int), (i : Int))])))[n]? = some (cnt g (less P (d ++ [((n : Int), (i : Int))])) n : Int) from rmap_at hn), bnd_ret, sbn_ret]
        have pn : cnt g P n ≠ 0 := fun z => by
          have := cnt_zero.mp z i hi
          unfold less at c
          rw [this] at c
          exact absurd c (by simp)
        by_cases z : cnt g (less P (d ++ [((n : Int), (i : Int))])) n = 0
        · have nin : (n : Int) ∉ w := fun hm => by
            obtain ⟨m, e, _, _, hz⟩ := (hw _).mp hm
            have : m = n := by omega
            subst this
            omega
          have wl := nod_len nw fun x hx => by
            obtain ⟨m, e, hm, _⟩ := (hw x).mp hx
            exact ⟨m, e, hm⟩
          rw [if_pos (by rw [z]; decide), appT_ok (by omega), thnT_nx]
          refine ⟨_, rfl, w ++ [(n : Int)], rfl, ?_, fun x => ?_⟩
          · rw [List.nodup_append]
            refine ⟨nw, by simp, fun a ha b hb => ?_⟩
            rw [List.mem_singleton] at hb
            subst hb
            exact fun e => nin (e ▸ ha)
          · rw [List.mem_append, List.mem_singleton, hw]
            constructor
            · rintro (⟨m, e, hm, h1, h2⟩ | rfl)
              · refine ⟨m, e, hm, h1, ?_⟩
                by_cases em : m = n
                · subst em
                  exact z
                · rw [oc m em]
                  exact h2
              · exact ⟨n, rfl, hn, pn, z⟩
            · rintro ⟨m, e, hm, h1, h2⟩
              by_cases em : m = n
              · subst em
                exact Or.inr e
              · rw [oc m em] at h2
                exact Or.inl ⟨m, e, hm, h1, h2⟩
        · rw [if_neg (by
            simp only [decide_eq_true_eq]
            omega)]
          refine ⟨_, rfl, w, rfl, nw, fun x => ?_⟩
          rw [hw]
          constructor
          · rintro ⟨m, e, hm, h1, h2⟩
            by_cases em : m = n
            · subst em
              exact absurd h2 (by omega)
            · exact ⟨m, e, hm, h1, by rw [oc m em]; exact h2⟩
          · rintro ⟨m, e, hm, h1, h2⟩
            by_cases em : m = n
            · subst em
              exact absurd h2 z
            · rw [oc m em] at h2
              exact ⟨m, e, hm, h1, h2⟩
      · rw [if_neg c]
        have eL : less P (d ++ [((n : Int), (i : Int))]) = less P d := by
          funext m j
          by_cases e : m = n ∧ j = i
          · obtain ⟨rfl, rfl⟩ := e
            rw [here]
            exact (Bool.eq_false_iff.mpr c).symm
          · exact other m j e
        rw [eL]
        exact ⟨_, rfl, w, rfl, nw, hw⟩) (s := (mkU g P, mkC g P, ([] : List Int))) ⟨[], by rw [less_nil], List.nodup_nil, fun x => ⟨fun h => (nomatch h), fun ⟨n, e, hn, h1, h2⟩ => absurd (by rw [less_nil] at h2; exact h2) h1⟩⟩
  obtain ⟨w, rfl, nw, hw⟩ := h1
  rw [sbn_ret]
  rw [e, thnT_nx, fnTT_nx]
  exact ⟨w, rfl, nw, hw⟩
def usP (g : Game) (F : Nat → Int) (n i : Nat) : Bool := match (optsN g n)[i]? with
  | some (some ts) => ts.all fun t => decide (F t.toNat = 0)
  | _ => false
def mkF (g : Game) (F : Nat → Int) : List Int := (List.range g.length).map F
def upd (F : Nat → Int) (W : List Int) (r : Int) (n : Nat) : Int := if (n : Int) ∈ W then r else F n
theorem opts_lt {g : Game} {n i : Nat} {o : Option (List Int)} (h : (optsN g n)[i]? = some o) : n < g.length ∧ i < (optsN g n).length := by
  refine ⟨?_, (List.getElem?_eq_some_iff.mp h).1⟩
  by_cases c : n < g.length
  · exact c
  · exfalso
    unfold optsN at h
    have e : g[n]? = none := List.getElem?_eq_none (by omega)
    rw [e] at h
    simp at h
theorem GameOk.tgt {g : Game} (h : GameOk g) {n i : Nat} {ts : List Int} (e : (optsN g n)[i]? = some (some ts)) {t : Int} (ht : t ∈ ts) : 0 ≤ t ∧ t < g.length := by
  have hn := (opts_lt e).1
  unfold optsN at e
  rw [List.getElem?_eq_getElem hn] at e
  exact h.node _ (List.getElem_mem hn) ts (List.mem_of_getElem? e) t ht
theorem usP_less {g : Game} (h : GameOk g) {F : Nat → Int} {d : List Int} {r : Int} (hr : r ≠ 0) {v : Nat} {l : List (Int × Int)} (hl : ∀ p : Int × Int, p ∈ l ↔ ∃ n i : Nat, ∃ ts, p = ((n : Int), (i : Int)) ∧ (optsN g n)[i]? = some (some ts) ∧ (v : Int) ∈ ts) :
    less (usP g (upd F d r)) l = usP g (upd F (d ++ [(v : Int)]) r) := by
  funext n i
  unfold less usP
  cases e : (optsN g n)[i]? with
  | none => rfl
  | some o =>
    cases o with
    | none => rfl
    | some ts =>
      have m : ((n : Int), (i : Int)) ∈ l ↔ (v : Int) ∈ ts := by
        rw [hl]
        constructor
        · rintro ⟨n', i', ts', e1, e2, e3⟩
          have e1 := Prod.mk.inj e1
          have a : n' = n := by omega
          have b : i' = i := by omega
          subst a
          subst b
          rw [e] at e2
          have := Option.some.inj (Option.some.inj e2)
          subst this
          exact e3
        · intro hv
          exact ⟨n, i, ts, rfl, e, hv⟩
      have w : (ts.all fun t => decide (upd F (d ++ [(v : Int)]) r t.toNat = 0)) = ((ts.all fun t => decide (upd F d r t.toNat = 0)) && !decide ((v : Int) ∈ ts)) := by
        apply Bool.eq_iff_iff.mpr
        simp only [List.all_eq_true, decide_eq_true_eq, Bool.and_eq_true, Bool.not_eq_true', decide_eq_false_iff_not]
        unfold upd
        simp only [List.mem_append, List.mem_singleton]
        constructor
        · intro hh
          refine ⟨fun t ht => ?_, fun hv => ?_⟩
          · have := hh t ht
            by_cases c : ((t.toNat : Nat) : Int) ∈ d
            · rw [if_pos (Or.inl c)] at this
              exact absurd this hr
            · rw [if_neg c]
              by_cases c2 : ((t.toNat : Nat) : Int) = v
              · rw [if_pos (Or.inr c2)] at this
                exact absurd this hr
              · rw [if_neg (fun z => z.elim c c2)] at this
                exact this
          · have := hh _ hv
            rw [if_pos (Or.inr (by omega))] at this
            exact hr this
        · rintro ⟨h1, h2⟩ t ht
          have := h1 t ht
          have b := h.tgt e ht
          by_cases c : ((t.toNat : Nat) : Int) ∈ d
          · rw [if_pos c] at this
            exact absurd this hr
          · rw [if_neg c] at this
            rw [if_neg (fun z => z.elim c fun z => h2 (by
              have : t = (v : Int) := by omega
              rw [← this]
              exact ht))]
            exact this
      show ((ts.all fun t => decide (upd F d r t.toNat = 0)) && !decide (((n : Int), (i : Int)) ∈ l)) = _
      rw [show decide (((n : Int), (i : Int)) ∈ l) = decide ((v : Int) ∈ ts) from by
        apply Bool.eq_iff_iff.mpr
        simp only [decide_eq_true_eq]
        exact m, ← w]
theorem usP_mono {g : Game} {F : Nat → Int} {d e : List Int} {r : Int} (hr : r ≠ 0) (h : ∀ x ∈ d, x ∈ e) {n i : Nat} (u : usP g (upd F e r) n i = true) : usP g (upd F d r) n i = true := by
  unfold usP at u ⊢
  cases eo : (optsN g n)[i]? with
  | none =>
    rw [eo] at u
    exact u
  | some o =>
    rw [eo] at u
    cases o with
    | none => exact u
    | some ts =>
      dsimp only at u ⊢
      rw [List.all_eq_true] at u ⊢
      intro t ht
      have := of_decide_eq_true (u t ht)
      apply decide_eq_true
      unfold upd at this ⊢
      by_cases c : ((t.toNat : Nat) : Int) ∈ e
      · rw [if_pos c] at this
        exact absurd this hr
      · rw [if_neg c] at this
        rw [if_neg fun z => c (h _ z)]
        exact this
theorem upd_nil (F : Nat → Int) (r : Int) : upd F [] r = F := by
  funext n
  unfold upd
  rw [if_neg (fun h => nomatch h)]
abbrev LayS := List (List Bool) × List Int × List Int × List Int
abbrev RnkS := List (List Bool) × List Int × List Int × List Int × Int
theorem layer_is {g : Game} (h : GameOk g) {F : Nat → Int} {W : List Int} {r : Int} (hr : r ≠ 0) (hW : ∀ x ∈ W, ∃ n : Nat, x = n ∧ n < g.length) {κ ρ : Type} : ∃ w, (forT (fun (b16 : Int) (s15 : LayS) => (thnT (sbn (TL.ret r) fun x => setT s15.2.2.1 b16 x)
    fun (l17 : List Int) => (thnT (extT s15.2.2.2 (bnd (clm (ixX (usF g.length (occG g)) b16)) fun y6_ => (TP.s_fail_options y6_ s15.1 s15.2.1)))
    fun (s18 : List Int × ((List (List Bool)) × (List Int))) => (nxT (s18.2.1, s18.2.2, l17, s18.1))))) W (mkU g (usP g F), mkC g (usP g F), mkF g F, []) : Y Unit LayS κ ρ) = nxT (mkU g (usP g (upd F W r)), mkC g (usP g (upd F W r)), mkF g (upd F W r), w) ∧ w.Nodup ∧ ∀ x, x ∈ w ↔ gone g (usP g F) (usP g (upd F W r)) x := by
  have hg := h.len
  obtain ⟨s', e, w, rfl, nw, hw⟩ := for_ex (Z := Unit) (κ := κ) (ρ := ρ) (xs := W) (body := fun (b16 : Int) (s15 : LayS) => (thnT (sbn (TL.ret r) fun x => setT s15.2.2.1 b16 x)
    fun (l17 : List Int) => (thnT (extT s15.2.2.2 (bnd (clm (ixX (usF g.length (occG g)) b16)) fun y6_ => (TP.s_fail_options y6_ s15.1 s15.2.1)))
    fun (s18 : List Int × ((List (List Bool)) × (List Int))) => (nxT (s18.2.1, s18.2.2, l17, s18.1))))) (fun d s => ∃ w, s = (mkU g (usP g (upd F d r)), mkC g (usP g (upd F d r)), mkF g (upd F d r), w) ∧ w.Nodup ∧ ∀ x, x ∈ w ↔ gone g (usP g F) (usP g (upd F d r)) x) (fun d x t s el hi => by
      obtain ⟨w, rfl, nw, hw⟩ := hi
      obtain ⟨v, rfl, hv⟩ := hW x (by rw [el]; simp)
      obtain ⟨l, hl, ml⟩ := us_mem hv
      have ul := usP_less h (F := F) (d := d) hr ml
      obtain ⟨w2, e2, nw2, hw2⟩ := fail_options_is h (P := usP g (upd F d r)) (l := l) fun p hp => by
        obtain ⟨n, i, ts, e1, e2, _⟩ := (ml p).mp hp
        exact ⟨n, i, e1, opts_lt e2⟩
      rw [ul] at e2 hw2
      have wl := nod_len nw fun x hx => by
        obtain ⟨m, e, hm, _⟩ := (hw x).mp hx
        exact ⟨m, e, hm⟩
      have wl2 := nod_len nw2 fun x hx => by
        obtain ⟨m, e, hm, _⟩ := (hw2 x).mp hx
        exact ⟨m, e, hm⟩
      dsimp only
      rw [sbn_ret, setT_nat (by unfold mkF; simpa using hv), thnT_nx, ixX_nat hl, clm_ret, bnd_ret, e2]
      have ex : (extT w (TL.ret (w2, mkU g (usP g (upd F (d ++ [(v : Int)]) r)), mkC g (usP g (upd F (d ++ [(v : Int)]) r)))) : Y Unit (List Int × List (List Bool) × List Int) LayS ρ) = nxT (w ++ w2, mkU g (usP g (upd F (d ++ [(v : Int)]) r)), mkC g (usP g (upd F (d ++ [(v : Int)]) r))) := by
        unfold extT
        rw [sbn_ret, if_pos ⟨by omega, by show w2.length < _; omega⟩]
      rw [ex, thnT_nx]
      have eF : (mkF g (upd F d r)).set v r = mkF g (upd F (d ++ [(v : Int)]) r) := by
        unfold mkF
        rw [rmap_set]
        apply List.map_congr_left
        intro n _
        unfold upd
        by_cases c : n = v
        · subst c
          rw [if_pos rfl, if_pos (by simp)]
        · rw [if_neg c]
          have : ¬((n : Int) = v) := by omega
          simp only [List.mem_append, List.mem_singleton, this, or_false]
      rw [eF]
      have mono : ∀ n, cnt g (usP g (upd F d r)) n = 0 → cnt g (usP g (upd F (d ++ [(v : Int)]) r)) n = 0 := fun n hz => by
        rw [cnt_zero] at hz ⊢
        intro i hi
        have := hz i hi
        cases c : usP g (upd F (d ++ [(v : Int)]) r) n i with
        | false => rfl
        | true =>
          have := usP_mono hr (d := d) (fun x hx => List.mem_append_left _ hx) c
          simp_all
      have mono0 : ∀ n, cnt g (usP g F) n = 0 → cnt g (usP g (upd F d r)) n = 0 := fun n hz => by
        rw [cnt_zero] at hz ⊢
        intro i hi
        have := hz i hi
        cases c : usP g (upd F d r) n i with
        | false => rfl
        | true =>
          have := usP_mono (e := d) hr (d := []) (fun x hx => nomatch hx) c
          rw [upd_nil] at this
          simp_all
      refine ⟨_, rfl, w ++ w2, rfl, ?_, fun x => ?_⟩
      · rw [List.nodup_append]
        refine ⟨nw, nw2, fun a ha b hb => ?_⟩
        rintro rfl
        obtain ⟨m, e, _, _, z⟩ := (hw a).mp ha
        obtain ⟨m', e', _, nz, _⟩ := (hw2 a).mp hb
        have : m = m' := by omega
        subst this
        exact nz z
      · rw [List.mem_append, hw, hw2]
        constructor
        · rintro (⟨n, e, hn, h1, h2⟩ | ⟨n, e, hn, h1, h2⟩)
          · exact ⟨n, e, hn, h1, mono n h2⟩
          · exact ⟨n, e, hn, fun z => h1 (mono0 n z), h2⟩
        · rintro ⟨n, e, hn, h1, h2⟩
          by_cases c : cnt g (usP g (upd F d r)) n = 0
          · exact Or.inl ⟨n, e, hn, h1, c⟩
          · exact Or.inr ⟨n, e, hn, c, h2⟩) (s := (mkU g (usP g F), mkC g (usP g F), mkF g F, ([] : List Int))) ⟨[], by rw [upd_nil], List.nodup_nil, fun x => ⟨fun h => (nomatch h), fun ⟨n, e, hn, h1, h2⟩ => absurd (by rw [upd_nil] at h2; exact h2) h1⟩⟩
  exact ⟨w, e, nw, hw⟩
def lostN (g : Game) : Nat → Nat → Prop
  | 0, _ => False
  | r + 1, v => ∀ ts, some ts ∈ optsN g v → ∃ t ∈ ts, lostN g r t.toNat
theorem lost_mono {g : Game} : ∀ {r v : Nat}, lostN g r v → lostN g (r + 1) v
  | 0, v, h => h.elim
  | r + 1, v, h => fun ts hts => by
    obtain ⟨t, ht, hl⟩ := h ts hts
    exact ⟨t, ht, lost_mono hl⟩
theorem lost_le {g : Game} {r k v : Nat} (h : r ≤ k) (hl : lostN g r v) : lostN g k v := by
  induction h with
  | refl => exact hl
  | step _ ih => exact lost_mono ih
structure Rk (g : Game) (F : List Int) : Prop where
  len : F.length = g.length
  nn : ∀ x ∈ F, 0 ≤ x
  iff : ∀ (v : Nat) x, F[v]? = some x → ∀ r : Nat, (0 < x ∧ x ≤ r) ↔ lostN g r v
structure Rnd (g : Game) (r : Nat) (F : Nat → Int) : Prop where
  rng : ∀ v, v < g.length → 0 ≤ F v ∧ F v ≤ r
  iff : ∀ v, v < g.length → ∀ k : Nat, k ≤ r → ((0 < F v ∧ F v ≤ k) ↔ lostN g k v)
theorem Rnd.nz {g : Game} {r : Nat} {F : Nat → Int} (h : Rnd g r F) {v : Nat} (hv : v < g.length) : F v ≠ 0 ↔ lostN g r v := by
  have a := h.rng v hv
  rw [← h.iff v hv r (Nat.le_refl _)]
  omega
theorem Rnd.zero {g : Game} (ok : GameOk g) {r : Nat} {F : Nat → Int} (h : Rnd g r F) {n : Nat} (hn : n < g.length) : cnt g (usP g F) n = 0 ↔ lostN g (r + 1) n := by
  rw [cnt_zero]
  constructor
  · intro hz ts hts
    obtain ⟨i, hi⟩ := List.getElem?_of_mem hts
    have := hz i (opts_lt hi).2
    unfold usP at this
    rw [hi] at this
    dsimp only at this
    rw [List.all_eq_false] at this
    obtain ⟨t, ht, hx⟩ := this
    have b := ok.tgt hi ht
    refine ⟨t, ht, (h.nz (by omega)).mp fun z => hx (decide_eq_true z)⟩
  · intro hl i hi
    unfold usP
    cases e : (optsN g n)[i]? with
    | none => rfl
    | some o =>
      cases o with
      | none => rfl
      | some ts =>
        dsimp only
        obtain ⟨t, ht, hx⟩ := hl ts (List.mem_of_getElem? e)
        have b := ok.tgt e ht
        rw [List.all_eq_false]
        exact ⟨t, ht, fun z => (h.nz (by omega)).mpr hx (of_decide_eq_true z)⟩
theorem Rnd.next {g : Game} (ok : GameOk g) {r : Nat} {F : Nat → Int} (h : Rnd g r F) {W : List Int} (hW : ∀ n : Nat, n < g.length → ((n : Int) ∈ W ↔ F n = 0 ∧ cnt g (usP g F) n = 0)) : Rnd g (r + 1) (upd F W ((r : Int) + 1)) where
  rng v hv := by
    have := h.rng v hv
    unfold upd
    by_cases c : (v : Int) ∈ W
    · rw [if_pos c]
      omega
    · rw [if_neg c]
      omega
  iff v hv k hk := by
    have a := h.rng v hv
    have b := hW v hv
    rw [h.zero ok hv] at b
    unfold upd
    by_cases c : (v : Int) ∈ W
    · rw [if_pos c]
      obtain ⟨c1, c2⟩ := b.mp c
      by_cases e : k = r + 1
      · subst e
        exact ⟨fun _ => c2, fun _ => by omega⟩
      · constructor
        · intro z
          omega
        · intro z
          have := (h.nz hv).mpr (lost_le (by omega) z)
          exact absurd c1 this
    · rw [if_neg c]
      by_cases e : k = r + 1
      · subst e
        constructor
        · intro z
          exact lost_mono ((h.iff v hv r (Nat.le_refl _)).mp ⟨z.1, a.2⟩)
        · intro z
          have : F v ≠ 0 := fun e => c (b.mpr ⟨e, z⟩)
          omega
      · exact h.iff v hv k (by omega)
theorem Rnd.done {g : Game} (ok : GameOk g) {r : Nat} {F : Nat → Int} (h : Rnd g r F) (hW : ∀ n : Nat, n < g.length → ¬(F n = 0 ∧ cnt g (usP g F) n = 0)) : Rk g (mkF g F) := by
  have st : ∀ k v, v < g.length → lostN g k v → lostN g r v := by
    intro k
    induction k with
    | zero => exact fun v _ z => z.elim
    | succ k ih =>
      intro v hv z
      have z1 : lostN g (r + 1) v := fun ts hts => by
        obtain ⟨t, ht, hl⟩ := z ts hts
        obtain ⟨i, hi⟩ := List.getElem?_of_mem hts
        have b := ok.tgt hi ht
        exact ⟨t, ht, ih _ (by omega) hl⟩
      have := hW v hv
      rw [h.zero ok hv] at this
      exact (h.nz hv).mp fun e => this ⟨e, z1⟩
  refine ⟨by unfold mkF; simp, fun x hx => ?_, fun v x hv k => ?_⟩
  · obtain ⟨n, hn, rfl⟩ := List.mem_map.mp hx
    exact (h.rng n (List.mem_range.mp hn)).1
  · have lv : v < g.length := by
      have := (List.getElem?_eq_some_iff.mp hv).1
      unfold mkF at this
      simpa using this
    have e : (mkF g F)[v]? = some (F v) := rmap_at lv
    rw [e] at hv
    have := Option.some.inj hv
    subst this
    have a := h.rng v lv
    by_cases c : k ≤ r
    · exact h.iff v lv k c
    · constructor
      · intro z
        exact lost_le (by omega) ((h.iff v lv r (Nat.le_refl _)).mp ⟨z.1, a.2⟩)
      · intro z
        have := (h.iff v lv r (Nat.le_refl _)).mpr (st k v lv z)
        exact ⟨this.1, by omega⟩
theorem rounds {g : Game} (ok : GameOk g) {body : RnkS → Y Unit RnkS RnkS (List Int)} (hb : ∀ (F : Nat → Int) (W : List Int) (r : Nat), (∀ x ∈ W, ∃ n : Nat, x = n ∧ n < g.length) → ∃ w, body (mkU g (usP g F), mkC g (usP g F), mkF g F, W, (r : Int)) = nxT (mkU g (usP g (upd F W ((r : Int) + 1))), mkC g (usP g (upd F W ((r : Int) + 1))), mkF g (upd F W ((r : Int) + 1)), w, ((r + 1 : Nat) : Int)) ∧ ∀ x, x ∈ w ↔ gone g (usP g F) (usP g (upd F W ((r : Int) + 1))) x) :
    ∀ (fuel r : Nat) (F : Nat → Int) (W : List Int), Rnd g r F → (∀ x ∈ W, ∃ n : Nat, x = n ∧ n < g.length) → (∀ n : Nat, n < g.length → ((n : Int) ∈ W ↔ F n = 0 ∧ cnt g (usP g F) n = 0)) → (List.range g.length).countP (fun n => decide (F n = 0)) < fuel →
    ∃ s', (whT (fun s12 : RnkS => TL.ret (!s12.2.2.2.1.isEmpty)) body fuel (mkU g (usP g F), mkC g (usP g F), mkF g F, W, (r : Int)) : Y Unit RnkS Empty (List Int)) = nxT s' ∧ Rk g s'.2.2.1
  | 0, r, F, W, _, _, _, hf => absurd hf (Nat.not_lt_zero _)
  | fuel + 1, r, F, W, h, hr, hW, hf => by
    cases W with
    | nil =>
      exact ⟨_, wh_end rfl, h.done ok fun n hn z => nomatch (hW n hn).mpr z⟩
    | cons x W =>
      obtain ⟨w, e, hw⟩ := hb F (x :: W) r hr
      have e2 := wh_go (c := fun s12 : RnkS => (TL.ret (!s12.2.2.2.1.isEmpty) : X Unit Bool)) (κ := Empty) (n := fuel) (by rfl) e
      rw [e2]
      have h2 := h.next ok hW
      refine rounds ok hb fuel (r + 1) _ w h2 (fun y hy => by
        obtain ⟨n, e, hn, _⟩ := (hw y).mp hy
        exact ⟨n, e, hn⟩) (fun n hn => ?_) ?_
      · rw [hw]
        constructor
        · rintro ⟨m, em, hm, h1, h3⟩
          have : m = n := by omega
          subst this
          refine ⟨?_, h3⟩
          unfold upd
          rw [if_neg fun z => h1 ((hW m hn).mp z).2]
          by_cases c : F m = 0
          · exact c
          · exact absurd ((h.zero ok hn).mpr (lost_mono ((h.nz hn).mp c))) h1
        · rintro ⟨z, h3⟩
          unfold upd at z
          by_cases c : (n : Int) ∈ x :: W
          · rw [if_pos c] at z
            omega
          · rw [if_neg c] at z
            exact ⟨n, rfl, hn, fun z2 => c ((hW n hn).mpr ⟨z, z2⟩), h3⟩
      · obtain ⟨n, rfl, hn⟩ := hr x List.mem_cons_self
        have fx := ((hW n hn).mp List.mem_cons_self).1
        have lt : (List.range g.length).countP (fun m => decide (upd F ((n : Int) :: W) ((r : Int) + 1) m = 0)) < (List.range g.length).countP (fun m => decide (F m = 0)) := by
          have l1 : (List.range g.length).countP (fun m => decide (upd F ((n : Int) :: W) ((r : Int) + 1) m = 0)) ≤ (List.range g.length).countP (fun m => decide (F m = 0) && !decide (m = n)) := by
            apply List.countP_mono_left
            intro m hm q
            have q := of_decide_eq_true q
            unfold upd at q
            by_cases c : (m : Int) ∈ (n : Int) :: W
            · rw [if_pos c] at q
              omega
            · rw [if_neg c] at q
              have : m ≠ n := fun e => c (by rw [e]; exact List.mem_cons_self)
              simp [q, this]
          have l2 := countP_flip (p := fun m => decide (F m = 0)) (q := fun m => decide (F m = 0) && !decide (m = n)) (l := List.range g.length) (i := n) List.nodup_range (List.mem_range.mpr hn) (decide_eq_true fx) (by simp) (fun j hj => by simp [hj])
          omega
        omega
theorem usP_0 {g : Game} {n i : Nat} {o : Option (List Int)} (h : (optsN g n)[i]? = some o) : usP g (fun _ => 0) n i = o.isSome := by
  unfold usP
  rw [h]
  cases o with
  | none => rfl
  | some ts =>
    show (ts.all fun t => decide ((0 : Int) = 0)) = true
    simp
theorem ranks_is {g : Game} (h : GameOk g) : ∃ F, s_ranks g = TL.ret F ∧ Rk g F := by
  have hl := h.len
  unfold s_ranks
  have eU : (bnd (TL.ret g) fun l2_ => grd (l2_.length ≤ 100000) (mapX (fun (b3 : (List (Option (List Int)))) => (bnd (TL.ret (b3)) fun l1_ => grd (l1_.length ≤ 100000) (TL.ret (l1_.map fun (b4 : (Option (List Int))) => b4.isSome)))) l2_) : X Unit (List (List Bool))) = TL.ret (mkU g (usP g fun _ => 0)) := by
    rw [bnd_ret, grd_pos (by omega), mapX_all (g := fun os : List (Option (List Int)) => os.map Option.isSome) fun os hos => by rw [bnd_ret, grd_pos (h.row os hos)]]
    congr 1
    unfold mkU
    refine map_rmap fun n os hn => ?_
    have eo : optsN g n = os := by
      unfold optsN
      rw [hn]
      rfl
    rw [eo]
    refine map_rmap fun i o hi => ?_
    rw [usP_0 (by rw [eo]; exact hi)]
  have lU : (mkU g (usP g fun _ => 0)).length = g.length := by unfold mkU; simp
  have eC : (mkU g (usP g fun _ => 0)).map (fun b6 : List Bool => ((b6.count true : Nat) : Int)) = mkC g (usP g fun _ => 0) := by
    unfold mkU mkC
    rw [List.map_map]
    apply List.map_congr_left
    intro n _
    show ((List.count true ((List.range (optsN g n).length).map (usP g (fun _ => 0) n)) : Nat) : Int) = _
    unfold cnt
    rw [List.count_eq_countP, List.countP_map]
    congr 1
    apply List.countP_congr
    intro i _
    simp
  have eF : (g.map fun (b8 : List (Option (List Int))) => (0 : Int)) = mkF g fun _ => 0 := map_rmap fun i x _ => rfl
  have lC : (mkC g (usP g fun _ => 0)).length = g.length := by unfold mkC; simp
  rw [check_game_is h, sbn_ret, users_of_is h, sbn_ret, eU, sbn_ret, bnd_ret, grd_pos (by omega), eC, sbn_ret, bnd_ret, grd_pos (by omega), eF, sbn_ret, bnd_ret, grd_pos (by rw [enum_len]; omega), sbn_ret]
  dsimp only
  have W0 : ∀ x, x ∈ ((enumI (mkC g (usP g fun _ => 0))).filter fun b10 : Int × Int => decide (b10.2 = (0 : Int))).map (fun b10 : Int × Int => b10.1) ↔ ∃ n : Nat, x = n ∧ n < g.length ∧ cnt g (usP g fun _ => 0) n = 0 := fun x => by
    rw [List.mem_map]
    constructor
    · rintro ⟨p, hp, rfl⟩
      obtain ⟨hp, hz⟩ := List.mem_filter.mp hp
      obtain ⟨n, e, hn⟩ := enum_mem.mp hp
      have ln : n < g.length := by
        have := (List.getElem?_eq_some_iff.mp hn).1
        omega
      have e2 : (mkC g (usP g fun _ => 0))[n]? = some (cnt g (usP g fun _ => 0) n : Int) := rmap_at ln
      rw [e2] at hn
      have e3 := Option.some.inj hn
      have := of_decide_eq_true hz
      exact ⟨n, e, ln, by omega⟩
    · rintro ⟨n, rfl, hn, hz⟩
      have e2 : (mkC g (usP g fun _ => 0))[n]? = some (cnt g (usP g fun _ => 0) n : Int) := rmap_at hn
      exact ⟨((n : Int), (cnt g (usP g fun _ => 0) n : Int)), List.mem_filter.mpr ⟨enum_mem.mpr ⟨n, rfl, e2⟩, by rw [hz]; rfl⟩, rfl⟩
  obtain ⟨s', e, hk⟩ := rounds h (body := fun (s12 : RnkS) => (let v13 : Int := (s12.2.2.2.2 + (1 : Int))
    (sbn (TL.ret ([] : List Int))
    fun (l14 : List Int) => (thnT (forT (fun (b16 : Int) (s15 : LayS) => (thnT (sbn (TL.ret v13) fun x => setT s15.2.2.1 b16 x)
    fun (l17 : List Int) => (thnT (extT s15.2.2.2 (bnd (clm (ixX (usF g.length (occG g)) b16)) fun y6_ => (TP.s_fail_options y6_ s15.1 s15.2.1)))
    fun (s18 : List Int × ((List (List Bool)) × (List Int))) => (nxT (s18.2.1, s18.2.2, l17, s18.1))))) (s12.2.2.2.1) (s12.1, s12.2.1, s12.2.2.1, l14))
    fun (s15 : LayS) => (sbn (TL.ret s15.2.2.2)
    fun (v19 : (List Int)) => (nxT (s15.1, s15.2.1, s15.2.2.1, v19, v13))))))) (fun F W r hr => by
      obtain ⟨w, e, nw, hw⟩ := layer_is h (F := F) (W := W) (r := (r : Int) + 1) (κ := RnkS) (ρ := List Int) (by omega) hr
      refine ⟨w, ?_, hw⟩
      dsimp only
      rw [sbn_ret, e, thnT_nx]
      rfl) 100000 0 (fun _ => 0) _ ⟨fun v _ => by omega, fun v _ k hk => by
        have : k = 0 := by omega
        subst this
        exact ⟨fun z => by omega, fun z => z.elim⟩⟩ (fun x hx => by
        obtain ⟨n, e, hn, _⟩ := (W0 x).mp hx
        exact ⟨n, e, hn⟩) (fun n hn => by
        rw [W0]
        constructor
        · rintro ⟨m, e, _, z⟩
          have : m = n := by omega
          subst this
          exact ⟨rfl, z⟩
        · rintro ⟨_, z⟩
          exact ⟨n, rfl, hn, z⟩) (by
        have := List.countP_le_length (p := fun n => decide ((0 : Int) = 0)) (l := List.range g.length)
        rw [List.length_range] at this
        omega)
  refine ⟨s'.2.2.1, ?_, hk⟩
  show fnT (thnT (whT _ _ 100000 (mkU g (usP g fun _ => 0), mkC g (usP g fun _ => 0), mkF g fun _ => 0, _, ((0 : Nat) : Int))) _) = _
  rw [e, thnT_nx]
  rfl
end TP
namespace TP
open PySem PySem.Spec PyProof.Rows L2 DL TL
noncomputable section
def targetX (x0 : List Int) (x2 : Int) : X Sto Int :=
  fnT (thnT (sbn (bnd (drawT x0 (3 : Int)) fun y1_ => (TL.ret (decide (y1_ = (0 : Int))))) fun b => if b = true then
    (reT (drawT x0 x2))
    else (nxT ()))
    fun (w2_ : Unit) => (reT (bnd (bnd (drawT x0 (if (4 : Int) < x2 then (4 : Int) else x2)) fun y3_ => (TL.ret ((x2 - (1 : Int)) - y3_))) fun y4_ => (TL.ret y4_))))
def gameX (x0 : List Int) (x2 : Int) : X Sto Game :=
  fnT (sbn (TL.ret ([] : List (List (Option (List Int)))))
    fun (l1 : List (List (Option (List Int)))) => (thnT (sbn (grd (bigP x2) (TL.ret (rangeL x2))) fun l8_ => forT (fun (b3 : Int) (s2 : ((List (List (Option (List Int)))))) => (sbn (TL.ret ([] : List (Option (List Int))))
    fun (l4 : List (Option (List Int))) => (thnT (sbn (bnd (drawT x0 (4 : Int)) fun y1_ => (grd (bigP y1_) (TL.ret (rangeL y1_)))) fun l7_ => forT (fun (b6 : Int) (s5 : ((List (Option (List Int))))) => (sbn (bnd (drawT x0 (4 : Int)) fun y2_ => (TL.ret (decide (y2_ = (0 : Int))))) fun b => if b = true then
    (thnT (appT s5 none)
    fun (l7 : List (Option (List Int))) => (nxT l7))
    else (sbn (bnd (bnd (drawT x0 (4 : Int)) fun y3_ => (TL.ret [(1 : Int), (1 : Int), (2 : Int), y3_])) fun y4_ => (bnd (drawT x0 (4 : Int)) fun y5_ => (ixX y4_ y5_)))
    fun (v8 : Int) => (thnT (sbn (bnd (bnd (grd (bigP v8) (TL.ret (rangeL v8))) fun l6_ => grd (l6_.length ≤ 100000) (mapX (fun (b9 : Int) => (targetX x0 x2)) l6_)) fun x => TL.ret (some x)) fun x => appT s5 x)
    fun (l10 : List (Option (List Int))) => (nxT l10))))) l7_ l4)
    fun (s5 : ((List (Option (List Int))))) => (thnT (appT s2 s5)
    fun (l11 : List (List (Option (List Int)))) => (nxT l11))))) l8_ l1)
    fun (s2 : ((List (List (Option (List Int)))))) => (rtT s2)))
def copyX (x0 : Game) : X Unit Game :=
  fnT (sbn (TL.ret ([] : List (List (Option (List Int)))))
    fun (l1 : List (List (Option (List Int)))) => (thnT (forT (fun (b3 : (List (Option (List Int)))) (s2 : ((List (List (Option (List Int)))))) => (thnT (sbn (bnd (TL.ret (b3)) fun l2_ => grd (l2_.length ≤ 100000) (mapX (fun (b4 : (Option (List Int))) => (bnd (TL.ret b4.isNone) fun b => if b = true then (TL.ret none) else (bnd (bnd (theX b4) fun y1_ => (TL.ret y1_)) fun x => TL.ret (some x)))) l2_)) fun x => appT s2 x)
    fun (l5 : List (List (Option (List Int)))) => (nxT l5))) (x0) l1)
    fun (s2 : ((List (List (Option (List Int)))))) => (rtT s2)))
end
structure OptOk (n : Int) (o : Option (List Int)) : Prop where
  sz : ∀ ts, o = some ts → ts.length ≤ 3
  tg : ∀ ts, o = some ts → ∀ t ∈ ts, 0 ≤ t ∧ t < n
structure DrawnG (n : Int) (g : Game) : Prop where
  len : (g.length : Int) = n
  row : ∀ os ∈ g, os.length ≤ 3
  opt : ∀ os ∈ g, ∀ o ∈ os, OptOk n o
theorem targetX_does (ns : List Int) {n : Int} (h : 1 ≤ n) (h2 : n ≤ 100000) : Does (targetX ns n) fun t => 0 ≤ t ∧ t < n := by
  unfold targetX
  refine does_fn ?_
  intro z hz
  obtain ⟨b, z1, e1, h1, hz1⟩ := does_bnd (Q := fun _ : Bool => True) (does_draw (ns := ns) (lim := 3) (by decide) (by decide)) (fun y _ => does_ret (x := decide (y = (0 : Int))) trivial) z hz
  rw [thnT_ap, sbn_ap, e1]
  cases b with
  | true =>
    obtain ⟨x, z2, e2, h3, hz2⟩ := rets_re (ν := Unit) (κ := Empty) (does_draw (ns := ns) (lim := n) (by omega) (by omega)) z1 hz1
    refine ⟨x, z2, ?_, h3, hz2⟩
    show Fo.thn (reT (drawT ns n) z1) _ = _
    rw [e2]
    rfl
  | false =>
    have h4 : 1 ≤ (if (4 : Int) < n then (4 : Int) else n) ∧ (if (4 : Int) < n then (4 : Int) else n) ≤ n ∧ (if (4 : Int) < n then (4 : Int) else n) ≤ 4 := by
      by_cases c : (4 : Int) < n
      · rw [if_pos c]; omega
      · rw [if_neg c]; omega
    obtain ⟨x, z2, e2, h3, hz2⟩ := rets_re (ν := Unit) (κ := Empty) (does_bnd (does_bnd (does_draw (ns := ns) (lim := if (4 : Int) < n then (4 : Int) else n) (by omega) (by omega)) (fun y hy => does_ret (x := (n - 1) - y) (Q := fun t => 0 ≤ t ∧ t < n) (by omega))) fun y hy => does_ret (Q := fun t => 0 ≤ t ∧ t < n) hy) z1 hz1
    exact ⟨x, z2, e2, h3, hz2⟩
theorem gameX_does (ns : List Int) {n : Int} (h0 : 0 ≤ n) (h2 : n ≤ 1000) : Does (gameX ns n) (DrawnG n) := by
  unfold gameX
  refine does_fn ?_
  rw [sbn_ret, grd_pos (bigP_of (by omega) (by omega)), sbn_ret]
  refine rets_thn (P := DrawnG n) (goes_imp (goes_for (fun i s => s.length = i ∧ (∀ os ∈ s, os.length ≤ 3) ∧ ∀ os ∈ s, ∀ o ∈ os, OptOk n o) (n := 0) ⟨rfl, fun _ h => (nomatch h), fun _ h => (nomatch h)⟩ fun i b hb s hs => ?_) fun s hs => ?_) fun s hs => rets_rt hs
  · have hi : i < n.toNat := by
      have := (List.getElem?_eq_some_iff.mp hb).1
      rw [range_len] at this
      exact this
    have n1 : 1 ≤ n := by omega
    rw [sbn_ret]
    refine goes_thn (P := fun os => os.length ≤ 3 ∧ ∀ o ∈ os, OptOk n o) (goes_sbn (P := fun l : List Int => l.length ≤ 3) (does_bnd (does_draw (by decide) (by decide)) fun y hy => does_grd (bigP_of (by omega) (by omega)) (does_ret (by rw [range_len]; omega))) fun l hl => ?_) fun os hos => ?_
    · refine goes_imp (goes_for (fun i s => s.length = i ∧ ∀ o ∈ s, OptOk n o) (n := 0) ⟨rfl, fun _ h => (nomatch h)⟩ fun j c hc s hs => ?_) fun s hs => ⟨by omega, hs.2⟩
      have hj : j < l.length := (List.getElem?_eq_some_iff.mp hc).1
      refine goes_sbn (P := fun _ => True) (does_bnd (does_draw (by decide) (by decide)) fun y _ => does_ret trivial) fun b _ => goes_if (fun _ => ?_) fun _ => ?_
      · refine goes_thn (goes_app (Q := fun s' => s' = s ++ [none]) (by omega) rfl) fun s' e => goes_nx ?_
        subst e
        refine ⟨by rw [List.length_append, List.length_singleton]; omega, fun o ho => ?_⟩
        rcases List.mem_append.mp ho with ho | ho
        · exact hs.2 o ho
        · rw [List.mem_singleton.mp ho]
          exact ⟨fun ts e => (nomatch e), fun ts e => (nomatch e)⟩
      · refine goes_sbn (P := fun v : Int => 0 ≤ v ∧ v ≤ 3) (does_bnd (P := fun l : List Int => l.length = 4 ∧ ∀ x ∈ l, 0 ≤ x ∧ x ≤ 3) (does_bnd (does_draw (by decide) (by decide)) fun y hy => does_ret ⟨rfl, fun x hx => by
          simp only [List.mem_cons, List.not_mem_nil, or_false] at hx
          rcases hx with rfl | rfl | rfl | rfl <;> omega⟩) fun l hl => does_bnd (does_draw (by decide) (by decide)) fun y hy => ?_) fun v hv => ?_
        · obtain ⟨a, ha, e⟩ := ix_any (l := l) (i := y) (by omega) (by omega)
          rw [e]
          exact does_ret (hl.2 a ha)
        · refine goes_thn (P := fun s' => ∃ o, s' = s ++ [o] ∧ OptOk n o) (goes_sbn (P := OptOk n) (does_bnd (P := fun l : List Int => l.length ≤ 3 ∧ ∀ t ∈ l, 0 ≤ t ∧ t < n) ?_ fun l hl => does_ret ⟨fun ts e => by
            cases e
            exact hl.1, fun ts e => by
            cases e
            exact hl.2⟩) fun o ho => goes_app (by omega) ⟨o, rfl, ho⟩) fun s' e => goes_nx ?_
          · rw [grd_pos (bigP_of (by omega) (by omega)), bnd_ret, grd_pos (by rw [range_len]; omega)]
            refine does_imp (does_map (F := fun _ => targetX ns n) fun x _ => targetX_does ns n1 (by omega)) fun ys hy => ⟨by rw [hy.1, range_len]; omega, hy.2⟩
          · obtain ⟨o, rfl, ho⟩ := e
            refine ⟨by rw [List.length_append, List.length_singleton]; omega, fun o' ho' => ?_⟩
            rcases List.mem_append.mp ho' with ho' | ho'
            · exact hs.2 o' ho'
            · rw [List.mem_singleton.mp ho']
              exact ho
    · refine goes_thn (goes_app (Q := fun s' => s' = s ++ [os]) (by omega) rfl) fun s' e => goes_nx ?_
      subst e
      refine ⟨by rw [List.length_append, List.length_singleton]; omega, fun r hr => ?_, fun r hr => ?_⟩
      · rcases List.mem_append.mp hr with hr | hr
        · exact hs.2.1 r hr
        · rw [List.mem_singleton.mp hr]
          exact hos.1
      · rcases List.mem_append.mp hr with hr | hr
        · exact hs.2.2 r hr
        · rw [List.mem_singleton.mp hr]
          exact hos.2
  · refine ⟨?_, hs.2.1, hs.2.2⟩
    have := hs.1
    rw [range_len] at this
    omega
theorem flat_len {α β : Type} {f : α → List β} {m : Nat} : ∀ {xs : List α}, (∀ x ∈ xs, (f x).length ≤ m) → (xs.flatMap f).length ≤ xs.length * m
  | [], _ => by simp
  | x :: xs, h => by
    have a := h x List.mem_cons_self
    have b := flat_len fun y hy => h y (List.mem_cons_of_mem _ hy)
    rw [List.flatMap_cons, List.length_append, List.length_cons, Nat.succ_mul]
    omega
theorem game_of {g : Game} {a b : Nat} (hl : g.length ≤ 12000) (hn : ∀ os ∈ g, ∀ ts, some ts ∈ os → ∀ t ∈ ts, 0 ≤ t ∧ t < g.length) (hr : ∀ os ∈ g, os.length ≤ a) (ho : ∀ os ∈ g, ∀ ts, some ts ∈ os → ts.length ≤ b) (h : g.length * (a * b) < 100000) (ha : a ≤ 100000) (hb : b ≤ 100000) : GameOk g where
  len := hl
  node := hn
  row os h := Nat.le_trans (hr os h) ha
  opt os h ts ht := Nat.le_trans (ho os h ts ht) hb
  tot := by
    refine Nat.lt_of_le_of_lt (Nat.le_trans (flat_len (m := a * b) fun q hq => ?_) (by rw [enum_len]; exact Nat.le_refl _)) h
    obtain ⟨n, e, hn⟩ := enum_mem.mp hq
    have mg := List.mem_of_getElem? hn
    refine Nat.le_trans (flat_len (m := b) fun p hp => ?_) (by rw [enum_len]; exact Nat.mul_le_mul_right _ (hr _ mg))
    obtain ⟨i, e2, hi⟩ := enum_mem.mp hp
    unfold occO
    rw [List.length_map]
    obtain ⟨p1, o⟩ := p
    cases o with
    | none => exact Nat.zero_le _
    | some ts => exact ho _ mg ts (List.mem_of_getElem? hi)
theorem DrawnG.ok {n : Int} {g : Game} (h : DrawnG n g) (hn : n ≤ 1000) : GameOk g := by
  have := h.len
  refine game_of (a := 3) (b := 3) (by omega) (fun os hos ts hts t ht => ?_) h.row (fun os hos ts hts => (h.opt os hos _ hts).sz ts rfl) (by omega) (by omega) (by omega)
  rw [h.len]
  exact (h.opt os hos _ hts).tg ts rfl t ht
theorem copyX_is {g : Game} (h : GameOk g) : copyX g = TL.ret g := by
  have hl := h.len
  unfold copyX
  rw [sbn_ret, forT_map (g := id) (fun os hos s hs => by
    rw [bnd_ret, grd_pos (h.row os hos), mapX_all (g := id) (fun o ho => by
      cases o with
      | none => rfl
      | some ts => rfl), List.map_id, sbn_ret, appT_ok hs, thnT_nx]
    rfl) (by rw [List.length_nil]; omega), thnT_nx, List.map_id]
  rfl
structure Fate (F : List Int) (ts : List Int) (x : Int) : Prop where
  nn : 0 ≤ x
  iff : ∀ r : Nat, (0 < x ∧ x ≤ r + 1) ↔ ∃ t ∈ ts, ∃ y, F[t.toNat]? = some y ∧ 0 < y ∧ y ≤ r
theorem rank_eq {x y : Int} (hx : 0 ≤ x) (hy : 0 ≤ y) (h : ∀ r : Nat, (0 < x ∧ x ≤ r + 1) ↔ (0 < y ∧ y ≤ r + 1)) : x = y := by
  have a := h (x.toNat - 1)
  have b := h (y.toNat - 1)
  omega
theorem Rk.due {g : Game} (ok : GameOk g) {F : List Int} (h : Rk g F) {v : Nat} {os : List (Option (List Int))} (hv : g[v]? = some os) {x y : Int} (hx : F[v]? = some x) (hy : 0 ≤ y) (hd : ∀ r : Nat, (0 < y ∧ y ≤ r + 1) ↔ ∀ ts, some ts ∈ os → ∃ t ∈ ts, ∃ z, F[t.toNat]? = some z ∧ 0 < z ∧ z ≤ r) : x = y := by
  refine rank_eq (h.nn x (List.mem_of_getElem? hx)) hy fun r => ?_
  have e : optsN g v = os := by
    unfold optsN
    rw [hv]
    rfl
  have a := h.iff v x hx (r + 1)
  rw [show ((r + 1 : Nat) : Int) = (r : Int) + 1 from rfl] at a
  rw [a, hd]
  show (∀ ts, some ts ∈ optsN g v → ∃ t ∈ ts, lostN g r t.toNat) ↔ _
  rw [e]
  constructor
  · intro hh ts hts
    obtain ⟨t, ht, hl⟩ := hh ts hts
    have b := ok.node os (List.mem_of_getElem? hv) ts hts t ht
    have l : t.toNat < F.length := by rw [h.len]; omega
    have e := List.getElem?_eq_getElem l
    exact ⟨t, ht, _, e, (h.iff _ _ e r).mpr hl⟩
  · intro hh ts hts
    obtain ⟨t, ht, z, e, hz⟩ := hh ts hts
    exact ⟨t, ht, (h.iff _ _ e r).mp hz⟩
theorem Rk.at {g : Game} {F : List Int} (h : Rk g F) {t : Int} (h0 : 0 ≤ t) (h1 : t < g.length) : ∃ y, F[t.toNat]? = some y ∧ 0 ≤ y ∧ ∀ {Z : Type}, (ixX F t : X Z Int) = TL.ret y := by
  have l : t.toNat < F.length := by rw [h.len]; omega
  have e := List.getElem?_eq_getElem l
  exact ⟨_, e, h.nn _ (List.mem_of_getElem? e), fun {Z} => ixX_int (n := t.toNat) (by omega) e⟩
def fAt (F : List Int) (t : Int) : Int := F[t.toNat]?.getD 0
theorem Rk.fat {g : Game} {F : List Int} (h : Rk g F) {t : Int} (h0 : 0 ≤ t) (h1 : t < g.length) {Z : Type} : (ixX F t : X Z Int) = TL.ret (fAt F t) := by
  obtain ⟨y, e, _, ix⟩ := h.at h0 h1
  rw [ix]
  unfold fAt
  rw [e]
  rfl
theorem Rk.fnn {g : Game} {F : List Int} (h : Rk g F) {t : Int} (h0 : 0 ≤ t) (h1 : t < g.length) : 0 ≤ fAt F t := by
  obtain ⟨y, e, y0, _⟩ := h.at h0 h1
  unfold fAt
  rw [e]
  exact y0
theorem Rk.lost {g : Game} {F : List Int} (h : Rk g F) {t : Int} (h0 : 0 ≤ t) (h1 : t < g.length) (r : Nat) : (0 < fAt F t ∧ fAt F t ≤ r) ↔ lostN g r t.toNat := by
  obtain ⟨y, e, y0, _⟩ := h.at h0 h1
  have : fAt F t = y := by
    unfold fAt
    rw [e]
    rfl
  rw [this]
  exact h.iff _ _ e r
def goodB (F : List Int) : Option (List Int) → Bool
  | none => false
  | some ts => ts.all fun t => decide (fAt F t = 0)
def goodL (F : List Int) (os : List (Option (List Int))) : List Int := (enumI os).flatMap fun q => if goodB F q.2 = true then [q.1] else []
theorem good_options_is {g : Game} (ok : GameOk g) {F : List Int} (h : Rk g F) {v : Int} {os : List (Option (List Int))} (h0 : 0 ≤ v) (hv : g[v.toNat]? = some os) : s_good_options g F v = TL.ret (goodL F os) := by
  have mg := List.mem_of_getElem? hv
  have hr := ok.row os mg
  unfold s_good_options
  rw [sbn_ret, ixX_int (n := v.toNat) (by omega) hv, bnd_ret, sbn_ret, forT_flat (m := 1) (g := fun q : Int × Option (List Int) => if goodB F q.2 = true then [q.1] else []) (fun q hq => by
    refine ⟨by by_cases c : goodB F q.2 = true <;> simp [c], fun s hs => ?_⟩
    obtain ⟨i, e, hi⟩ := enum_mem.mp hq
    obtain ⟨q1, o⟩ := q
    cases o with
    | none =>
      show (sbn (andX (TL.ret false) _) _ : Y Unit _ _ _) = nxT (s ++ [])
      rw [andX_false, sbn_ret, if_neg (by decide), List.append_nil]
    | some ts =>
      have mo := List.mem_of_getElem? hi
      show (sbn (andX (TL.ret true) (bnd (bnd (bnd (TL.ret ts) fun y2_ => TL.ret (y2_)) _) _)) _ : Y Unit _ _ _) = _
      rw [andX_true, bnd_ret, bnd_ret, grd_pos (ok.opt os mg ts mo), mapX_all (g := fun t => decide (fAt F t = 0)) (fun t ht => by
        have := ok.node os mg ts mo t ht
        rw [h.fat this.1 this.2, bnd_ret]), bnd_ret, sbn_ret]
      have e2 : (ts.map fun t => decide (fAt F t = 0)).all id = goodB F (some ts) := by
        rw [List.all_map]
        rfl
      rw [e2]
      by_cases c : goodB F (some ts) = true
      · rw [if_pos c, appT_ok (by omega), thnT_nx, if_pos c]
      · rw [if_neg c, if_neg c, List.append_nil]) (by rw [List.length_nil, enum_len]; omega), thnT_nx]
  rfl
def spoilF (F : List Int) (r : Int) (ts : List Int) : Option Int := ts.find? fun t => decide (0 < fAt F t) && decide (fAt F t < r)
def spoilL (F : List Int) (r : Int) (os : List (Option (List Int))) : List (Option Int) := os.map fun o => o.bind (spoilF F r)
theorem chX_ret {Z : Type} (p q : Int → Int → Bool) (a b c : Int) : (chX p q (TL.ret a) (TL.ret b) (TL.ret c) : X Z Bool) = TL.ret (p a b && q b c) := by
  unfold chX
  rw [bnd_ret, bnd_ret]
  cases p a b <;> rfl
theorem spoiler_of_is {g : Game} {F : List Int} (h : Rk g F) {ts : List Int} (ht : ∀ t ∈ ts, 0 ≤ t ∧ t < g.length) (r : Int) : s_spoiler_of (some ts) F r = TL.ret (spoilF F r ts) := by
  unfold s_spoiler_of
  show fnT (thnT (sbn (bnd (TL.ret ts) fun y1_ => TL.ret (y1_)) _) _) = _
  rw [bnd_ret, sbn_ret, forT_findR (q := fun t => decide (0 < fAt F t) && decide (fAt F t < r)) (r := some) (fun t m => by
    rw [h.fat (ht t m).1 (ht t m).2, chX_ret, sbn_ret])]
  unfold spoilF
  cases ts.find? fun t => decide (0 < fAt F t) && decide (fAt F t < r) <;> rfl
theorem spoilers_is {g : Game} (ok : GameOk g) {F : List Int} (h : Rk g F) {v : Int} {os : List (Option (List Int))} (h0 : 0 ≤ v) (h1 : v < g.length) (hv : g[v.toNat]? = some os) : s_spoilers g F v = TL.ret (if fAt F v = 0 then [] else spoilL F (fAt F v) os) := by
  have mg := List.mem_of_getElem? hv
  have hr := ok.row os mg
  unfold s_spoilers
  rw [h.fat h0 h1, bnd_ret, sbn_ret]
  by_cases c : fAt F v = 0
  · rw [if_pos (decide_eq_true c), if_pos c]
    rfl
  · rw [if_neg (by simp [c]), if_neg c, thnT_nx, sbn_ret, ixX_int (n := v.toNat) (by omega) hv, bnd_ret, sbn_ret, forT_map (g := fun o : Option (List Int) => o.bind (spoilF F (fAt F v))) (fun o ho s hs => by
      cases o with
      | none =>
        show thnT (sbn (bnd (TL.ret true) _) _) _ = _
        rw [bnd_ret, if_pos rfl, sbn_ret, appT_ok hs, thnT_nx]
        rfl
      | some ts =>
        show thnT (sbn (bnd (TL.ret false) _) _) _ = _
        rw [bnd_ret, if_neg (by decide), bnd_ret, spoiler_of_is h (ok.node os mg ts ho), sbn_ret, appT_ok hs, thnT_nx]
        rfl) (by rw [List.length_nil]; omega), thnT_nx]
    rfl
theorem Rk.good {g : Game} (ok : GameOk g) {F : List Int} (h : Rk g F) {v : Int} {os : List (Option (List Int))} (h0 : 0 ≤ v) (h1 : v < g.length) (hv : g[v.toNat]? = some os) : fAt F v = 0 ↔ ∃ o ∈ os, goodB F o = true := by
  have mg := List.mem_of_getElem? hv
  have eo : optsN g v.toNat = os := by
    unfold optsN
    rw [hv]
    rfl
  constructor
  · intro z
    refine Classical.byContradiction fun no => ?_
    have big : ∃ R : Nat, ∀ x ∈ F, x ≤ R := by
      clear h z no
      induction F with
      | nil => exact ⟨0, fun x h => nomatch h⟩
      | cons y F ih =>
        obtain ⟨R, hR⟩ := ih
        refine ⟨R + y.toNat, fun x hx => ?_⟩
        rcases List.mem_cons.mp hx with rfl | hx
        · omega
        · have := hR x hx
          omega
    obtain ⟨R, hR⟩ := big
    have : lostN g (R + 1) v.toNat := by
      show ∀ ts, some ts ∈ optsN g v.toNat → ∃ t ∈ ts, lostN g R t.toNat
      rw [eo]
      intro ts hts
      refine Classical.byContradiction fun q => no ⟨some ts, hts, ?_⟩
      show (ts.all fun t => decide (fAt F t = 0)) = true
      rw [List.all_eq_true]
      intro t ht
      have b := ok.node os mg ts hts t ht
      have a := h.fnn b.1 b.2
      apply decide_eq_true
      refine Classical.byContradiction fun c => q ⟨t, ht, (h.lost b.1 b.2 R).mp ⟨by omega, ?_⟩⟩
      obtain ⟨y, e, _, _⟩ := h.at b.1 b.2
      have : fAt F t = y := by
        unfold fAt
        rw [e]
        rfl
      rw [this]
      exact hR y (List.mem_of_getElem? e)
    have := (h.lost h0 h1 (R + 1)).mpr this
    omega
  · rintro ⟨o, ho, hg⟩
    cases o with
    | none => exact nomatch hg
    | some ts =>
      have a := h.fnn h0 h1
      refine Classical.byContradiction fun c => ?_
      obtain ⟨k, hk⟩ : ∃ k : Nat, fAt F v = (k : Int) + 1 := ⟨(fAt F v - 1).toNat, by omega⟩
      have l := (h.lost h0 h1 (k + 1)).mp ⟨by omega, by omega⟩
      obtain ⟨t, ht, hl⟩ := (show ∀ ts, some ts ∈ optsN g v.toNat → ∃ t ∈ ts, lostN g k t.toNat from l) ts (by rw [eo]; exact ho)
      have b := ok.node os mg ts ho t ht
      have q := (h.lost b.1 b.2 k).mpr hl
      have : decide (fAt F t = 0) = true := List.all_eq_true.mp (show (ts.all fun t => decide (fAt F t = 0)) = true from hg) t ht
      have := of_decide_eq_true this
      omega
theorem Rk.spoil {g : Game} (ok : GameOk g) {F : List Int} (h : Rk g F) {v : Int} {os : List (Option (List Int))} (h0 : 0 ≤ v) (h1 : v < g.length) (hv : g[v.toNat]? = some os) (hp : 0 < fAt F v) {ts : List Int} (hts : some ts ∈ os) : ∃ t, spoilF F (fAt F v) ts = some t := by
  have mg := List.mem_of_getElem? hv
  have eo : optsN g v.toNat = os := by
    unfold optsN
    rw [hv]
    rfl
  obtain ⟨k, hk⟩ : ∃ k : Nat, fAt F v = (k : Int) + 1 := ⟨(fAt F v - 1).toNat, by omega⟩
  have l := (h.lost h0 h1 (k + 1)).mp ⟨by omega, by omega⟩
  obtain ⟨t, ht, hl⟩ := (show ∀ ts, some ts ∈ optsN g v.toNat → ∃ t ∈ ts, lostN g k t.toNat from l) ts (by rw [eo]; exact hts)
  have b := ok.node os mg ts hts t ht
  have q := (h.lost b.1 b.2 k).mpr hl
  cases e : spoilF F (fAt F v) ts with
  | some t => exact ⟨t, rfl⟩
  | none =>
    have := List.find?_eq_none.mp e t ht
    simp at this
    omega
theorem cut_last {α : Type} (xs : List α) (x : α) : cutG (xs ++ [x]) none (some (-(1 : Int))) = xs := by
  have e : HT.sIx (xs ++ [x]).length (xs ++ [x]).length (some (-(1 : Int))) = xs.length := by
    have := HT.clip_eq (-(1 : Int)) (xs ++ [x]).length (xs ++ [x]).length
    rw [if_pos (by decide)] at this
    rw [List.length_append, List.length_singleton] at this ⊢
    omega
  unfold cutG
  rw [HT.sIx_none, e, List.drop_zero, Nat.sub_zero, List.take_left']
  rfl
theorem enum_range {α : Type} (os : List (Option α)) : enumI os = (rangeL os.length).map fun i => (i, os[i.toNat]?.getD none) := by
  unfold enumI rangeL
  rw [List.map_map]
  apply List.ext_getElem
  · simp
  · intro i h1 h2
    have h3 : i < os.length := by simpa using h1
    simp [h3]
end TP
namespace K22
open PySem PySem.Spec PyProof.Rows L2 DL
theorem sc_law_start : FnScope ["_law_script", "_law_first"] ["_law_script"] (defScope s_law_start) := ⟨rfl, rfl, rfl, by decide +kernel, rfl, by decide +kernel, by decide +kernel⟩
theorem sc_law_draw : FnScope ["_law_script", "_law_state", "_law_limit", "_law_number", "_law_cell", "_law_mixed"] ["_law_script", "_law_state", "_law_limit"] (defScope s_law_draw) := ⟨rfl, rfl, rfl, by decide +kernel, rfl, by decide +kernel, by decide +kernel⟩
theorem sc_law_target : FnScope ["_law_script", "_law_state", "_law_many"] ["_law_script", "_law_state", "_law_many"] (defScope s_law_target) := ⟨rfl, rfl, rfl, by decide +kernel, rfl, by decide +kernel, by decide +kernel⟩
theorem sc_law_game : FnScope ["_law_script", "_law_state", "_law_many", "_law_game_here", "_law_node", "_law_options", "_law_k", "_law_size", "_law_j"] ["_law_script", "_law_state", "_law_many"] (defScope s_law_game) := ⟨rfl, rfl, rfl, by decide +kernel, rfl, by decide +kernel, by decide +kernel⟩
theorem sc_law_copy : FnScope ["_law_game_here", "_law_copy_here", "_law_options", "_law_option"] ["_law_game_here"] (defScope s_law_copy) := ⟨rfl, rfl, rfl, by decide +kernel, rfl, by decide +kernel, by decide +kernel⟩
theorem sc_is_integer : FnScope ["value"] ["value"] (defScope s_is_integer) := ⟨rfl, rfl, rfl, by decide +kernel, rfl, by decide +kernel, by decide +kernel⟩
theorem sc_check_number : FnScope ["what", "value", "low", "high"] ["what", "value", "low", "high"] (defScope s_check_number) := ⟨rfl, rfl, rfl, by decide +kernel, rfl, by decide +kernel, by decide +kernel⟩
theorem sc_check_game : FnScope ["game", "options", "option", "node"] ["game"] (defScope s_check_game) := ⟨rfl, rfl, rfl, by decide +kernel, rfl, by decide +kernel, by decide +kernel⟩
theorem sc_users_of : FnScope ["game", "users", "node", "options", "place", "option", "target"] ["game"] (defScope s_users_of) := ⟨rfl, rfl, rfl, by decide +kernel, rfl, by decide +kernel, by decide +kernel⟩
theorem sc_fail_options : FnScope ["users", "usable", "counts", "lost", "node", "place"] ["users", "usable", "counts"] (defScope s_fail_options) := ⟨rfl, rfl, rfl, by decide +kernel, rfl, by decide +kernel, by decide +kernel⟩
theorem sc_ranks : FnScope ["game", "users", "usable", "counts", "found", "layer", "rank", "following", "node", "options", "option", "row", "many"] ["game"] (defScope s_ranks) := ⟨rfl, rfl, rfl, by decide +kernel, rfl, by decide +kernel, by decide +kernel⟩
theorem sc_good_options : FnScope ["game", "found", "node", "places", "place", "option", "target"] ["game", "found", "node"] (defScope s_good_options) := ⟨rfl, rfl, rfl, by decide +kernel, rfl, by decide +kernel, by decide +kernel⟩
theorem sc_spoiler_of : FnScope ["option", "found", "rank", "target"] ["option", "found", "rank"] (defScope s_spoiler_of) := ⟨rfl, rfl, rfl, by decide +kernel, rfl, by decide +kernel, by decide +kernel⟩
theorem sc_spoilers : FnScope ["game", "found", "node", "answers", "option"] ["game", "found", "node"] (defScope s_spoilers) := ⟨rfl, rfl, rfl, by decide +kernel, rfl, by decide +kernel, by decide +kernel⟩
theorem sc_law_spoilers : FnScope ["_law_options", "_law_found", "_law_rank", "_law_answers", "_law_option", "_law_first", "_law_target_here"] ["_law_options", "_law_found", "_law_rank"] (defScope s_law_spoilers) := ⟨rfl, rfl, rfl, by decide +kernel, rfl, by decide +kernel, by decide +kernel⟩
theorem sc_law_good : FnScope ["_law_options", "_law_found", "_law_places", "_law_place", "_law_target_here"] ["_law_options", "_law_found"] (defScope s_law_good) := ⟨rfl, rfl, rfl, by decide +kernel, rfl, by decide +kernel, by decide +kernel⟩
theorem sc_law_asked : FnScope ["_law_passed", "_law_found", "_law_node", "_law_game_here", "_law_good_here", "_law_due", "_law_answers", "_law_x"] ["_law_passed", "_law_found", "_law_node", "_law_game_here"] (defScope s_law_asked) := ⟨rfl, rfl, rfl, by decide +kernel, rfl, by decide +kernel, by decide +kernel⟩
theorem sc_law : FnScope ["_law_script", "_law_state", "_law_many", "_law_game_here", "_law_passed", "_law_found", "_law_kept", "_law_node"] ["_law_script"] (defScope s_law) := ⟨rfl, rfl, rfl, by decide +kernel, rfl, by decide +kernel, by decide +kernel⟩
noncomputable section
def m_law_start : SM := (sSeq (sSet 1 [] (mV (eC (.int 0))))
    (sSeq (sIf [] (tV (ev2 (dI gGt) (cV (un1 gLen) (aCons (eVar 0) aNil)) (eC (.int 0)))) (sSet 1 [] (mV (vS dIx (eVar 0) (eC (.int 0))))) sNil)
    (sRet [] (mLst (lCons (mV (cV (un1 gAbs) (aCons (cV (un1 gInt) (aCons (eVar 1) aNil)) aNil))) (lCons (mV (cV (un1 gInt) (aCons (ev2 (dI gGe) (cV (un1 gAbs) (aCons (cV (un1 gInt) (aCons (eVar 1) aNil)) aNil)) (ev2 (dI gPow) (eC (.int 10)) (eC (.int 18)))) aNil))) (lCons (mV (eC (.int 1))) (lCons (mV (eC (.int 0))) lNil))))))))
def f_law_start : FM := bodyM 1 2 m_law_start
def m_law_draw : SM := (sSeq (sSto [] (mV (vNw dAdd (vS dIx (eVar 1) (eC (.int 3))) (eC (.int 1)))) 1 3)
    (sSeq (sIf [] (tAn (tV (ev2 dEq (vS dIx (eVar 1) (eC (.int 1))) (eC (.int 1)))) (tV (ev2 (dI gGt) (vS dIx (eVar 1) (eC (.int 0))) (eC (.int 0))))) (sSeq (sSet 3 [] (mV (ev2 (dI gMod) (cV (un1 gInt) (aCons (vS dIx (eVar 1) (eC (.int 0))) aNil)) (eVar 2))))
    (sSeq (sSto [] (mV (ev2 (dI gDiv) (vS dIx (eVar 1) (eC (.int 0))) (eVar 2))) 1 0)
    (sRet [] (mV (eVar 3))))) sNil)
    (sSeq (sSto [] (mV (eC (.int 0))) 1 1)
    (sSeq (sSet 4 [] (mV (eC (.int 0))))
    (sSeq (sIf [] (tV (ev2 (dI gGt) (cV (un1 gLen) (aCons (eVar 0) aNil)) (eC (.int 0)))) (sSet 4 [] (mV (vS dIx (eVar 0) (ev2 (dI gMod) (cV (un1 gInt) (aCons (vS dIx (eVar 1) (eC (.int 2))) aNil)) (cV (un1 gLen) (aCons (eVar 0) aNil)))))) sNil)
    (sSeq (sSto [] (mV (vNw dAdd (vS dIx (eVar 1) (eC (.int 2))) (eC (.int 1)))) 1 2)
    (sSeq (sSet 5 [] (mV (vNw dMul (ev2 (dI gMod) (cV (un1 gInt) (aCons (vS dIx (eVar 1) (eC (.int 0))) aNil)) (eC (.int 2147483647))) (eC (.int 48271)))))
    (sSeq (sSet 5 [] (mV (vNw dAdd (vNw dAdd (vNw dAdd (eVar 5) (ev2 (dI gMod) (cV (un1 gInt) (aCons (eVar 4) aNil)) (eC (.int 2147483629)))) (vNw dMul (eC (.int 7)) (vS dIx (eVar 1) (eC (.int 3))))) (eC (.int 11)))))
    (sSeq (sSto [] (mV (ev2 (dI gMod) (cV (un1 gInt) (aCons (eVar 5) aNil)) (eC (.int 2147483647)))) 1 0)
    (sSeq (sSet 5 [] (mV (ev2 (dI gMod) (cV (un1 gInt) (aCons (vNw dAdd (vNw dMul (vS dIx (eVar 1) (eC (.int 0))) (eC (.int 69621))) (vS dIx (eVar 1) (eC (.int 3)))) aNil)) (eC (.int 2147483629)))))
    (sRet [] (mV (ev2 (dI gMod) (cV (un1 gInt) (aCons (ev2 (dI gDiv) (eVar 5) (eC (.int 13))) aNil)) (eVar 2))))))))))))))
def f_law_draw : FM := bodyM 3 6 m_law_draw
def m_law_target : SM := (sSeq (sIf [] (tV (ev2 dEq (vM (callM 3 f_law_draw (aCons (eVar 0) (aCons (eVar 1) (aCons (eC (.int 3)) aNil))))) (eC (.int 0)))) (sRet [] (callM 3 f_law_draw (aCons (eVar 0) (aCons (eVar 1) (aCons (eVar 2) aNil))))) sNil)
    (sRet [] (mV (cV (un1 gInt) (aCons (ev2 (dI DL.gSub) (ev2 (dI DL.gSub) (eVar 2) (eC (.int 1))) (vM (callM 3 f_law_draw (aCons (eVar 0) (aCons (eVar 1) (aCons (cV (bi2 gMin2) (aCons (eVar 2) (aCons (eC (.int 4)) aNil))) aNil)))))) aNil)))))
def f_law_target : FM := bodyM 3 3 m_law_target
def m_law_game : SM := (sSeq (sSet 3 [] (mLst lNil))
    (sSeq (sFor true [] (DL.iRng1 (aCons (eVar 2) aNil)) (gOne 4) (sSeq (sSet 5 [] (mLst lNil))
    (sSeq (sFor true [] (DL.iRng1 (aCons (vM (callM 3 f_law_draw (aCons (eVar 0) (aCons (eVar 1) (aCons (eC (.int 4)) aNil))))) aNil)) (gOne 6) (sIf [] (tV (ev2 dEq (vM (callM 3 f_law_draw (aCons (eVar 0) (aCons (eVar 1) (aCons (eC (.int 4)) aNil))))) (eC (.int 0)))) (sApp [] 5 (mV (eC .non))) (sSeq (sSet 7 [] (mV (vS dIx (vM (mLst (lCons (mV (eC (.int 1))) (lCons (mV (eC (.int 1))) (lCons (mV (eC (.int 2))) (lCons (callM 3 f_law_draw (aCons (eVar 0) (aCons (eVar 1) (aCons (eC (.int 4)) aNil)))) lNil)))))) (vM (callM 3 f_law_draw (aCons (eVar 0) (aCons (eVar 1) (aCons (eC (.int 4)) aNil))))))))
    (sApp [] 5 (mV (vM (lcM [8] (DL.iRng1 (aCons (eVar 7) aNil)) (gNm 8) tT (callM 3 f_law_target (aCons (eVar 0) (aCons (eVar 1) (aCons (eVar 2) aNil)))))))))))
    (sFz [5] (sApp [] 3 (mV (eVar 5)))))))
    (sRetO 3)))
def f_law_game : FM := bodyM 3 9 m_law_game
def m_law_copy : SM := (sSeq (sSet 1 [] (mLst lNil))
    (sSeq (sFor false [] (iSeq (eVar 0)) (gOne 2) (sApp [] 1 (lcM [3] (iSeq (eVar 2)) (gNm 3) tT (eIf (tV (ev2 dIs (eVar 3) (eC .non))) (mV (eC .non)) (mV (vM (cN (un1 gList) (aCons (eVar 3) aNil))))))))
    (sRetO 1)))
def f_law_copy : FM := bodyM 1 4 m_law_copy
def m_is_integer : SM := (sRet [] (mV (vAn (ev1 (dIsi (tabT [.int, .bl])) (eVar 0)) (vN (ev1 (dIsi (tabT [.bl])) (eVar 0))))))
def f_is_integer : FM := bodyM 1 1 m_is_integer
def m_check_number : SM := (sSeq (sIf [] (tOn (tN (tV (vM (callM 1 f_is_integer (aCons (eVar 1) aNil))))) (tOn (tV (ev2 (dI gLt) (eVar 1) (eVar 2))) (tV (ev2 (dI gGt) (eVar 1) (eVar 3))))) (sRaise [] (excM 2 ["what", "value"] (aCons (eVar 0) (aCons (eVar 1) aNil)))) sNil)
    (sRet [] (mV (eVar 1))))
def f_check_number : FM := bodyM 4 4 m_check_number
def m_check_game : SM := (sSeq (sIf [] (tV (ev2 (dI gGt) (cV (un1 gLen) (aCons (eVar 0) aNil)) (eC (.int 12000)))) (sRaise [] (excM 5 ["limit"] (aCons (eC (.int 12000)) aNil))) sNil)
    (sFor false [] (iSeq (eVar 0)) (gOne 1) (sFor false [] (iSeq (eVar 1)) (gOne 2) (sIf [] (tV (ev2 dIsNot (eVar 2) (eC .non))) (sFor false [] (iSeq (eVar 2)) (gOne 3) (sDrop [] (callM 4 f_check_number (aCons (eC (.str "node")) (aCons (eVar 3) (aCons (eC (.int 0)) (aCons (ev2 (dI DL.gSub) (cV (un1 gLen) (aCons (eVar 0) aNil)) (eC (.int 1))) aNil))))))) sNil))))
def f_check_game : FM := bodyM 1 4 m_check_game
def m_users_of : SM := (sSeq (sSet 1 [] (lcM [3] (iSeq (eVar 0)) (gNm 3) tT (mLst lNil)))
    (sSeq (sFor false [] (iEn (aCons (eVar 0) aNil)) (gTp 2 (gsCons (gOne 2) (gsCons (gOne 3) gsNil))) (sFor false [] (iEn (aCons (eVar 3) aNil)) (gTp 2 (gsCons (gOne 4) (gsCons (gOne 5) gsNil))) (sIf [] (tV (ev2 dIsNot (eVar 5) (eC .non))) (sFor false [] (iSeq (eVar 5)) (gOne 6) (sAppP [] 1 (ptAt ptNil (qVar 6)) (mTup (lCons (mV (eVar 2)) (lCons (mV (eVar 4)) lNil))))) sNil)))
    (sRetO 1)))
def f_users_of : FM := bodyM 1 7 m_users_of
def m_fail_options : TM := (seqT (sSet 3 [] (mLst lNil))
    (seqT (sFor false [] (iSeq (eVar 0)) (gTp 2 (gsCons (gOne 4) (gsCons (gOne 5) gsNil))) (sIf [1] (tV (vS dIx (vS dIx (eVar 1) (eVar 4)) (eVar 5))) (sSeq (sSetP [] 1 (ptAt ptNil (qVar 4)) (qVar 5) (mV (eC (.bl false))))
    (sSeq (sAugP [] 2 ptNil (qVar 4) (fun i j => i - j) (mV (eC (.int 1))))
    (sIf [2] (tV (ev2 dEq (vS dIx (eVar 2) (eVar 4)) (eC (.int 0)))) (sApp [] 3 (mV (eVar 4))) sNil))) sNil))
    (retTO 3)))
def f_fail_options : FT := bodyT [1, 2] 6 m_fail_options
def m_ranks : SM := (sSeq (sDrop [] (callM 1 f_check_game (aCons (eVar 0) aNil)))
    (sSeq (sSet 1 [] (mV (vM (callM 1 f_users_of (aCons (eVar 0) aNil)))))
    (sSeq (sSet 2 [] (lcM [9] (iSeq (eVar 0)) (gNm 9) tT (lcM [10] (iSeq (eVar 9)) (gNm 10) tT (mV (ev2 dIsNot (eVar 10) (eC .non))))))
    (sSeq (sSet 3 [2] (lcM [11] (iSeq (eVar 2)) (gNm 11) tT (mV (ev1 (gCnt true) (eVar 11)))))
    (sSeq (sSet 4 [] (lcM [9] (iSeq (eVar 0)) (gNm 9) tT (mV (eC (.int 0)))))
    (sSeq (sSetF 5 [3] (lcM [8, 12] (iEn (aCons (eVar 3) aNil)) (gxTup 2 (gxCons (gNm 8) (gxCons (gNm 12) gxNil))) (tV (ev2 dEq (eVar 12) (eC (.int 0)))) (mV (eVar 8))))
    (sSeq (sSet 6 [] (mV (eC (.int 0))))
    (sSeq (sWhile [] (tTr (eVar 5)) (sSeq (sSet 6 [] (mV (ev2 (dI DL.gAdd) (eVar 6) (eC (.int 1)))))
    (sSeq (sSet 7 [] (mLst lNil))
    (sSeq (sFor false [] (iSeq (eVar 5)) (gOne 8) (sSeq (sSetP [] 4 ptNil (qVar 8) (mV (eVar 6)))
    (sExt 7 ptNil (giveM 3 [2, 3] f_fail_options (gtCons (vS dIx (eVar 1) (eVar 8)) (gtHere 2 (gtHere 3 gtNil)))))))
    (sSetF 5 [7] (cN (un1 gList) (aCons (eVar 7) aNil)))))) 100000)
    (sRetO 4)))))))))
def f_ranks : FM := bodyM 1 13 m_ranks
def m_good_options : SM := (sSeq (sSet 3 [] (mLst lNil))
    (sSeq (sFor false [] (iEn (aCons (vS dIx (eVar 0) (eVar 2)) aNil)) (gTp 2 (gsCons (gOne 4) (gsCons (gOne 5) gsNil))) (sIf [] (tAn (tV (ev2 dIsNot (eVar 5) (eC .non))) (tV (cV (un1 gAll) (aCons (vM (lcM [6] (iSeq (eVar 5)) (gNm 6) tT (mV (ev2 dEq (vS dIx (eVar 1) (eVar 6)) (eC (.int 0)))))) aNil)))) (sApp [] 3 (mV (eVar 4))) sNil))
    (sRetO 3)))
def f_good_options : FM := bodyM 3 7 m_good_options
def m_spoiler_of : SM := (sSeq (sFor false [] (iSeq (eVar 0)) (gOne 3) (sIf [] (tV (vCh (dI gLt) (dI gLt) (eC (.int 0)) (vS dIx (eVar 1) (eVar 3)) (eVar 2))) (sRet [] (mV (eVar 3))) sNil))
    (sRet [] (mV (eC .non))))
def f_spoiler_of : FM := bodyM 3 4 m_spoiler_of
def m_spoilers : SM := (sSeq (sIf [] (tV (ev2 dEq (vS dIx (eVar 1) (eVar 2)) (eC (.int 0)))) (sRet [] (mLst lNil)) sNil)
    (sSeq (sSet 3 [] (mLst lNil))
    (sSeq (sFor false [] (iSeq (vS dIx (eVar 0) (eVar 2))) (gOne 4) (sApp [] 3 (eIf (tV (ev2 dIs (eVar 4) (eC .non))) (mV (eC .non)) (mV (vM (callM 3 f_spoiler_of (aCons (eVar 4) (aCons (eVar 1) (aCons (vS dIx (eVar 1) (eVar 2)) aNil)))))))))
    (sRetO 3))))
def f_spoilers : FM := bodyM 3 5 m_spoilers
def m_law_spoilers : SM := (sSeq (sSet 3 [] (mLst lNil))
    (sSeq (sFor false [] (iSeq (eVar 0)) (gOne 4) (sIf [] (tV (ev2 dIs (eVar 4) (eC .non))) (sApp [] 3 (mV (eC .non))) (sSeq (sSet 5 [] (mV (vM (lcM [6] (iSeq (eVar 4)) (gNm 6) (tV (vCh (dI gLt) (dI gLt) (eC (.int 0)) (vS dIx (eVar 1) (eVar 6)) (eVar 2))) (mV (eVar 6))))))
    (sSeq (sIf [] (tV (ev2 dEq (cV (un1 gLen) (aCons (eVar 5) aNil)) (eC (.int 0)))) (sRet [] (mV (eC .non))) sNil)
    (sApp [] 3 (mV (vS dIx (eVar 5) (eC (.int 0)))))))))
    (sRet [3] (mV (eVar 3)))))
def f_law_spoilers : FM := bodyM 3 7 m_law_spoilers
def m_law_good : SM := (sSeq (sSet 2 [] (mLst lNil))
    (sSeq (sFor true [] (DL.iRng1 (aCons (cV (un1 gLen) (aCons (eVar 0) aNil)) aNil)) (gOne 3) (sIf [] (tAn (tV (ev2 dIsNot (vS dIx (eVar 0) (eVar 3)) (eC .non))) (tV (cV (un1 gAll) (aCons (vM (lcM [4] (iSeq (vS dIx (eVar 0) (eVar 3))) (gNm 4) tT (mV (ev2 dEq (vS dIx (eVar 1) (eVar 4)) (eC (.int 0)))))) aNil)))) (sApp [] 2 (mV (eVar 3))) sNil))
    (sRetO 2)))
def f_law_good : FM := bodyM 2 5 m_law_good
def m_law_asked : SM := (sSeq (sSet 4 [] (callM 3 f_good_options (aCons (eVar 0) (aCons (eVar 1) (aCons (eVar 2) aNil)))))
    (sSeq (sIf [4] (tOn (tN (tV (ev1 (dIsi (tabT [.lst])) (eVar 4)))) (tV (ev2 dNe (eVar 4) (vM (callM 2 f_law_good (aCons (vS dIx (eVar 3) (eVar 2)) (aCons (eVar 1) aNil))))))) (sRet [] (mV (eC (.bl false)))) sNil)
    (sSeq (sSet 5 [] (mV (vM (mLst lNil))))
    (sSeq (sIf [] (tV (ev2 (dI gGt) (vS dIx (eVar 1) (eVar 2)) (eC (.int 0)))) (sSet 5 [] (mV (vM (callM 3 f_law_spoilers (aCons (vS dIx (eVar 3) (eVar 2)) (aCons (eVar 1) (aCons (vS dIx (eVar 1) (eVar 2)) aNil))))))) sNil)
    (sSeq (sSet 6 [] (callM 3 f_spoilers (aCons (eVar 0) (aCons (eVar 1) (aCons (eVar 2) aNil)))))
    (sSeq (sIf [6] (tOn (tV (ev2 dIs (eVar 5) (eC .non))) (tOn (tN (tV (ev1 (dIsi (tabT [.lst])) (eVar 6)))) (tV (ev2 dNe (eVar 6) (eVar 5))))) (sRet [] (mV (eC (.bl false)))) sNil)
    (sSeq (sIf [4] (tV (ev2 dNe (ev2 (dI gGt) (cV (un1 gLen) (aCons (eVar 4) aNil)) (eC (.int 0))) (ev2 dEq (vS dIx (eVar 1) (eVar 2)) (eC (.int 0))))) (sRet [] (mV (eC (.bl false)))) sNil)
    (sSeq (sIf [4, 6] (tV (cV (un1 gAny) (aCons (vM (lcM [7] (iSeq (vNw dAdd (eVar 4) (eVar 6))) (gNm 7) tT (mV (ev1 (dIsi (tabT [.bl])) (eVar 7))))) aNil))) (sRet [] (mV (eC (.bl false)))) sNil)
    (sSeq (sApp [] 4 (mV (eC (.int 0))))
    (sSeq (sApp [] 6 (mV (eC .non)))
    (sRet [4] (mV (vAn (ev2 dEq (vM (callM 3 f_good_options (aCons (eVar 0) (aCons (eVar 1) (aCons (eVar 2) aNil))))) (vM (slN (eVar 4) oNo (oSome (ev1 gNeg (eC (.int 1))))))) (ev2 dEq (vM (callM 3 f_spoilers (aCons (eVar 0) (aCons (eVar 1) (aCons (eVar 2) aNil))))) (eVar 5)))))))))))))))
def f_law_asked : FM := bodyM 4 8 m_law_asked
def m_law : SM := (mLaw 1 (sSet 1 [] (callM 1 f_law_start (aCons (eVar 0) aNil)))
    (sSeq (sSet 2 [] (mV (vM (callM 3 f_law_draw (aCons (eVar 0) (aCons (eVar 1) (aCons (eC (.int 14)) aNil)))))))
    (sSeq (sIf [] (tV (ev2 dEq (vM (callM 3 f_law_draw (aCons (eVar 0) (aCons (eVar 1) (aCons (eC (.int 3)) aNil))))) (eC (.int 0)))) (sSet 2 [] (mV (vNw dAdd (eC (.int 30)) (vM (callM 3 f_law_draw (aCons (eVar 0) (aCons (eVar 1) (aCons (eC (.int 30)) aNil)))))))) sNil)
    (sSeq (sSet 3 [] (mV (vM (callM 3 f_law_game (aCons (eVar 0) (aCons (eVar 1) (aCons (eVar 2) aNil)))))))
    (sSeq (sSet 4 [] (mV (vM (callM 1 f_law_copy (aCons (eVar 3) aNil)))))
    (sSeq (sSet 5 [] (mV (vM (callM 1 f_ranks (aCons (eVar 4) aNil)))))
    (sSeq (sSet 6 [] (mV (vM (cN (un1 gList) (aCons (eVar 5) aNil)))))
    (sSeq (sFor true [] (DL.iRng1 (aCons (eVar 2) aNil)) (gOne 7) (sIf [] (tN (tV (vM (callM 4 f_law_asked (aCons (eVar 4) (aCons (eVar 5) (aCons (eVar 7) (aCons (eVar 3) aNil)))))))) (sRet [] (mV (eC (.bl false)))) sNil))
    (sRet [] (mV (vAn (ev2 dEq (eVar 4) (eVar 3)) (ev2 dEq (eVar 5) (eVar 6)))))))))))))
def f_law : FM := bodyM 1 8 m_law
end
noncomputable section
def t_law_target (x0 x1 x2 : D) : Fw Unit Empty := (thn (ifF (tV (ev2 dEq (vM (callM 3 f_law_draw (aCons (eC x0) (aCons (eC x1) (aCons (eC (.int 3)) aNil))))) (eC (.int 0))))
    (reM (callM 3 f_law_draw (aCons (eC x0) (aCons (eC x1) (aCons (eC x2) aNil)))))
    (nxF ()))
    fun _ => (reM (mV (cV (un1 gInt) (aCons (ev2 (dI DL.gSub) (ev2 (dI DL.gSub) (eC x2) (eC (.int 1))) (vM (callM 3 f_law_draw (aCons (eC x0) (aCons (eC x1) (aCons (cV (bi2 gMin2) (aCons (eC x2) (aCons (eC (.int 4)) aNil))) aNil)))))) aNil)))))
theorem t_law_target_si (x0 x1 x2 : D) : Si (fun _ : Unit => [none, none, none]) noK none m_law_target [some (.val x0), some (.val x1), some (.val x2)] (t_law_target x0 x1 x2) := by
  unfold m_law_target t_law_target
  exact (si_seq (N1 := fun (_ : Unit) => [some (.val x0), some (.val x1), some (.val x2)]) (si_if (ev_tV (ev_ev2 (ev_vM (ev_callM (ev_aCons (ev_var rfl) (ev_aCons (ev_var rfl) (ev_aCons ev_c ev_aNil))))) ev_c)) trivial
    (si_ret (ev_callM (ev_aCons (ev_var rfl) (ev_aCons (ev_var rfl) (ev_aCons (ev_var rfl) ev_aNil)))) trivial trivial)
    (si_nil (.is (.is (.is .nil)))))
    fun _ => (si_ret (ev_mV (ev_cV (ev_aCons (ev_ev2 (ev_ev2 (ev_var rfl) ev_c) (ev_vM (ev_callM (ev_aCons (ev_var rfl) (ev_aCons (ev_var rfl) (ev_aCons (ev_cV (ev_aCons (ev_var rfl) (ev_aCons ev_c ev_aNil))) ev_aNil)))))) ev_aNil))) trivial trivial))
theorem t_law_target_to (x0 x1 x2 : D) {a : Sto} {o : Out M} (e : fnO (t_law_target x0 x1 x2 a) = o) (ho : o ≠ .stuck) : f_law_target [x0, x1, x2] a = o := fn_to rfl (t_law_target_si x0 x1 x2) e ho
def t_law_game (x0 x1 x2 : D) : Fw Unit Empty := (thn (seL (mLst lNil))
    fun l1 => (thn (forF (DL.iRng1 (aCons (eC x2) aNil)) g1 (fun (b3 : D) (s2 : List M) => (thn (seL (mLst lNil))
    fun l4 => (thn (forF (DL.iRng1 (aCons (vM (callM 3 f_law_draw (aCons (eC x0) (aCons (eC x1) (aCons (eC (.int 4)) aNil))))) aNil)) g1 (fun (b6 : D) (s5 : List M) => (ifF (tV (ev2 dEq (vM (callM 3 f_law_draw (aCons (eC x0) (aCons (eC x1) (aCons (eC (.int 4)) aNil))))) (eC (.int 0))))
    (thn (appF (mV (eC .non)) s5) fun l7 a => .nx l7 a)
    (thn (seV (vS dIx (vM (mLst (lCons (mV (eC (.int 1))) (lCons (mV (eC (.int 1))) (lCons (mV (eC (.int 2))) (lCons (callM 3 f_law_draw (aCons (eC x0) (aCons (eC x1) (aCons (eC (.int 4)) aNil)))) lNil)))))) (vM (callM 3 f_law_draw (aCons (eC x0) (aCons (eC x1) (aCons (eC (.int 4)) aNil)))))))
    fun v8 => (thn (appF (mV (vM (lcD (DL.iRng1 (aCons (eC v8) aNil)) g1 (fun (b9 : D) => tT) (fun (b9 : D) => (callM 3 f_law_target (aCons (eC x0) (aCons (eC x1) (aCons (eC x2) aNil)))))))) s5) fun l10 a => .nx l10 a)))) l4)
    fun s5 => (thn (appF (mV (eC (freeze (.lst s5)))) s2) fun l11 a => .nx l11 a)))) l1)
    fun s2 => (rtF (.lst s2))))
theorem t_law_game_si (x0 x1 x2 : D) : Si (fun _ : Unit => [none, none, none, none, none, none, none, none, none]) noK none m_law_game [some (.val x0), some (.val x1), some (.val x2), none, none, none, none, none, none] (t_law_game x0 x1 x2) := by
  unfold m_law_game t_law_game
  exact (si_seq (si_setL (i := 3) (ev_mLst ev_lNil) (by decide : 3 < 9) trivial)
    fun l1 => (si_seq (N1 := fun (s2 : List M) => [some (.val x0), some (.val x1), some (.val x2), some (.lst s2), none, none, none, none, none]) (si_for (N := fun (s2 : List M) => [some (.val x0), some (.val x1), some (.val x2), some (.lst s2), none, none, none, none, none]) (gd := g1) l1 (ev_iR1 (ev_aCons (ev_var rfl) ev_aNil)) trivial (.is (.is (.is (.is (.any (.any (.any (.any (.any .nil))))))))) (gt_1 (fun _ => (by decide : 4 < 9)))
    (fun (b3 : D) (s2 : List M) => (si_seq (si_setL (i := 5) (ev_mLst ev_lNil) (by decide : 5 < 9) trivial)
    fun l4 => (si_seq (N1 := fun (s5 : List M) => [some (.val x0), some (.val x1), some (.val x2), some (.lst s2), some (.val b3), some (.lst s5), none, none, none]) (si_for (N := fun (s5 : List M) => [some (.val x0), some (.val x1), some (.val x2), some (.lst s2), some (.val b3), some (.lst s5), none, none, none]) (gd := g1) l4 (ev_iR1 (ev_aCons (ev_vM (ev_callM (ev_aCons (ev_var rfl) (ev_aCons (ev_var rfl) (ev_aCons ev_c ev_aNil))))) ev_aNil)) trivial (.is (.is (.is (.is (.is (.is (.any (.any (.any .nil))))))))) (gt_1 (fun _ => (by decide : 6 < 9)))
    (fun (b6 : D) (s5 : List M) => (si_if (ev_tV (ev_ev2 (ev_vM (ev_callM (ev_aCons (ev_var rfl) (ev_aCons (ev_var rfl) (ev_aCons ev_c ev_aNil))))) ev_c)) trivial
    (si_out (fun l7 => l7) (si_app (i := 5) rfl (ev_mV ev_c) trivial) fun l7 => (.is (.is (.is (.is (.is (.is (.any (.any (.any .nil))))))))))
    (si_seq (si_setV (i := 7) (ev_vS (ev_vM (ev_mLst (ev_lCons (ev_mV ev_c) (ev_lCons (ev_mV ev_c) (ev_lCons (ev_mV ev_c) (ev_lCons (ev_callM (ev_aCons (ev_var rfl) (ev_aCons (ev_var rfl) (ev_aCons ev_c ev_aNil)))) ev_lNil)))))) (ev_vM (ev_callM (ev_aCons (ev_var rfl) (ev_aCons (ev_var rfl) (ev_aCons ev_c ev_aNil)))))) (by decide : 7 < 9) trivial)
    fun v8 => (si_out (fun l10 => l10) (si_app (i := 5) rfl (ev_mV (ev_vM (ev_lcM (gd := g1) (ev_iR1 (ev_aCons (ev_var rfl) ev_aNil)) (gx_1 8) (fun (b9 : D) => ev_tT) (fun (b9 : D) => (ev_callM (ev_aCons (ev_var rfl) (ev_aCons (ev_var rfl) (ev_aCons (ev_var rfl) ev_aNil)))))))) trivial) fun l10 => (.is (.is (.is (.is (.is (.is (.any (.any (.any .nil))))))))))))))
    fun s5 => (si_out (fun l11 => l11) (si_fz (si_app (i := 3) rfl (ev_mV (ev_var rfl)) trivial)) fun l11 => (.is (.is (.is (.is (.any (.any (.any (.any (.any .nil))))))))))))))
    fun s2 => (si_retO rfl)))
theorem t_law_game_to (x0 x1 x2 : D) {a : Sto} {o : Out M} (e : fnO (t_law_game x0 x1 x2 a) = o) (ho : o ≠ .stuck) : f_law_game [x0, x1, x2] a = o := fn_to rfl (t_law_game_si x0 x1 x2) e ho
def t_law_copy (x0 : D) : Fw Unit Empty := (thn (seL (mLst lNil))
    fun l1 => (thn (forF (iSeq (eC x0)) g1 (fun (b3 : D) (s2 : List M) => (thn (appF (lcD (iSeq (eC b3)) g1 (fun (b4 : D) => tT) (fun (b4 : D) => (eIf (tV (ev2 dIs (eC b4) (eC .non))) (mV (eC .non)) (mV (vM (cN (un1 gList) (aCons (eC b4) aNil))))))) s2) fun l5 a => .nx l5 a)) l1)
    fun s2 => (rtF (.lst s2))))
theorem t_law_copy_si (x0 : D) : Si (fun _ : Unit => [none, none, none, none]) noK none m_law_copy [some (.val x0), none, none, none] (t_law_copy x0) := by
  unfold m_law_copy t_law_copy
  exact (si_seq (si_setL (i := 1) (ev_mLst ev_lNil) (by decide : 1 < 4) trivial)
    fun l1 => (si_seq (N1 := fun (s2 : List M) => [some (.val x0), some (.lst s2), none, none]) (si_for (N := fun (s2 : List M) => [some (.val x0), some (.lst s2), none, none]) (gd := g1) l1 (ev_iSeq (ev_var rfl)) trivial (.is (.is (.any (.any .nil)))) (gt_1 (fun _ => (by decide : 2 < 4)))
    (fun (b3 : D) (s2 : List M) => (si_out (fun l5 => l5) (si_app (i := 1) rfl (ev_lcM (gd := g1) (ev_iSeq (ev_var rfl)) (gx_1 3) (fun (b4 : D) => ev_tT) (fun (b4 : D) => (ev_eIf (ev_tV (ev_ev2 (ev_var rfl) ev_c)) (ev_mV ev_c) (ev_mV (ev_vM (ev_cN (ev_aCons (ev_var rfl) ev_aNil))))))) trivial) fun l5 => (.is (.is (.any (.any .nil)))))))
    fun s2 => (si_retO rfl)))
theorem t_law_copy_to (x0 : D) {a : Sto} {o : Out M} (e : fnO (t_law_copy x0 a) = o) (ho : o ≠ .stuck) : f_law_copy [x0] a = o := fn_to rfl (t_law_copy_si x0) e ho
def t_is_integer (x0 : D) : Fw Unit Empty := (reM (mV (vAn (ev1 (dIsi (tabT [.int, .bl])) (eC x0)) (vN (ev1 (dIsi (tabT [.bl])) (eC x0))))))
theorem t_is_integer_si (x0 : D) : Si (fun _ : Unit => [none]) noK none m_is_integer [some (.val x0)] (t_is_integer x0) := by
  unfold m_is_integer t_is_integer
  exact (si_ret (ev_mV (ev_vAn (ev_ev1 (ev_var rfl)) (ev_vN (ev_ev1 (ev_var rfl))))) trivial trivial)
theorem t_is_integer_to (x0 : D) {a : Sto} {o : Out M} (e : fnO (t_is_integer x0 a) = o) (ho : o ≠ .stuck) : f_is_integer [x0] a = o := fn_to rfl (t_is_integer_si x0) e ho
def t_check_number (x0 x1 x2 x3 : D) : Fw Unit Empty := (thn (ifF (tOn (tN (tV (vM (callM 1 f_is_integer (aCons (eC x1) aNil))))) (tOn (tV (ev2 (dI gLt) (eC x1) (eC x2))) (tV (ev2 (dI gGt) (eC x1) (eC x3)))))
    (raF (excM 2 ["what", "value"] (aCons (eC x0) (aCons (eC x1) aNil))))
    (nxF ()))
    fun _ => (reM (mV (eC x1))))
theorem t_check_number_si (x0 x1 x2 x3 : D) : Si (fun _ : Unit => [none, none, none, none]) noK none m_check_number [some (.val x0), some (.val x1), some (.val x2), some (.val x3)] (t_check_number x0 x1 x2 x3) := by
  unfold m_check_number t_check_number
  exact (si_seq (N1 := fun (_ : Unit) => [some (.val x0), some (.val x1), some (.val x2), some (.val x3)]) (si_if (ev_tOn (ev_tN (ev_tV (ev_vM (ev_callM (ev_aCons (ev_var rfl) ev_aNil))))) (ev_tOn (ev_tV (ev_ev2 (ev_var rfl) (ev_var rfl))) (ev_tV (ev_ev2 (ev_var rfl) (ev_var rfl))))) trivial
    (si_raise (ev_excM (ev_aCons (ev_var rfl) (ev_aCons (ev_var rfl) ev_aNil))) trivial trivial)
    (si_nil (.is (.is (.is (.is .nil))))))
    fun _ => (si_ret (ev_mV (ev_var rfl)) trivial trivial))
theorem t_check_number_to (x0 x1 x2 x3 : D) {a : Sto} {o : Out M} (e : fnO (t_check_number x0 x1 x2 x3 a) = o) (ho : o ≠ .stuck) : f_check_number [x0, x1, x2, x3] a = o := fn_to rfl (t_check_number_si x0 x1 x2 x3) e ho
def t_check_game (x0 : D) : Fw Unit Empty := (thn (ifF (tV (ev2 (dI gGt) (cV (un1 gLen) (aCons (eC x0) aNil)) (eC (.int 12000))))
    (raF (excM 5 ["limit"] (aCons (eC (.int 12000)) aNil)))
    (nxF ()))
    fun _ => (thn (forF (iSeq (eC x0)) g1 (fun (b2 : D) (u1 : Unit) => (thn (forF (iSeq (eC b2)) g1 (fun (b4 : D) (u3 : Unit) => (ifF (tV (ev2 dIsNot (eC b4) (eC .non)))
    (thn (forF (iSeq (eC b4)) g1 (fun (b6 : D) (u5 : Unit) => (thn (seU (callM 4 f_check_number (aCons (eC (.str "node")) (aCons (eC b6) (aCons (eC (.int 0)) (aCons (ev2 (dI DL.gSub) (cV (un1 gLen) (aCons (eC x0) aNil)) (eC (.int 1))) aNil)))))) fun _ a => .nx () a)) ()) fun u5 a => .nx () a)
    (nxF ()))) ()) fun u3 a => .nx () a)) ()) fun u1 a => .nx () a))
theorem t_check_game_si (x0 : D) : Si (fun _ : Unit => [none, none, none, none]) noK none m_check_game [some (.val x0), none, none, none] (t_check_game x0) := by
  unfold m_check_game t_check_game
  exact (si_seq (N1 := fun (_ : Unit) => [some (.val x0), none, none, none]) (si_if (ev_tV (ev_ev2 (ev_cV (ev_aCons (ev_var rfl) ev_aNil)) ev_c)) trivial
    (si_raise (ev_excM (ev_aCons ev_c ev_aNil)) trivial trivial)
    (si_nil (.is (.any (.any (.any .nil))))))
    fun _ => (si_out (N1 := fun (u1 : Unit) => [some (.val x0), none, none, none]) (fun u1 => ()) (si_for (N := fun (u1 : Unit) => [some (.val x0), none, none, none]) (gd := g1) () (ev_iSeq (ev_var rfl)) trivial (.is (.any (.any (.any .nil)))) (gt_1 (fun _ => (by decide : 1 < 4)))
    (fun (b2 : D) (u1 : Unit) => (si_out (N1 := fun (u3 : Unit) => [some (.val x0), some (.val b2), none, none]) (fun u3 => ()) (si_for (N := fun (u3 : Unit) => [some (.val x0), some (.val b2), none, none]) (gd := g1) () (ev_iSeq (ev_var rfl)) trivial (.is (.is (.any (.any .nil)))) (gt_1 (fun _ => (by decide : 2 < 4)))
    (fun (b4 : D) (u3 : Unit) => (si_if (ev_tV (ev_ev2 (ev_var rfl) ev_c)) trivial
    (si_out (N1 := fun (u5 : Unit) => [some (.val x0), some (.val b2), some (.val b4), none]) (fun u5 => ()) (si_for (N := fun (u5 : Unit) => [some (.val x0), some (.val b2), some (.val b4), none]) (gd := g1) () (ev_iSeq (ev_var rfl)) trivial (.is (.is (.is (.any .nil)))) (gt_1 (fun _ => (by decide : 3 < 4)))
    (fun (b6 : D) (u5 : Unit) => (si_out (fun _ => ()) (si_drop (ev_callM (ev_aCons ev_c (ev_aCons (ev_var rfl) (ev_aCons ev_c (ev_aCons (ev_ev2 (ev_cV (ev_aCons (ev_var rfl) ev_aNil)) ev_c) ev_aNil))))) trivial) fun _ => (.is (.is (.is (.any .nil))))))) fun u5 => (.is (.is (.any (.any .nil)))))
    (si_nil (.is (.is (.any (.any .nil)))))))) fun u3 => (.is (.any (.any (.any .nil))))))) fun u1 => (.any (.any (.any (.any .nil))))))
theorem t_check_game_to (x0 : D) {a : Sto} {o : Out M} (e : fnO (t_check_game x0 a) = o) (ho : o ≠ .stuck) : f_check_game [x0] a = o := fn_to rfl (t_check_game_si x0) e ho
def t_users_of (x0 : D) : Fw Unit Empty := (thn (seL (lcD (iSeq (eC x0)) g1 (fun (b2 : D) => tT) (fun (b2 : D) => (mLst lNil))))
    fun l1 => (thn (forF (iEn (aCons (eC x0) aNil)) g2 (fun (b4 : D × D) (s3 : List M) => (thn (forF (iEn (aCons (eC b4.2) aNil)) g2 (fun (b6 : D × D) (s5 : List M) => (ifF (tV (ev2 dIsNot (eC b6.2) (eC .non)))
    (thn (forF (iSeq (eC b6.2)) g1 (fun (b8 : D) (s7 : List M) => (thn (appPF Kd.no (mTup (lCons (mV (eC b4.1)) (lCons (mV (eC b6.1)) lNil))) s7 (jsAt (some []) (iD b8))) fun l9 a => .nx l9 a)) s5) fun s7 a => .nx s7 a)
    (nxF s5))) s3) fun s5 a => .nx s5 a)) l1)
    fun s3 => (rtF (.lst s3))))
theorem t_users_of_si (x0 : D) : Si (fun _ : Unit => [none, none, none, none, none, none, none]) noK none m_users_of [some (.val x0), none, none, none, none, none, none] (t_users_of x0) := by
  unfold m_users_of t_users_of
  exact (si_seq (si_setL (i := 1) (ev_lcM (gd := g1) (ev_iSeq (ev_var rfl)) (gx_1 3) (fun (b2 : D) => ev_tT) (fun (b2 : D) => (ev_mLst ev_lNil))) (by decide : 1 < 7) trivial)
    fun l1 => (si_seq (N1 := fun (s3 : List M) => [some (.val x0), some (.lst s3), none, none, none, none, none]) (si_for (N := fun (s3 : List M) => [some (.val x0), some (.lst s3), none, none, none, none, none]) (gd := g2) l1 (ev_iEn (ev_aCons (ev_var rfl) ev_aNil)) trivial (.is (.is (.any (.any (.any (.any (.any .nil))))))) (gt_2 (fun _ => (by decide : 2 < 7)) (fun _ => (by decide : 3 < 7)))
    (fun (b4 : D × D) (s3 : List M) => (si_out (N1 := fun (s5 : List M) => [some (.val x0), some (.lst s5), some (.val b4.1), some (.val b4.2), none, none, none]) (fun s5 => s5) (si_for (N := fun (s5 : List M) => [some (.val x0), some (.lst s5), some (.val b4.1), some (.val b4.2), none, none, none]) (gd := g2) s3 (ev_iEn (ev_aCons (ev_var rfl) ev_aNil)) trivial (.is (.is (.is (.is (.any (.any (.any .nil))))))) (gt_2 (fun _ => (by decide : 4 < 7)) (fun _ => (by decide : 5 < 7)))
    (fun (b6 : D × D) (s5 : List M) => (si_if (ev_tV (ev_ev2 (ev_var rfl) ev_c)) trivial
    (si_out (N1 := fun (s7 : List M) => [some (.val x0), some (.lst s7), some (.val b4.1), some (.val b4.2), some (.val b6.1), some (.val b6.2), none]) (fun s7 => s7) (si_for (N := fun (s7 : List M) => [some (.val x0), some (.lst s7), some (.val b4.1), some (.val b4.2), some (.val b6.1), some (.val b6.2), none]) (gd := g1) s5 (ev_iSeq (ev_var rfl)) trivial (.is (.is (.is (.is (.is (.is (.any .nil))))))) (gt_1 (fun _ => (by decide : 6 < 7)))
    (fun (b8 : D) (s7 : List M) => (si_out (fun l9 => l9) (si_appP (i := 1) rfl (by decide : 1 < 7) (p_at p_nil (q_var rfl)) (ev_mTup (ev_lCons (ev_mV (ev_var rfl)) (ev_lCons (ev_mV (ev_var rfl)) ev_lNil))) rfl rfl trivial trivial) fun l9 => (.is (.is (.is (.is (.is (.is (.any .nil)))))))))) fun s7 => (.is (.is (.is (.is (.any (.any (.any .nil))))))))
    (si_nil (.is (.is (.is (.is (.any (.any (.any .nil))))))))))) fun s5 => (.is (.is (.any (.any (.any (.any (.any .nil))))))))))
    fun s3 => (si_retO rfl)))
theorem t_users_of_to (x0 : D) {a : Sto} {o : Out M} (e : fnO (t_users_of x0 a) = o) (ho : o ≠ .stuck) : f_users_of [x0] a = o := fn_to rfl (t_users_of_si x0) e ho
def t_fail_options (x0 : D) (y1 : List M) (y2 : List M) : Fw (M × List (List M)) Empty := (thn (seL (mLst lNil))
    fun l1 => (thn (forF (iSeq (eC x0)) g2 (fun (b3 : D × D) (s2 : List M × List M × List M) => (ifFg (kin [1] 0 [some (.val x0), some (wP 1 s2.1), some (wP 2 s2.2.1), some (.lst s2.2.2), some (.val b3.1), some (.val b3.2)]) (tV (vS dIx (vS dIx (eC (freeze (.lst s2.1))) (eC b3.1)) (eC b3.2)))
    (thn (setPF Kd.no (mV (eC (.bl false))) s2.1 (jsAt (some []) (iD b3.1)) (iD b3.2))
    fun l4 => (thn (augPF Kd.no (fun i j => i - j) (mV (eC (.int 1))) s2.2.1 (some []) (iD b3.1))
    fun l5 => (ifFg (kin [2] 0 [some (.val x0), some (wP 1 l4), some (wP 2 l5), some (.lst s2.2.2), some (.val b3.1), some (.val b3.2)]) (tV (ev2 dEq (vS dIx (eC (freeze (.lst l5))) (eC b3.1)) (eC (.int 0))))
    (thn (appF (mV (eC b3.1)) s2.2.2) fun l6 a => .nx (l4, l5, l6) a)
    (nxF (l4, l5, s2.2.2)))))
    (nxF (s2.1, s2.2.1, s2.2.2)))) (y1, y2, l1))
    fun s2 => (nxF (.lst s2.2.2, [s2.1, s2.2.1]))))
theorem t_fail_options_si (x0 : D) (y1 : List M) (y2 : List M) : SiT [1, 2] m_fail_options [some (.val x0), some (wP 1 y1), some (wP 2 y2), none, none, none] (t_fail_options x0 y1 y2) := by
  unfold m_fail_options t_fail_options
  exact (sit_seq (si_setL (i := 3) (ev_mLst ev_lNil) (by decide : 3 < 6) trivial)
    fun l1 => (sit_seq (N1 := fun (s2 : List M × List M × List M) => [some (.val x0), some (wP 1 s2.1), some (wP 2 s2.2.1), some (.lst s2.2.2), none, none]) (si_for (N := fun (s2 : List M × List M × List M) => [some (.val x0), some (wP 1 s2.1), some (wP 2 s2.2.1), some (.lst s2.2.2), none, none]) (gd := g2) (y1, y2, l1) (ev_iSeq (ev_var rfl)) trivial (.is (.is (.is (.is (.any (.any .nil)))))) (gt_2 (fun _ => (by decide : 4 < 6)) (fun _ => (by decide : 5 < 6)))
    (fun (b3 : D × D) (s2 : List M × List M × List M) => (si_ifg (ev_tV (ev_vS (ev_vS (ev_var rfl) (ev_var rfl)) (ev_var rfl))) rfl trivial trivial
    (si_seq (si_setPw (w := wP 1) (i := 1) rfl (p_at p_nil (q_var rfl)) (q_var rfl) (ev_mV ev_c) rfl rfl trivial trivial)
    fun l4 => (si_seq (si_augPw (w := wP 2) (i := 2) rfl (by decide : 2 < 6) p_nil (q_var rfl))
    fun l5 => (si_ifg (ev_tV (ev_ev2 (ev_vS (ev_var rfl) (ev_var rfl)) ev_c)) rfl trivial trivial
    (si_out (fun l6 => (l4, l5, l6)) (si_app (i := 3) rfl (ev_mV (ev_var rfl)) trivial) fun l6 => (.is (.is (.is (.is (.any (.any .nil)))))))
    (si_nil (.is (.is (.is (.is (.any (.any .nil))))))))))
    (si_nil (.is (.is (.is (.is (.any (.any .nil))))))))))
    fun s2 => (sit_retO rfl ⟨rfl, rfl, trivial⟩)))
theorem t_fail_options_to (x0 : D) (y1 : List M) (y2 : List M) {a : Sto} {o : Out (M × List M)} (e : fnOT (t_fail_options x0 y1 y2 a) = o) (ho : o ≠ .stuck) : f_fail_options [.val x0, .lst y1, .lst y2] a = o := fn_toT (ms := [.val x0, .lst y1, .lst y2]) (by decide) (t_fail_options_si x0 y1 y2) e ho
def t_ranks (x0 : D) : Fw Unit Empty := (thn (seU (callM 1 f_check_game (aCons (eC x0) aNil)))
    fun _ => (thn (seV (vM (callM 1 f_users_of (aCons (eC x0) aNil))))
    fun v1 => (thn (seL (lcD (iSeq (eC x0)) g1 (fun (b3 : D) => tT) (fun (b3 : D) => (lcD (iSeq (eC b3)) g1 (fun (b4 : D) => tT) (fun (b4 : D) => (mV (ev2 dIsNot (eC b4) (eC .non))))))))
    fun l2 => (thn (seLg (kin [2] 0 [some (.val x0), some (.val v1), some (.lst l2), none, none, none, none, none, none, none, none, none, none]) (lcD (iSeq (eC (freeze (.lst l2)))) g1 (fun (b6 : D) => tT) (fun (b6 : D) => (mV (ev1 (gCnt true) (eC b6))))))
    fun l5 => (thn (seL (lcD (iSeq (eC x0)) g1 (fun (b8 : D) => tT) (fun (b8 : D) => (mV (eC (.int 0))))))
    fun l7 => (thn (seFg (kin [3] 0 [some (.val x0), some (.val v1), some (.lst l2), some (.lst l5), some (.lst l7), none, none, none, none, none, none, none, none]) (lcD (iEn (aCons (eC (freeze (.lst l5))) aNil)) g2 (fun (b10 : D × D) => (tV (ev2 dEq (eC b10.2) (eC (.int 0))))) (fun (b10 : D × D) => (mV (eC b10.1)))))
    fun v9 => (thn (seV (eC (.int 0)))
    fun v11 => (thn (whF (fun (s12 : List M × List M × List M × D × D) => Kd.no) (fun (s12 : List M × List M × List M × D × D) => (tTr (eC s12.2.2.2.1))) (fun (s12 : List M × List M × List M × D × D) => (thn (seV (ev2 (dI DL.gAdd) (eC s12.2.2.2.2) (eC (.int 1))))
    fun v13 => (thn (seL (mLst lNil))
    fun l14 => (thn (forF (iSeq (eC s12.2.2.2.1)) g1 (fun (b16 : D) (s15 : List M × List M × List M × List M) => (thn (setPF Kd.no (mV (eC v13)) s15.2.2.1 (some []) (iD b16))
    fun l17 => (thn (extD s15.2.2.2 uls2 (giveD 3 f_fail_options (dgCons (vS dIx (eC v1) (eC b16)) (dgHere (.lst s15.1) (dgHere (.lst s15.2.1) dgNil))))) fun s18 a => .nx (s18.2.1, s18.2.2, l17, s18.1) a))) (s12.1, s12.2.1, s12.2.2.1, l14))
    fun s15 => (thn (seFg (kin [7] 0 [some (.val x0), some (.val v1), some (.lst s15.1), some (.lst s15.2.1), some (.lst s15.2.2.1), some (.val s12.2.2.2.1), some (.val v13), some (.lst s15.2.2.2), none, none, none, none, none]) (cN (un1 gList) (aCons (eC (freeze (.lst s15.2.2.2))) aNil))) fun v19 a => .nx (s15.1, s15.2.1, s15.2.2.1, v19, v13) a))))) 100000 (l2, l5, l7, v9, v11))
    fun s12 => (rtF (.lst s12.2.2.1))))))))))
theorem t_ranks_si (x0 : D) : Si (fun _ : Unit => [none, none, none, none, none, none, none, none, none, none, none, none, none]) noK none m_ranks [some (.val x0), none, none, none, none, none, none, none, none, none, none, none, none] (t_ranks x0) := by
  unfold m_ranks t_ranks
  exact (si_seq (si_drop (ev_callM (ev_aCons (ev_var rfl) ev_aNil)) trivial)
    fun _ => (si_seq (si_setV (i := 1) (ev_vM (ev_callM (ev_aCons (ev_var rfl) ev_aNil))) (by decide : 1 < 13) trivial)
    fun v1 => (si_seq (si_setL (i := 2) (ev_lcM (gd := g1) (ev_iSeq (ev_var rfl)) (gx_1 9) (fun (b3 : D) => ev_tT) (fun (b3 : D) => (ev_lcM (gd := g1) (ev_iSeq (ev_var rfl)) (gx_1 10) (fun (b4 : D) => ev_tT) (fun (b4 : D) => (ev_mV (ev_ev2 (ev_var rfl) ev_c)))))) (by decide : 2 < 13) trivial)
    fun l2 => (si_seq (si_setLg (i := 3) (ev_lcM (gd := g1) (ev_iSeq (ev_var rfl)) (gx_1 11) (fun (b6 : D) => ev_tT) (fun (b6 : D) => (ev_mV (ev_ev1 (ev_var rfl))))) rfl (by decide : 3 < 13) trivial trivial)
    fun l5 => (si_seq (si_setL (i := 4) (ev_lcM (gd := g1) (ev_iSeq (ev_var rfl)) (gx_1 9) (fun (b8 : D) => ev_tT) (fun (b8 : D) => (ev_mV ev_c))) (by decide : 4 < 13) trivial)
    fun l7 => (si_seq (si_setFg (i := 5) (ev_lcP (gd := g2) (ev_iEn (ev_aCons (ev_var rfl) ev_aNil)) (gxp_2 8 12) (fun (b10 : D × D) => (ev_tV (ev_ev2 (ev_var rfl) ev_c))) (fun (b10 : D × D) => (ev_mV (ev_var rfl)))) rfl (by decide : 5 < 13) trivial trivial)
    fun v9 => (si_seq (si_setV (i := 6) ev_c (by decide : 6 < 13) trivial)
    fun v11 => (si_seq (N1 := fun (s12 : List M × List M × List M × D × D) => [some (.val x0), some (.val v1), some (.lst s12.1), some (.lst s12.2.1), some (.lst s12.2.2.1), some (.val s12.2.2.2.1), some (.val s12.2.2.2.2), none, none, none, none, none, none]) (si_while (N := fun (s12 : List M × List M × List M × D × D) => [some (.val x0), some (.val v1), some (.lst s12.1), some (.lst s12.2.1), some (.lst s12.2.2.1), some (.val s12.2.2.2.1), some (.val s12.2.2.2.2), none, none, none, none, none, none]) (k := fun (s12 : List M × List M × List M × D × D) => Kd.no) 100000 (l2, l5, l7, v9, v11) (.is (.is (.is (.is (.is (.is (.is (.any (.any (.any (.any (.any (.any .nil))))))))))))) (fun (s12 : List M × List M × List M × D × D) => (ev_tTr (ev_var rfl))) (fun _ => rfl) (fun _ => rfl) (fun (s12 : List M × List M × List M × D × D) => trivial) (fun (s12 : List M × List M × List M × D × D) => trivial)
    (fun (s12 : List M × List M × List M × D × D) => (si_seq (si_setV (i := 6) (ev_ev2 (ev_var rfl) ev_c) (by decide : 6 < 13) trivial)
    fun v13 => (si_seq (si_setL (i := 7) (ev_mLst ev_lNil) (by decide : 7 < 13) trivial)
    fun l14 => (si_seq (N1 := fun (s15 : List M × List M × List M × List M) => [some (.val x0), some (.val v1), some (.lst s15.1), some (.lst s15.2.1), some (.lst s15.2.2.1), some (.val s12.2.2.2.1), some (.val v13), some (.lst s15.2.2.2), none, none, none, none, none]) (si_for (N := fun (s15 : List M × List M × List M × List M) => [some (.val x0), some (.val v1), some (.lst s15.1), some (.lst s15.2.1), some (.lst s15.2.2.1), some (.val s12.2.2.2.1), some (.val v13), some (.lst s15.2.2.2), none, none, none, none, none]) (gd := g1) (s12.1, s12.2.1, s12.2.2.1, l14) (ev_iSeq (ev_var rfl)) trivial (.is (.is (.is (.is (.is (.is (.is (.is (.any (.any (.any (.any (.any .nil))))))))))))) (gt_1 (fun _ => (by decide : 8 < 13)))
    (fun (b16 : D) (s15 : List M × List M × List M × List M) => (si_seq (si_setP (i := 4) rfl p_nil (q_var rfl) (ev_mV (ev_var rfl)) rfl rfl trivial trivial)
    fun l17 => (si_out (fun s18 => (s18.2.1, s18.2.2, l17, s18.1)) (si_extX (i := 7) (is := [2, 3]) (ls := (fun t => [.lst t.1, .lst t.2])) (N0 := (fun (t : List M × List M) => [some (.val x0), some (.val v1), some (.lst t.1), some (.lst t.2), some (.lst l17), some (.val s12.2.2.2.1), some (.val v13), none, some (.val b16), none, none, none, none])) rfl (ex_give (evg_cons (ev_vS (ev_var rfl) (ev_var rfl)) (evg_here rfl (evg_here rfl evg_nil)))) (fun _ _ h => uls2_ls h) (fun _ => rfl) (fun _ => (by decide : 7 < 13))) fun s18 => (.is (.is (.is (.is (.is (.is (.is (.is (.any (.any (.any (.any (.any .nil)))))))))))))))))
    fun s15 => (si_out (fun v19 => (s15.1, s15.2.1, s15.2.2.1, v19, v13)) (si_setFg (i := 5) (ev_cN (ev_aCons (ev_var rfl) ev_aNil)) rfl (by decide : 5 < 13) trivial trivial) fun v19 => (.is (.is (.is (.is (.is (.is (.is (.any (.any (.any (.any (.any (.any .nil)))))))))))))))))))
    fun s12 => (si_retO rfl)))))))))
theorem t_ranks_to (x0 : D) {a : Sto} {o : Out M} (e : fnO (t_ranks x0 a) = o) (ho : o ≠ .stuck) : f_ranks [x0] a = o := fn_to rfl (t_ranks_si x0) e ho
def t_good_options (x0 x1 x2 : D) : Fw Unit Empty := (thn (seL (mLst lNil))
    fun l1 => (thn (forF (iEn (aCons (vS dIx (eC x0) (eC x2)) aNil)) g2 (fun (b3 : D × D) (s2 : List M) => (ifF (tAn (tV (ev2 dIsNot (eC b3.2) (eC .non))) (tV (cV (un1 gAll) (aCons (vM (lcD (iSeq (eC b3.2)) g1 (fun (b4 : D) => tT) (fun (b4 : D) => (mV (ev2 dEq (vS dIx (eC x1) (eC b4)) (eC (.int 0))))))) aNil))))
    (thn (appF (mV (eC b3.1)) s2) fun l5 a => .nx l5 a)
    (nxF s2))) l1)
    fun s2 => (rtF (.lst s2))))
theorem t_good_options_si (x0 x1 x2 : D) : Si (fun _ : Unit => [none, none, none, none, none, none, none]) noK none m_good_options [some (.val x0), some (.val x1), some (.val x2), none, none, none, none] (t_good_options x0 x1 x2) := by
  unfold m_good_options t_good_options
  exact (si_seq (si_setL (i := 3) (ev_mLst ev_lNil) (by decide : 3 < 7) trivial)
    fun l1 => (si_seq (N1 := fun (s2 : List M) => [some (.val x0), some (.val x1), some (.val x2), some (.lst s2), none, none, none]) (si_for (N := fun (s2 : List M) => [some (.val x0), some (.val x1), some (.val x2), some (.lst s2), none, none, none]) (gd := g2) l1 (ev_iEn (ev_aCons (ev_vS (ev_var rfl) (ev_var rfl)) ev_aNil)) trivial (.is (.is (.is (.is (.any (.any (.any .nil))))))) (gt_2 (fun _ => (by decide : 4 < 7)) (fun _ => (by decide : 5 < 7)))
    (fun (b3 : D × D) (s2 : List M) => (si_if (ev_tAn (ev_tV (ev_ev2 (ev_var rfl) ev_c)) (ev_tV (ev_cV (ev_aCons (ev_vM (ev_lcM (gd := g1) (ev_iSeq (ev_var rfl)) (gx_1 6) (fun (b4 : D) => ev_tT) (fun (b4 : D) => (ev_mV (ev_ev2 (ev_vS (ev_var rfl) (ev_var rfl)) ev_c))))) ev_aNil)))) trivial
    (si_out (fun l5 => l5) (si_app (i := 3) rfl (ev_mV (ev_var rfl)) trivial) fun l5 => (.is (.is (.is (.is (.any (.any (.any .nil))))))))
    (si_nil (.is (.is (.is (.is (.any (.any (.any .nil)))))))))))
    fun s2 => (si_retO rfl)))
theorem t_good_options_to (x0 x1 x2 : D) {a : Sto} {o : Out M} (e : fnO (t_good_options x0 x1 x2 a) = o) (ho : o ≠ .stuck) : f_good_options [x0, x1, x2] a = o := fn_to rfl (t_good_options_si x0 x1 x2) e ho
def t_spoiler_of (x0 x1 x2 : D) : Fw Unit Empty := (thn (forF (iSeq (eC x0)) g1 (fun (b2 : D) (u1 : Unit) => (ifF (tV (vCh (dI gLt) (dI gLt) (eC (.int 0)) (vS dIx (eC x1) (eC b2)) (eC x2)))
    (reM (mV (eC b2)))
    (nxF ()))) ())
    fun u1 => (reM (mV (eC .non))))
theorem t_spoiler_of_si (x0 x1 x2 : D) : Si (fun _ : Unit => [none, none, none, none]) noK none m_spoiler_of [some (.val x0), some (.val x1), some (.val x2), none] (t_spoiler_of x0 x1 x2) := by
  unfold m_spoiler_of t_spoiler_of
  exact (si_seq (N1 := fun (u1 : Unit) => [some (.val x0), some (.val x1), some (.val x2), none]) (si_for (N := fun (u1 : Unit) => [some (.val x0), some (.val x1), some (.val x2), none]) (gd := g1) () (ev_iSeq (ev_var rfl)) trivial (.is (.is (.is (.any .nil)))) (gt_1 (fun _ => (by decide : 3 < 4)))
    (fun (b2 : D) (u1 : Unit) => (si_if (ev_tV (ev_vCh ev_c (ev_vS (ev_var rfl) (ev_var rfl)) (ev_var rfl))) trivial
    (si_ret (ev_mV (ev_var rfl)) trivial trivial)
    (si_nil (.is (.is (.is (.any .nil))))))))
    fun u1 => (si_ret (ev_mV ev_c) trivial trivial))
theorem t_spoiler_of_to (x0 x1 x2 : D) {a : Sto} {o : Out M} (e : fnO (t_spoiler_of x0 x1 x2 a) = o) (ho : o ≠ .stuck) : f_spoiler_of [x0, x1, x2] a = o := fn_to rfl (t_spoiler_of_si x0 x1 x2) e ho
def t_spoilers (x0 x1 x2 : D) : Fw Unit Empty := (thn (ifF (tV (ev2 dEq (vS dIx (eC x1) (eC x2)) (eC (.int 0))))
    (reM (mLst lNil))
    (nxF ()))
    fun _ => (thn (seL (mLst lNil))
    fun l1 => (thn (forF (iSeq (vS dIx (eC x0) (eC x2))) g1 (fun (b3 : D) (s2 : List M) => (thn (appF (eIf (tV (ev2 dIs (eC b3) (eC .non))) (mV (eC .non)) (mV (vM (callM 3 f_spoiler_of (aCons (eC b3) (aCons (eC x1) (aCons (vS dIx (eC x1) (eC x2)) aNil))))))) s2) fun l4 a => .nx l4 a)) l1)
    fun s2 => (rtF (.lst s2)))))
theorem t_spoilers_si (x0 x1 x2 : D) : Si (fun _ : Unit => [none, none, none, none, none]) noK none m_spoilers [some (.val x0), some (.val x1), some (.val x2), none, none] (t_spoilers x0 x1 x2) := by
  unfold m_spoilers t_spoilers
  exact (si_seq (N1 := fun (_ : Unit) => [some (.val x0), some (.val x1), some (.val x2), none, none]) (si_if (ev_tV (ev_ev2 (ev_vS (ev_var rfl) (ev_var rfl)) ev_c)) trivial
    (si_ret (ev_mLst ev_lNil) trivial trivial)
    (si_nil (.is (.is (.is (.any (.any .nil)))))))
    fun _ => (si_seq (si_setL (i := 3) (ev_mLst ev_lNil) (by decide : 3 < 5) trivial)
    fun l1 => (si_seq (N1 := fun (s2 : List M) => [some (.val x0), some (.val x1), some (.val x2), some (.lst s2), none]) (si_for (N := fun (s2 : List M) => [some (.val x0), some (.val x1), some (.val x2), some (.lst s2), none]) (gd := g1) l1 (ev_iSeq (ev_vS (ev_var rfl) (ev_var rfl))) trivial (.is (.is (.is (.is (.any .nil))))) (gt_1 (fun _ => (by decide : 4 < 5)))
    (fun (b3 : D) (s2 : List M) => (si_out (fun l4 => l4) (si_app (i := 3) rfl (ev_eIf (ev_tV (ev_ev2 (ev_var rfl) ev_c)) (ev_mV ev_c) (ev_mV (ev_vM (ev_callM (ev_aCons (ev_var rfl) (ev_aCons (ev_var rfl) (ev_aCons (ev_vS (ev_var rfl) (ev_var rfl)) ev_aNil))))))) trivial) fun l4 => (.is (.is (.is (.is (.any .nil))))))))
    fun s2 => (si_retO rfl))))
theorem t_spoilers_to (x0 x1 x2 : D) {a : Sto} {o : Out M} (e : fnO (t_spoilers x0 x1 x2 a) = o) (ho : o ≠ .stuck) : f_spoilers [x0, x1, x2] a = o := fn_to rfl (t_spoilers_si x0 x1 x2) e ho
def t_law_spoilers (x0 x1 x2 : D) : Fw Unit Empty := (thn (seL (mLst lNil))
    fun l1 => (thn (forF (iSeq (eC x0)) g1 (fun (b3 : D) (s2 : List M) => (ifF (tV (ev2 dIs (eC b3) (eC .non)))
    (thn (appF (mV (eC .non)) s2) fun l4 a => .nx l4 a)
    (thn (seV (vM (lcD (iSeq (eC b3)) g1 (fun (b6 : D) => (tV (vCh (dI gLt) (dI gLt) (eC (.int 0)) (vS dIx (eC x1) (eC b6)) (eC x2)))) (fun (b6 : D) => (mV (eC b6))))))
    fun v5 => (thn (ifF (tV (ev2 dEq (cV (un1 gLen) (aCons (eC v5) aNil)) (eC (.int 0))))
    (reM (mV (eC .non)))
    (nxF ()))
    fun _ => (thn (appF (mV (vS dIx (eC v5) (eC (.int 0)))) s2) fun l7 a => .nx l7 a))))) l1)
    fun s2 => (reM (mV (eC (freeze (.lst s2)))))))
theorem t_law_spoilers_si (x0 x1 x2 : D) : Si (fun _ : Unit => [none, none, none, none, none, none, none]) noK none m_law_spoilers [some (.val x0), some (.val x1), some (.val x2), none, none, none, none] (t_law_spoilers x0 x1 x2) := by
  unfold m_law_spoilers t_law_spoilers
  exact (si_seq (si_setL (i := 3) (ev_mLst ev_lNil) (by decide : 3 < 7) trivial)
    fun l1 => (si_seq (N1 := fun (s2 : List M) => [some (.val x0), some (.val x1), some (.val x2), some (.lst s2), none, none, none]) (si_for (N := fun (s2 : List M) => [some (.val x0), some (.val x1), some (.val x2), some (.lst s2), none, none, none]) (gd := g1) l1 (ev_iSeq (ev_var rfl)) trivial (.is (.is (.is (.is (.any (.any (.any .nil))))))) (gt_1 (fun _ => (by decide : 4 < 7)))
    (fun (b3 : D) (s2 : List M) => (si_if (ev_tV (ev_ev2 (ev_var rfl) ev_c)) trivial
    (si_out (fun l4 => l4) (si_app (i := 3) rfl (ev_mV ev_c) trivial) fun l4 => (.is (.is (.is (.is (.any (.any (.any .nil))))))))
    (si_seq (si_setV (i := 5) (ev_vM (ev_lcM (gd := g1) (ev_iSeq (ev_var rfl)) (gx_1 6) (fun (b6 : D) => (ev_tV (ev_vCh ev_c (ev_vS (ev_var rfl) (ev_var rfl)) (ev_var rfl)))) (fun (b6 : D) => (ev_mV (ev_var rfl))))) (by decide : 5 < 7) trivial)
    fun v5 => (si_seq (N1 := fun (_ : Unit) => [some (.val x0), some (.val x1), some (.val x2), some (.lst s2), some (.val b3), some (.val v5), none]) (si_if (ev_tV (ev_ev2 (ev_cV (ev_aCons (ev_var rfl) ev_aNil)) ev_c)) trivial
    (si_ret (ev_mV ev_c) trivial trivial)
    (si_nil (.is (.is (.is (.is (.is (.is (.any .nil)))))))))
    fun _ => (si_out (fun l7 => l7) (si_app (i := 3) rfl (ev_mV (ev_vS (ev_var rfl) ev_c)) trivial) fun l7 => (.is (.is (.is (.is (.any (.any (.any .nil)))))))))))))
    fun s2 => (si_ret (ev_mV (ev_var rfl)) trivial trivial)))
theorem t_law_spoilers_to (x0 x1 x2 : D) {a : Sto} {o : Out M} (e : fnO (t_law_spoilers x0 x1 x2 a) = o) (ho : o ≠ .stuck) : f_law_spoilers [x0, x1, x2] a = o := fn_to rfl (t_law_spoilers_si x0 x1 x2) e ho
def t_law_good (x0 x1 : D) : Fw Unit Empty := (thn (seL (mLst lNil))
    fun l1 => (thn (forF (DL.iRng1 (aCons (cV (un1 gLen) (aCons (eC x0) aNil)) aNil)) g1 (fun (b3 : D) (s2 : List M) => (ifF (tAn (tV (ev2 dIsNot (vS dIx (eC x0) (eC b3)) (eC .non))) (tV (cV (un1 gAll) (aCons (vM (lcD (iSeq (vS dIx (eC x0) (eC b3))) g1 (fun (b4 : D) => tT) (fun (b4 : D) => (mV (ev2 dEq (vS dIx (eC x1) (eC b4)) (eC (.int 0))))))) aNil))))
    (thn (appF (mV (eC b3)) s2) fun l5 a => .nx l5 a)
    (nxF s2))) l1)
    fun s2 => (rtF (.lst s2))))
theorem t_law_good_si (x0 x1 : D) : Si (fun _ : Unit => [none, none, none, none, none]) noK none m_law_good [some (.val x0), some (.val x1), none, none, none] (t_law_good x0 x1) := by
  unfold m_law_good t_law_good
  exact (si_seq (si_setL (i := 2) (ev_mLst ev_lNil) (by decide : 2 < 5) trivial)
    fun l1 => (si_seq (N1 := fun (s2 : List M) => [some (.val x0), some (.val x1), some (.lst s2), none, none]) (si_for (N := fun (s2 : List M) => [some (.val x0), some (.val x1), some (.lst s2), none, none]) (gd := g1) l1 (ev_iR1 (ev_aCons (ev_cV (ev_aCons (ev_var rfl) ev_aNil)) ev_aNil)) trivial (.is (.is (.is (.any (.any .nil))))) (gt_1 (fun _ => (by decide : 3 < 5)))
    (fun (b3 : D) (s2 : List M) => (si_if (ev_tAn (ev_tV (ev_ev2 (ev_vS (ev_var rfl) (ev_var rfl)) ev_c)) (ev_tV (ev_cV (ev_aCons (ev_vM (ev_lcM (gd := g1) (ev_iSeq (ev_vS (ev_var rfl) (ev_var rfl))) (gx_1 4) (fun (b4 : D) => ev_tT) (fun (b4 : D) => (ev_mV (ev_ev2 (ev_vS (ev_var rfl) (ev_var rfl)) ev_c))))) ev_aNil)))) trivial
    (si_out (fun l5 => l5) (si_app (i := 2) rfl (ev_mV (ev_var rfl)) trivial) fun l5 => (.is (.is (.is (.any (.any .nil))))))
    (si_nil (.is (.is (.is (.any (.any .nil)))))))))
    fun s2 => (si_retO rfl)))
theorem t_law_good_to (x0 x1 : D) {a : Sto} {o : Out M} (e : fnO (t_law_good x0 x1 a) = o) (ho : o ≠ .stuck) : f_law_good [x0, x1] a = o := fn_to rfl (t_law_good_si x0 x1) e ho
def t_law_asked (x0 x1 x2 x3 : D) : Fw Unit Empty := (thn (seL (callM 3 f_good_options (aCons (eC x0) (aCons (eC x1) (aCons (eC x2) aNil)))))
    fun l1 => (thn (ifFg (kin [4] 0 [some (.val x0), some (.val x1), some (.val x2), some (.val x3), some (.lst l1), none, none, none]) (tOn (tN (tV (ev1 (dIsi (tabT [.lst])) (eC (freeze (.lst l1)))))) (tV (ev2 dNe (eC (freeze (.lst l1))) (vM (callM 2 f_law_good (aCons (vS dIx (eC x3) (eC x2)) (aCons (eC x1) aNil)))))))
    (reM (mV (eC (.bl false))))
    (nxF ()))
    fun _ => (thn (seV (vM (mLst lNil)))
    fun v2 => (thn (ifF (tV (ev2 (dI gGt) (vS dIx (eC x1) (eC x2)) (eC (.int 0))))
    (thn (seV (vM (callM 3 f_law_spoilers (aCons (vS dIx (eC x3) (eC x2)) (aCons (eC x1) (aCons (vS dIx (eC x1) (eC x2)) aNil)))))) fun v4 a => .nx v4 a)
    (nxF v2))
    fun s3 => (thn (seL (callM 3 f_spoilers (aCons (eC x0) (aCons (eC x1) (aCons (eC x2) aNil)))))
    fun l5 => (thn (ifFg (kin [6] 0 [some (.val x0), some (.val x1), some (.val x2), some (.val x3), some (.lst l1), some (.val s3), some (.lst l5), none]) (tOn (tV (ev2 dIs (eC s3) (eC .non))) (tOn (tN (tV (ev1 (dIsi (tabT [.lst])) (eC (freeze (.lst l5)))))) (tV (ev2 dNe (eC (freeze (.lst l5))) (eC s3)))))
    (reM (mV (eC (.bl false))))
    (nxF ()))
    fun _ => (thn (ifFg (kin [4] 0 [some (.val x0), some (.val x1), some (.val x2), some (.val x3), some (.lst l1), some (.val s3), some (.lst l5), none]) (tV (ev2 dNe (ev2 (dI gGt) (cV (un1 gLen) (aCons (eC (freeze (.lst l1))) aNil)) (eC (.int 0))) (ev2 dEq (vS dIx (eC x1) (eC x2)) (eC (.int 0)))))
    (reM (mV (eC (.bl false))))
    (nxF ()))
    fun _ => (thn (ifFg (kin [4, 6] 0 [some (.val x0), some (.val x1), some (.val x2), some (.val x3), some (.lst l1), some (.val s3), some (.lst l5), none]) (tV (cV (un1 gAny) (aCons (vM (lcD (iSeq (vNw dAdd (eC (freeze (.lst l1))) (eC (freeze (.lst l5))))) g1 (fun (b6 : D) => tT) (fun (b6 : D) => (mV (ev1 (dIsi (tabT [.bl])) (eC b6)))))) aNil)))
    (reM (mV (eC (.bl false))))
    (nxF ()))
    fun _ => (thn (appF (mV (eC (.int 0))) l1)
    fun l7 => (thn (appF (mV (eC .non)) l5)
    fun l8 => (reM (mV (vAn (ev2 dEq (vM (callM 3 f_good_options (aCons (eC x0) (aCons (eC x1) (aCons (eC x2) aNil))))) (vM (slN (eC (freeze (.lst l7))) oNo (oSome (ev1 gNeg (eC (.int 1))))))) (ev2 dEq (vM (callM 3 f_spoilers (aCons (eC x0) (aCons (eC x1) (aCons (eC x2) aNil))))) (eC s3)))))))))))))))
theorem t_law_asked_si (x0 x1 x2 x3 : D) : Si (fun _ : Unit => [none, none, none, none, none, none, none, none]) noK none m_law_asked [some (.val x0), some (.val x1), some (.val x2), some (.val x3), none, none, none, none] (t_law_asked x0 x1 x2 x3) := by
  unfold m_law_asked t_law_asked
  exact (si_seq (si_setL (i := 4) (ev_callM (ev_aCons (ev_var rfl) (ev_aCons (ev_var rfl) (ev_aCons (ev_var rfl) ev_aNil)))) (by decide : 4 < 8) trivial)
    fun l1 => (si_seq (N1 := fun (_ : Unit) => [some (.val x0), some (.val x1), some (.val x2), some (.val x3), some (.lst l1), none, none, none]) (si_ifg (ev_tOn (ev_tN (ev_tV (ev_ev1 (ev_var rfl)))) (ev_tV (ev_ev2 (ev_var rfl) (ev_vM (ev_callM (ev_aCons (ev_vS (ev_var rfl) (ev_var rfl)) (ev_aCons (ev_var rfl) ev_aNil))))))) rfl trivial trivial
    (si_ret (ev_mV ev_c) trivial trivial)
    (si_nil (.is (.is (.is (.is (.is (.any (.any (.any .nil))))))))))
    fun _ => (si_seq (si_setV (i := 5) (ev_vM (ev_mLst ev_lNil)) (by decide : 5 < 8) trivial)
    fun v2 => (si_seq (N1 := fun (s3 : D) => [some (.val x0), some (.val x1), some (.val x2), some (.val x3), some (.lst l1), some (.val s3), none, none]) (si_if (ev_tV (ev_ev2 (ev_vS (ev_var rfl) (ev_var rfl)) ev_c)) trivial
    (si_out (fun v4 => v4) (si_setV (i := 5) (ev_vM (ev_callM (ev_aCons (ev_vS (ev_var rfl) (ev_var rfl)) (ev_aCons (ev_var rfl) (ev_aCons (ev_vS (ev_var rfl) (ev_var rfl)) ev_aNil))))) (by decide : 5 < 8) trivial) fun v4 => (.is (.is (.is (.is (.is (.is (.any (.any .nil)))))))))
    (si_nil (.is (.is (.is (.is (.is (.is (.any (.any .nil))))))))))
    fun s3 => (si_seq (si_setL (i := 6) (ev_callM (ev_aCons (ev_var rfl) (ev_aCons (ev_var rfl) (ev_aCons (ev_var rfl) ev_aNil)))) (by decide : 6 < 8) trivial)
    fun l5 => (si_seq (N1 := fun (_ : Unit) => [some (.val x0), some (.val x1), some (.val x2), some (.val x3), some (.lst l1), some (.val s3), some (.lst l5), none]) (si_ifg (ev_tOn (ev_tV (ev_ev2 (ev_var rfl) ev_c)) (ev_tOn (ev_tN (ev_tV (ev_ev1 (ev_var rfl)))) (ev_tV (ev_ev2 (ev_var rfl) (ev_var rfl))))) rfl trivial trivial
    (si_ret (ev_mV ev_c) trivial trivial)
    (si_nil (.is (.is (.is (.is (.is (.is (.is (.any .nil))))))))))
    fun _ => (si_seq (N1 := fun (_ : Unit) => [some (.val x0), some (.val x1), some (.val x2), some (.val x3), some (.lst l1), some (.val s3), some (.lst l5), none]) (si_ifg (ev_tV (ev_ev2 (ev_ev2 (ev_cV (ev_aCons (ev_var rfl) ev_aNil)) ev_c) (ev_ev2 (ev_vS (ev_var rfl) (ev_var rfl)) ev_c))) rfl trivial trivial
    (si_ret (ev_mV ev_c) trivial trivial)
    (si_nil (.is (.is (.is (.is (.is (.is (.is (.any .nil))))))))))
    fun _ => (si_seq (N1 := fun (_ : Unit) => [some (.val x0), some (.val x1), some (.val x2), some (.val x3), some (.lst l1), some (.val s3), some (.lst l5), none]) (si_ifg (ev_tV (ev_cV (ev_aCons (ev_vM (ev_lcM (gd := g1) (ev_iSeq (ev_vNw (ev_var rfl) (ev_var rfl))) (gx_1 7) (fun (b6 : D) => ev_tT) (fun (b6 : D) => (ev_mV (ev_ev1 (ev_var rfl)))))) ev_aNil))) rfl trivial trivial
    (si_ret (ev_mV ev_c) trivial trivial)
    (si_nil (.is (.is (.is (.is (.is (.is (.is (.any .nil))))))))))
    fun _ => (si_seq (si_app (i := 4) rfl (ev_mV ev_c) trivial)
    fun l7 => (si_seq (si_app (i := 6) rfl (ev_mV ev_c) trivial)
    fun l8 => (si_ret (ev_mV (ev_vAn (ev_ev2 (ev_vM (ev_callM (ev_aCons (ev_var rfl) (ev_aCons (ev_var rfl) (ev_aCons (ev_var rfl) ev_aNil))))) (ev_vM (ev_slN (ev_var rfl) ev_oNo (ev_oSome (ev_ev1 ev_c))))) (ev_ev2 (ev_vM (ev_callM (ev_aCons (ev_var rfl) (ev_aCons (ev_var rfl) (ev_aCons (ev_var rfl) ev_aNil))))) (ev_var rfl)))) trivial trivial)))))))))))
theorem t_law_asked_to (x0 x1 x2 x3 : D) {a : Sto} {o : Out M} (e : fnO (t_law_asked x0 x1 x2 x3 a) = o) (ho : o ≠ .stuck) : f_law_asked [x0, x1, x2, x3] a = o := fn_to rfl (t_law_asked_si x0 x1 x2 x3) e ho
def t_law (x0 : D) : Fw Unit Empty := (thn (seV (vM (callM 3 f_law_draw (aCons (eC x0) (aCons (eC (.loc 0)) (aCons (eC (.int 14)) aNil))))))
    fun v1 => (thn (ifF (tV (ev2 dEq (vM (callM 3 f_law_draw (aCons (eC x0) (aCons (eC (.loc 0)) (aCons (eC (.int 3)) aNil))))) (eC (.int 0))))
    (thn (seV (vNw dAdd (eC (.int 30)) (vM (callM 3 f_law_draw (aCons (eC x0) (aCons (eC (.loc 0)) (aCons (eC (.int 30)) aNil))))))) fun v3 a => .nx v3 a)
    (nxF v1))
    fun s2 => (thn (seV (vM (callM 3 f_law_game (aCons (eC x0) (aCons (eC (.loc 0)) (aCons (eC s2) aNil))))))
    fun v4 => (thn (seV (vM (callM 1 f_law_copy (aCons (eC v4) aNil))))
    fun v5 => (thn (seV (vM (callM 1 f_ranks (aCons (eC v5) aNil))))
    fun v6 => (thn (seV (vM (cN (un1 gList) (aCons (eC v6) aNil))))
    fun v7 => (thn (forF (DL.iRng1 (aCons (eC s2) aNil)) g1 (fun (b9 : D) (u8 : Unit) => (ifF (tN (tV (vM (callM 4 f_law_asked (aCons (eC v5) (aCons (eC v6) (aCons (eC b9) (aCons (eC v4) aNil))))))))
    (reM (mV (eC (.bl false))))
    (nxF ()))) ())
    fun u8 => (reM (mV (vAn (ev2 dEq (eC v5) (eC v4)) (ev2 dEq (eC v6) (eC v7))))))))))))
def r_law : SM := (sSeq (sSet 2 [] (mV (vM (callM 3 f_law_draw (aCons (eVar 0) (aCons (eVar 1) (aCons (eC (.int 14)) aNil))))))) (sSeq (sIf [] (tV (ev2 dEq (vM (callM 3 f_law_draw (aCons (eVar 0) (aCons (eVar 1) (aCons (eC (.int 3)) aNil))))) (eC (.int 0)))) (sSet 2 [] (mV (vNw dAdd (eC (.int 30)) (vM (callM 3 f_law_draw (aCons (eVar 0) (aCons (eVar 1) (aCons (eC (.int 30)) aNil)))))))) sNil) (sSeq (sSet 3 [] (mV (vM (callM 3 f_law_game (aCons (eVar 0) (aCons (eVar 1) (aCons (eVar 2) aNil))))))) (sSeq (sSet 4 [] (mV (vM (callM 1 f_law_copy (aCons (eVar 3) aNil))))) (sSeq (sSet 5 [] (mV (vM (callM 1 f_ranks (aCons (eVar 4) aNil))))) (sSeq (sSet 6 [] (mV (vM (cN (un1 gList) (aCons (eVar 5) aNil))))) (sSeq (sFor true [] (DL.iRng1 (aCons (eVar 2) aNil)) (gOne 7) (sIf [] (tN (tV (vM (callM 4 f_law_asked (aCons (eVar 4) (aCons (eVar 5) (aCons (eVar 7) (aCons (eVar 3) aNil)))))))) (sRet [] (mV (eC (.bl false)))) sNil)) (sRet [] (mV (vAn (ev2 dEq (eVar 4) (eVar 3)) (ev2 dEq (eVar 5) (eVar 6))))))))))))
theorem t_law_si (x0 : D) : Si (fun _ : Unit => [none, none, none, none, none, none, none, none]) noK none r_law [some (.val x0), some (.val (.loc 0)), none, none, none, none, none, none] (t_law x0) := by
  unfold r_law t_law
  exact (si_seq (si_setV (i := 2) (ev_vM (ev_callM (ev_aCons (ev_var rfl) (ev_aCons (ev_var rfl) (ev_aCons ev_c ev_aNil))))) (by decide : 2 < 8) trivial)
    fun v1 => (si_seq (N1 := fun (s2 : D) => [some (.val x0), some (.val (.loc 0)), some (.val s2), none, none, none, none, none]) (si_if (ev_tV (ev_ev2 (ev_vM (ev_callM (ev_aCons (ev_var rfl) (ev_aCons (ev_var rfl) (ev_aCons ev_c ev_aNil))))) ev_c)) trivial
    (si_out (fun v3 => v3) (si_setV (i := 2) (ev_vNw ev_c (ev_vM (ev_callM (ev_aCons (ev_var rfl) (ev_aCons (ev_var rfl) (ev_aCons ev_c ev_aNil)))))) (by decide : 2 < 8) trivial) fun v3 => (.is (.is (.is (.any (.any (.any (.any (.any .nil)))))))))
    (si_nil (.is (.is (.is (.any (.any (.any (.any (.any .nil))))))))))
    fun s2 => (si_seq (si_setV (i := 3) (ev_vM (ev_callM (ev_aCons (ev_var rfl) (ev_aCons (ev_var rfl) (ev_aCons (ev_var rfl) ev_aNil))))) (by decide : 3 < 8) trivial)
    fun v4 => (si_seq (si_setV (i := 4) (ev_vM (ev_callM (ev_aCons (ev_var rfl) ev_aNil))) (by decide : 4 < 8) trivial)
    fun v5 => (si_seq (si_setV (i := 5) (ev_vM (ev_callM (ev_aCons (ev_var rfl) ev_aNil))) (by decide : 5 < 8) trivial)
    fun v6 => (si_seq (si_setV (i := 6) (ev_vM (ev_cN (ev_aCons (ev_var rfl) ev_aNil))) (by decide : 6 < 8) trivial)
    fun v7 => (si_seq (N1 := fun (u8 : Unit) => [some (.val x0), some (.val (.loc 0)), some (.val s2), some (.val v4), some (.val v5), some (.val v6), some (.val v7), none]) (si_for (N := fun (u8 : Unit) => [some (.val x0), some (.val (.loc 0)), some (.val s2), some (.val v4), some (.val v5), some (.val v6), some (.val v7), none]) (gd := g1) () (ev_iR1 (ev_aCons (ev_var rfl) ev_aNil)) trivial (.is (.is (.is (.is (.is (.is (.is (.any .nil)))))))) (gt_1 (fun _ => (by decide : 7 < 8)))
    (fun (b9 : D) (u8 : Unit) => (si_if (ev_tN (ev_tV (ev_vM (ev_callM (ev_aCons (ev_var rfl) (ev_aCons (ev_var rfl) (ev_aCons (ev_var rfl) (ev_aCons (ev_var rfl) ev_aNil)))))))) trivial
    (si_ret (ev_mV ev_c) trivial trivial)
    (si_nil (.is (.is (.is (.is (.is (.is (.is (.any .nil))))))))))))
    fun u8 => (si_ret (ev_mV (ev_vAn (ev_ev2 (ev_var rfl) (ev_var rfl)) (ev_ev2 (ev_var rfl) (ev_var rfl)))) trivial trivial))))))))
theorem t_law_to (ns : List Int) (h : ∀ p q : Int, ∃ a, t_law (.scr ns) [.nums [p, q, 1, 0]] = .rt (.val (.bl true)) a) : f_law [.scr ns] [] = .ok (.val (.bl true)) [] := law_to (n := 6) ns (t_law_si (.scr ns)) h
end
noncomputable section
set_option synthInstance.maxSize 2000
open TL TP
@[irreducible] def d_law_target (x0 : (List Int)) (x2 : Int) : X Sto Int :=
  fnT (thnT (sbn (bnd (drawT x0 (3 : Int)) fun y1_ => (ret (decide (y1_ = (0 : Int))))) fun b => if b = true then
    (reT (drawT x0 x2))
    else (nxT ()))
    fun (w2_ : Unit) => (reT (bnd (bnd (drawT x0 (if (4 : Int) < x2 then (4 : Int) else x2)) fun y3_ => (ret ((x2 - (1 : Int)) - y3_))) fun y4_ => (ret y4_))))
theorem ok_law_target (x0 : (List Int)) (x2 : Int) : G Rq (vm D.int) (d_law_target x0 x2) (f_law_target [eScr x0, .loc 0, D.int x2]) := by
  unfold d_law_target
  exact fn_T (R := Rq) (t := t_law_target (eScr x0) (.loc 0) (D.int x2)) (K := fun _ => Rq) (eK := fun k : Empty => k)
    (s_thn (N1 := (fun _ => Rq)) (eN1 := (fun w => ())) (s_ifX (TL.x_tV (TL.x_ev2 (gVX (g_vM (TL.x_callM (a_P (p_c rfl) (a_P (p_c rfl) (a_P (p_c rfl) (a_nil (f_if rfl (ok_draw _ _)))))))) fun y1_ => (gVP (p_c rfl) (f_oo (w_eqI _ _)))))) Le.refl
    (s_re (TL.x_callM (a_P (p_c rfl) (a_P (p_c rfl) (a_P (p_c rfl) (a_nil (f_if rfl (ok_draw _ _))))))) Le.refl Le.refl)
    (s_nx rfl Le.refl))
    fun w2_ => (s_re (g_mV (TL.x_cV (a_X (TL.x_ev2 (gVP (p_ev2 (p_c rfl) (p_c rfl) rfl) (gVX (g_vM (TL.x_callM (a_P (p_c rfl) (a_P (p_c rfl) (a_P (p_cV (p_aCons (p_c rfl) (p_aCons (p_c rfl) p_aNil)) (fun _ => rfl) rfl) (a_nil (f_if rfl (ok_draw _ _)))))))) fun y3_ => (f_oo rfl)))) fun y4_ => (a_nil (f_sw (fun _ => rfl) rfl))))) Le.refl Le.refl)) (fun a o e ho => t_law_target_to _ _ _ e ho)
@[irreducible] def d_law_game (x0 : (List Int)) (x2 : Int) : X Sto (List (List (Option (List Int)))) :=
  fnT (sbn (ret ([] : List (List (Option (List Int)))))
    fun (l1 : List (List (Option (List Int)))) => (thnT (sbn (grd (bigP x2) (ret (rangeL x2))) fun l8_ => forT (fun (b3 : Int) (s2 : ((List (List (Option (List Int)))))) => (sbn (ret ([] : List (Option (List Int))))
    fun (l4 : List (Option (List Int))) => (thnT (sbn (bnd (drawT x0 (4 : Int)) fun y1_ => (grd (bigP y1_) (ret (rangeL y1_)))) fun l7_ => forT (fun (b6 : Int) (s5 : ((List (Option (List Int))))) => (sbn (bnd (drawT x0 (4 : Int)) fun y2_ => (ret (decide (y2_ = (0 : Int))))) fun b => if b = true then
    (thnT (appT s5 none)
    fun (l7 : List (Option (List Int))) => (nxT l7))
    else (sbn (bnd (bnd (drawT x0 (4 : Int)) fun y3_ => (ret [(1 : Int), (1 : Int), (2 : Int), y3_])) fun y4_ => (bnd (drawT x0 (4 : Int)) fun y5_ => (ixX y4_ y5_)))
    fun (v8 : Int) => (thnT (sbn (bnd (bnd (grd (bigP v8) (ret (rangeL v8))) fun l6_ => grd (l6_.length ≤ 100000) (mapX (fun (b9 : Int) => (d_law_target x0 x2)) l6_)) fun x => ret (some x)) fun x => appT s5 x)
    fun (l10 : List (Option (List Int))) => (nxT l10))))) l7_ l4)
    fun (s5 : ((List (Option (List Int))))) => (thnT (appT s2 s5)
    fun (l11 : List (List (Option (List Int)))) => (nxT l11))))) l8_ l1)
    fun (s2 : ((List (List (Option (List Int)))))) => (rtT s2)))
theorem ok_law_game (x0 : (List Int)) (x2 : Int) : G Rq (lm (vm (eL (eO (eL D.int))))) (d_law_game x0 x2) (f_law_game [eScr x0, .loc 0, D.int x2]) := by
  unfold d_law_game
  exact fn_T (R := Rq) (t := t_law_game (eScr x0) (.loc 0) (D.int x2)) (K := fun _ => Rq) (eK := fun k : Empty => k)
    (s_L (g_pm (p_mLst p_lNil (of_decide_eq_true rfl)) rfl) Le.refl
    fun l1 => (by exact (s_thn (N1 := (fun _ => Rq)) (eN1 := (fun w => (List.map (vm (eL (eO (eL D.int)))) w))) (s_for (N := (fun _ => Rq)) (eN := (fun w => (List.map (vm (eL (eO (eL D.int)))) w))) (s := (grd (bigP x2) (ret (rangeL x2)))) (e := D.int) l1 (ik_it (i_rng1 (a_P (p_c rfl) (a_nil (f_rng1 (g_ret rfl)))))) Le.refl Le.refl rfl (gd1 (e := D.int))
    fun b3 s2 => (s_L (g_pm (p_mLst p_lNil (of_decide_eq_true rfl)) rfl) Le.refl
    fun l4 => (by exact (s_thn (N1 := (fun _ => Rq)) (eN1 := (fun w => (List.map (vm (eO (eL D.int))) w))) (s_for (N := (fun _ => Rq)) (eN := (fun w => (List.map (vm (eO (eL D.int))) w))) (s := (bnd (drawT x0 (4 : Int)) fun y1_ => (grd (bigP y1_) (ret (rangeL y1_))))) (e := D.int) l4 (ik_it (i_rng1 (a_X (g_vM (TL.x_callM (a_P (p_c rfl) (a_P (p_c rfl) (a_P (p_c rfl) (a_nil (f_if rfl (ok_draw _ _)))))))) fun y1_ => (a_nil (f_rng1 (g_ret rfl)))))) Le.refl Le.refl rfl (gd1 (e := D.int))
    fun b6 s5 => (s_ifX (TL.x_tV (TL.x_ev2 (gVX (g_vM (TL.x_callM (a_P (p_c rfl) (a_P (p_c rfl) (a_P (p_c rfl) (a_nil (f_if rfl (ok_draw _ _)))))))) fun y2_ => (gVP (p_c rfl) (f_oo (w_eqI _ _)))))) Le.refl
    (s_thn (N1 := fun _ => Rq) (eN1 := List.map (vm (eO (eL D.int)))) (s_appP (m := (vm (eO (eL D.int)))) (p_mV (p_c rfl)) rfl rfl)
    fun l7 => (s_nx rfl Le.refl))
    (s_V (TL.x_vS (gVX (g_vM (m := (lm (vm D.int))) (TL.x_mLst (l_P (p_mV (p_c rfl)) (l_P (p_mV (p_c rfl)) (l_P (p_mV (p_c rfl)) (l_X (TL.x_callM (a_P (p_c rfl) (a_P (p_c rfl) (a_P (p_c rfl) (a_nil (f_if rfl (ok_draw _ _))))))) fun y3_ => (l_nil (f_le (of_decide_eq_true rfl) (g_ret rfl))))))))) fun y4_ => (gVX (g_vM (TL.x_callM (a_P (p_c rfl) (a_P (p_c rfl) (a_P (p_c rfl) (a_nil (f_if rfl (ok_draw _ _)))))))) fun y5_ => o_ixL))) Le.refl
    fun v8 => (by exact (s_thn (N1 := fun _ => Rq) (eN1 := List.map (vm (eO (eL D.int)))) (s_app (m := (vm (eO (eL D.int)))) (g_coe (f := some) (fun _ => rfl) (g_mV (g_vM (TL.x_lcD (gX (e1 := ml D.int) (s1 := (grd (bigP v8) (ret (rangeL v8)))) (ik_it (i_rng1 (a_P (p_c rfl) (a_nil (f_rng1 (g_ret rfl)))))) fun l6_ => (f_lcXm (m := (vm D.int)) (F := fun (b9 : Int) => (d_law_target x0 x2)) (gd1 (e := D.int)) (fun _ => p_tT) fun b9 => (TL.x_callM (a_P (p_c rfl) (a_P (p_c rfl) (a_P (p_c rfl) (a_nil (f_if rfl (ok_law_target x0 x2))))))))))))) Le.refl rfl)
    fun l10 => (s_nx rfl Le.refl))))))
    fun s5 => (by exact (s_thn (N1 := fun _ => Rq) (eN1 := List.map (vm (eL (eO (eL D.int))))) (s_appP (m := (vm (eL (eO (eL D.int))))) (p_mV (p_c (fz_l (m := (vm (eO (eL D.int)))) s5))) rfl rfl)
    fun l11 => (s_nx rfl Le.refl)))))))
    fun s2 => (s_rt rfl Le.refl)))) (fun a o e ho => t_law_game_to _ _ _ e ho)
@[irreducible] def d_law_copy (x0 : (List (List (Option (List Int))))) : X Unit (List (List (Option (List Int)))) :=
  fnT (sbn (ret ([] : List (List (Option (List Int)))))
    fun (l1 : List (List (Option (List Int)))) => (thnT (forT (fun (b3 : (List (Option (List Int)))) (s2 : ((List (List (Option (List Int)))))) => (thnT (sbn (bnd (ret (b3)) fun l2_ => grd (l2_.length ≤ 100000) (mapX (fun (b4 : (Option (List Int))) => (bnd (ret b4.isNone) fun b => if b = true then (ret none) else (bnd (bnd (theX b4) fun y1_ => (ret y1_)) fun x => ret (some x)))) l2_)) fun x => appT s2 x)
    fun (l5 : List (List (Option (List Int)))) => (nxT l5))) (x0) l1)
    fun (s2 : ((List (List (Option (List Int)))))) => (rtT s2)))
theorem ok_law_copy (x0 : (List (List (Option (List Int))))) : FnP (lm (lm (vm (eO (eL D.int))))) (d_law_copy x0) (f_law_copy [(eL (eL (eO (eL D.int)))) x0]) := fnP_g fun a0 g0 => by
  unfold d_law_copy
  exact fn_T (R := (Rp a0)) (t := t_law_copy ((eL (eL (eO (eL D.int)))) x0)) (K := fun _ => (Rp a0)) (eK := fun k : Empty => k)
    (s_L (g_pm (p_mLst p_lNil (of_decide_eq_true rfl)) rfl) Le.refl
    fun l1 => (by exact (s_thn (N1 := (fun _ => (Rp a0))) (eN1 := (fun w => (List.map (lm (vm (eO (eL D.int)))) w))) (s_forP (N := (fun _ => (Rp a0))) (eN := (fun w => (List.map (lm (vm (eO (eL D.int)))) w))) (xs := (x0)) (e := (eL (eO (eL D.int)))) l1 (ik_it (i_P (p_c rfl) it_L (g_ret rfl))) Le.refl Le.refl rfl (gd1 (e := (eL (eO (eL D.int)))))
    fun b3 s2 => (by exact (s_thn (N1 := fun _ => (Rp a0)) (eN1 := List.map (lm (vm (eO (eL D.int))))) (s_app (m := (lm (vm (eO (eL D.int))))) (TL.x_lcD (gX (e1 := ml (eO (eL D.int))) (s1 := (ret (b3))) (ik_it (i_P (p_c rfl) it_L (g_ret rfl))) fun l2_ => (f_lcXm (m := (vm (eO (eL D.int)))) (F := fun (b4 : (Option (List Int))) => (bnd (ret b4.isNone) fun b => if b = true then (ret none) else (bnd (bnd (theX b4) fun y1_ => (ret y1_)) fun x => ret (some x)))) (gd1 (e := (eO (eL D.int)))) (fun _ => p_tT) fun b4 => (TL.x_eIf (g_pt (p_tV (p_ev2 (p_c rfl) (p_c rfl) (w_is _)))) (g_pm (p_mV (p_c rfl)) rfl) (g_coe (f := some) (fun _ => rfl) (g_mV (g_vM (TL.x_cN (a_X (g_the (p_c rfl)) fun y1_ => (a_nil (f_sm (fun _ => rfl) w_listM))))))))))) Le.refl rfl)
    fun l5 => (s_nx rfl Le.refl))))
    fun s2 => (s_rt rfl Le.refl)))) (fun a o e ho => t_law_copy_to _ e ho)
theorem ok_is_integer (x0 : Int) : FnP (vm D.bl) (TP.s_is_integer x0) (f_is_integer [D.int x0]) := fnP_g fun a0 g0 => by
  unfold TP.s_is_integer
  exact fn_T (R := (Rp a0)) (t := t_is_integer (D.int x0)) (K := fun _ => (Rp a0)) (eK := fun k : Empty => k)
    (s_reP (p_mV (p_vAn (p_ev1 (p_c rfl) rfl) (p_vN (p_ev1 (p_c rfl) rfl)))) rfl Le.refl) (fun a o e ho => t_is_integer_to _ e ho)
theorem ok_check_number (x0 : Str) (x1 : Int) (x2 : Int) (x3 : Int) : FnP (vm D.int) (TP.s_check_number x0 x1 x2 x3) (f_check_number [D.str x0, D.int x1, D.int x2, D.int x3]) := fnP_g fun a0 g0 => by
  unfold TP.s_check_number
  exact fn_T (R := (Rp a0)) (t := t_check_number (D.str x0) (D.int x1) (D.int x2) (D.int x3)) (K := fun _ => (Rp a0)) (eK := fun k : Empty => k)
    (s_thn (N1 := (fun _ => (Rp a0))) (eN1 := (fun w => ())) (s_ifX (TL.x_tOn (TL.x_tN (TL.x_tV (g_vM (TL.x_callM (a_P (p_c rfl) (a_nil (f_if rfl (g_fnP (ok_is_integer x1))))))))) (g_pt (p_tOn (p_tV (p_ev2 (p_c rfl) (p_c rfl) rfl)) (p_tV (p_ev2 (p_c rfl) (p_c rfl) rfl))))) Le.refl
    (s_ra (TL.x_exc (e := vm TL.eN) (s := (thr 2 [D.str x0, D.int x1])) (a_P (p_c rfl) (a_P (p_c rfl) (a_nil (f_exc rfl rfl (.cons (NoL.nl (e := D.str) _) (.cons (NoL.nl (e := D.int) _) .nil))))))) Le.refl)
    (s_nx rfl Le.refl))
    fun w1_ => (s_reP (p_mV (p_c rfl)) rfl Le.refl)) (fun a o e ho => t_check_number_to _ _ _ _ e ho)
theorem ok_check_game (x0 : (List (List (Option (List Int))))) : FnP (vm TL.eN) (TP.s_check_game x0) (f_check_game [(eL (eL (eO (eL D.int)))) x0]) := fnP_g fun a0 g0 => by
  unfold TP.s_check_game
  exact fn_U (R := (Rp a0)) (t := t_check_game ((eL (eL (eO (eL D.int)))) x0)) (K := fun _ => (Rp a0)) (eK := fun k : Empty => k)
    (s_thn (N1 := (fun _ => (Rp a0))) (eN1 := (fun w => ())) (s_if (p_tV (p_ev2 (p_cV (p_aCons (p_c rfl) p_aNil) w_lenL rfl) (p_c rfl) rfl))
    (s_ra (TL.x_exc (e := vm TL.eN) (s := (thr 5 [D.int (12000 : Int)])) (a_P (p_c rfl) (a_nil (f_exc rfl rfl (.cons (NoL.nl (e := D.int) _) .nil))))) Le.refl)
    (s_nx rfl Le.refl))
    fun w1_ => (by exact (s_thn (N1 := (fun _ => (Rp a0))) (eN1 := (fun w => ())) (s_forP (N := (fun _ => (Rp a0))) (eN := (fun w => ())) (xs := (x0)) (e := (eL (eO (eL D.int)))) () (ik_it (i_P (p_c rfl) it_L (g_ret rfl))) Le.refl Le.refl rfl (gd1 (e := (eL (eO (eL D.int)))))
    fun b2 u1 => (by exact (s_thn (N1 := (fun _ => (Rp a0))) (eN1 := (fun w => ())) (s_forP (N := (fun _ => (Rp a0))) (eN := (fun w => ())) (xs := (b2)) (e := (eO (eL D.int))) () (ik_it (i_P (p_c rfl) it_L (g_ret rfl))) Le.refl Le.refl rfl (gd1 (e := (eO (eL D.int))))
    fun b4 u3 => (s_if (p_tV (p_ev2 (p_c rfl) (p_c rfl) (w_isnt _)))
    (s_thn (N1 := (fun _ => (Rp a0))) (eN1 := (fun w => ())) (s_for (N := (fun _ => (Rp a0))) (eN := (fun w => ())) (s := (bnd (theX b4) fun y2_ => ret (y2_))) (e := D.int) () (ik_it (i_X (e := D.int) (g := id) (g_the (p_c rfl)) (fun _ => it_L) fun y2_ => g_ret rfl)) Le.refl Le.refl rfl (gd1 (e := D.int))
    fun b6 u5 => (s_U (TL.x_callM (a_P (p_c rfl) (a_P (p_c rfl) (a_P (p_c rfl) (a_P (p_ev2 (p_cV (p_aCons (p_c rfl) p_aNil) w_lenL rfl) (p_c rfl) rfl) (a_nil (f_if rfl (g_fnP (ok_check_number ("node" : Str) b6 (0 : Int) ((x0.length : Int) - (1 : Int))))))))))) Le.refl
    (s_nx rfl Le.refl)))
    fun u5 => (s_nx rfl Le.refl))
    (s_nx rfl Le.refl)))
    fun u3 => (s_nx rfl Le.refl))))
    fun u1 => (s_nx rfl Le.refl)))) (fun a o e ho => t_check_game_to _ e ho)
theorem ok_users_of (x0 : (List (List (Option (List Int))))) : FnP (lm (lm (vm (eP D.int D.int)))) (TP.s_users_of x0) (f_users_of [(eL (eL (eO (eL D.int)))) x0]) := fnP_g fun a0 g0 => by
  unfold TP.s_users_of
  exact fn_T (R := (Rp a0)) (t := t_users_of ((eL (eL (eO (eL D.int)))) x0)) (K := fun _ => (Rp a0)) (eK := fun k : Empty => k)
    (s_L (TL.x_lcD (gX (e1 := ml (eL (eO (eL D.int)))) (s1 := (ret (x0))) (ik_it (i_P (p_c rfl) it_L (g_ret rfl))) fun l1_ => (f_lcPm (m := (lm (vm (eP D.int D.int)))) (g := fun (b2 : (List (Option (List Int)))) => ([] : List (Int × Int))) (gd1 (e := (eL (eO (eL D.int))))) (fun _ => p_tT) fun b2 => (p_mLst p_lNil (of_decide_eq_true rfl))))) Le.refl
    fun l1 => (by exact (s_thn (N1 := (fun _ => (Rp a0))) (eN1 := (fun w => (List.map (lm (vm (eP D.int D.int))) w))) (s_forP (N := (fun _ => (Rp a0))) (eN := (fun w => (List.map (lm (vm (eP D.int D.int))) w))) (xs := (enumI x0)) (e := (eP D.int (eL (eO (eL D.int))))) l1 (ik_it (i_en (a_P (p_c rfl) (a_nil (f_en (e := (eL (eO (eL D.int)))) rfl (g_ret rfl)))))) Le.refl Le.refl rfl (gd2 (e := D.int) (f := (eL (eO (eL D.int)))))
    fun b4 s3 => (by exact (s_thn (N1 := (fun _ => (Rp a0))) (eN1 := (fun w => (List.map (lm (vm (eP D.int D.int))) w))) (s_forP (N := (fun _ => (Rp a0))) (eN := (fun w => (List.map (lm (vm (eP D.int D.int))) w))) (xs := (enumI b4.2)) (e := (eP D.int (eO (eL D.int)))) s3 (ik_it (i_en (a_P (p_c rfl) (a_nil (f_en (e := (eO (eL D.int))) rfl (g_ret rfl)))))) Le.refl Le.refl rfl (gd2 (e := D.int) (f := (eO (eL D.int))))
    fun b6 s5 => (s_if (p_tV (p_ev2 (p_c rfl) (p_c rfl) (w_isnt _)))
    (s_thn (N1 := (fun _ => (Rp a0))) (eN1 := (fun w => (List.map (lm (vm (eP D.int D.int))) w))) (s_for (N := (fun _ => (Rp a0))) (eN := (fun w => (List.map (lm (vm (eP D.int D.int))) w))) (s := (bnd (theX b6.2) fun y2_ => ret (y2_))) (e := D.int) s5 (ik_it (i_X (e := D.int) (g := id) (g_the (p_c rfl)) (fun _ => it_L) fun y2_ => g_ret rfl)) Le.refl Le.refl rfl (gd1 (e := D.int))
    fun b8 s7 => (by exact (s_thn (N1 := fun _ => (Rp a0)) (eN1 := List.map (lm (vm (eP D.int D.int)))) (s_app1 lo_no (m := (vm (eP D.int D.int))) (k := b8) (g_pm (p_mTup (p_lCons (p_mV (p_c rfl)) (p_lCons (p_mV (p_c rfl)) p_lNil)) (of_decide_eq_true rfl) rfl) rfl) Le.refl rfl)
    fun l9 => (s_nx rfl Le.refl))))
    fun s7 => (s_nx rfl Le.refl))
    (s_nx rfl Le.refl)))
    fun s5 => (s_nx rfl Le.refl))))
    fun s3 => (s_rt rfl Le.refl)))) (fun a o e ho => t_users_of_to _ e ho)
theorem ok_fail_options (x0 : (List (Int × Int))) (y1 : (List (List Bool))) (y2 : (List Int)) : FnP (fun p : ((List Int) × (List (List Bool)) × (List Int)) => ((lm (vm D.int)) p.1, (fun w : (List (List Bool)) × (List Int) => [lm (lm (vm D.bl)) w.1, lm (vm D.int) w.2]) p.2)) (TP.s_fail_options x0 y1 y2) (f_fail_options [.val ((eL (eP D.int D.int)) x0), .lst (y1.map (lm (vm D.bl))), .lst (y2.map (vm D.int))]) := fnP_g fun a0 g0 => by
  unfold TP.s_fail_options
  exact fn_TT (R := Rp a0) (eR := (lm (vm D.int))) (eU := (fun w : (List (List Bool)) × (List Int) => [List.map (lm (vm D.bl)) w.1, List.map (vm D.int) w.2])) (eTt := (fun w : (List (List Bool)) × (List Int) => [lm (lm (vm D.bl)) w.1, lm (vm D.int) w.2])) (t := t_fail_options ((eL (eP D.int D.int)) x0) (y1.map (lm (vm D.bl))) (y2.map (vm D.int))) (K := fun _ => Rp a0) (eK := fun k : Empty => k) (eQ := fun k : Empty => nomatch k) (fun _ => rfl) (fun w => (and_t (NpM.np (m := lm (lm (vm D.bl))) w.1) (and_t (NpM.np (m := lm (vm D.int)) w.2) rfl)))
    (s_L (g_pm (p_mLst p_lNil (of_decide_eq_true rfl)) rfl) Le.refl
    fun l1 => (by exact (s_thn (N1 := (fun _ => (Rp a0))) (eN1 := (fun (w : (List (List Bool)) × (List Int) × (List Int)) => ((List.map (lm (vm D.bl)) w.1), (List.map (vm D.int) w.2.1), (List.map (vm D.int) w.2.2)))) (s_forP (N := (fun _ => (Rp a0))) (eN := (fun (w : (List (List Bool)) × (List Int) × (List Int)) => ((List.map (lm (vm D.bl)) w.1), (List.map (vm D.int) w.2.1), (List.map (vm D.int) w.2.2)))) (xs := (x0)) (e := (eP D.int D.int)) (y1, y2, l1) (ik_it (i_P (p_c rfl) it_L (g_ret rfl))) Le.refl Le.refl rfl (gd2 (e := D.int) (f := D.int))
    fun b3 s2 => (s_ifXg (lo_env (loe_val (loe_wP (n := (lm (vm D.bl))) (xs := s2.1) rfl (loe_wP (n := (vm D.int)) (xs := s2.2.1) rfl (loe_lst (n := (vm D.int)) (xs := s2.2.2) rfl (loe_val (loe_val (fun _ h => loe_nil h)))))))) (TL.x_tV (TL.x_vS (gVX (TL.x_vS (gVP (p_c (fz_l (m := (lm (vm D.bl))) s2.1)) (gVP (p_c rfl) o_ixL))) fun y1_ => (gVP (p_c rfl) o_ixL)))) Le.refl
    (s_thn (N1 := fun _ => (Rp a0)) (eN1 := List.map (lm (vm D.bl))) (s_set1 lo_no (m := (vm D.bl)) (k := b3.1) (i := b3.2) (g_pm (p_mV (p_c rfl)) rfl) Le.refl rfl)
    fun l4 => (by exact (s_thn (N1 := fun _ => (Rp a0)) (eN1 := List.map (vm D.int)) (s_aug0 (g := (fun i j => i - j)) (k := b3.1) (y := (1 : Int)) rfl)
    fun l5 => (s_ifXg (lo_env (loe_val (loe_wP (n := (lm (vm D.bl))) (xs := l4) rfl (loe_wP (n := (vm D.int)) (xs := l5) rfl (loe_lst (n := (vm D.int)) (xs := s2.2.2) rfl (loe_val (loe_val (fun _ h => loe_nil h)))))))) (TL.x_tV (TL.x_ev2 (gVX (TL.x_vS (gVP (p_c (fz_l (m := (vm D.int)) l5)) (gVP (p_c rfl) o_ixL))) fun y2_ => (gVP (p_c rfl) (f_oo (w_eqI _ _)))))) Le.refl
    (s_thn (N1 := fun _ => (Rp a0)) (eN1 := List.map (vm D.int)) (s_appP (m := (vm D.int)) (p_mV (p_c rfl)) rfl rfl)
    fun l6 => (s_nx rfl Le.refl))
    (s_nx rfl Le.refl)))))
    (s_nx rfl Le.refl)))
    fun s2 => (s_nx rfl Le.refl)))) (fun a o e ho => t_fail_options_to _ _ _ e ho)
theorem ok_ranks (x0 : (List (List (Option (List Int))))) : FnP (lm (vm D.int)) (TP.s_ranks x0) (f_ranks [(eL (eL (eO (eL D.int)))) x0]) := fnP_g fun a0 g0 => by
  unfold TP.s_ranks
  exact fn_T (R := (Rp a0)) (t := t_ranks ((eL (eL (eO (eL D.int)))) x0)) (K := fun _ => (Rp a0)) (eK := fun k : Empty => k)
    (s_U (TL.x_callM (a_P (p_c rfl) (a_nil (f_if rfl (g_fnP (ok_check_game x0)))))) Le.refl
    (by exact (s_V (g_vM (TL.x_callM (a_P (p_c rfl) (a_nil (f_if rfl (g_fnP (ok_users_of x0))))))) Le.refl
    fun v1 => (by exact (s_L (TL.x_lcD (gX (e1 := ml (eL (eO (eL D.int)))) (s1 := (ret (x0))) (ik_it (i_P (p_c rfl) it_L (g_ret rfl))) fun l2_ => (f_lcXm (m := (lm (vm D.bl))) (F := fun (b3 : (List (Option (List Int)))) => (bnd (ret (b3)) fun l1_ => grd (l1_.length ≤ 100000) (ret (l1_.map fun (b4 : (Option (List Int))) => b4.isSome)))) (gd1 (e := (eL (eO (eL D.int))))) (fun _ => p_tT) fun b3 => (TL.x_lcD (gX (e1 := ml (eO (eL D.int))) (s1 := (ret (b3))) (ik_it (i_P (p_c rfl) it_L (g_ret rfl))) fun l1_ => (f_lcPm (m := (vm D.bl)) (g := fun (b4 : (Option (List Int))) => b4.isSome) (gd1 (e := (eO (eL D.int)))) (fun _ => p_tT) fun b4 => (p_mV (p_ev2 (p_c rfl) (p_c rfl) (w_isnt _))))))))) Le.refl
    fun l2 => (by exact (s_Lg (lo_env (loe_val (loe_val (loe_lst (n := (lm (vm D.bl))) (xs := l2) rfl (loe_none (loe_none (loe_none (loe_none (loe_none (loe_none (loe_none (loe_none (loe_none (loe_none (fun _ h => loe_nil h))))))))))))))) (TL.x_lcD (gX (e1 := ml (eL D.bl)) (s1 := (ret (l2))) (ik_it (i_P (p_c (fz_l (m := (lm (vm D.bl))) l2)) it_L (g_ret rfl))) fun l3_ => (f_lcPm (m := (vm D.int)) (g := fun (b6 : (List Bool)) => ((b6.count true : Nat) : Int)) (gd1 (e := (eL D.bl))) (fun _ => p_tT) fun b6 => (p_mV (p_ev1 (p_c rfl) (w_cnt _)))))) Le.refl
    fun l5 => (by exact (s_L (TL.x_lcD (gX (e1 := ml (eL (eO (eL D.int)))) (s1 := (ret (x0))) (ik_it (i_P (p_c rfl) it_L (g_ret rfl))) fun l4_ => (f_lcPm (m := (vm D.int)) (g := fun (b8 : (List (Option (List Int)))) => (0 : Int)) (gd1 (e := (eL (eO (eL D.int))))) (fun _ => p_tT) fun b8 => (p_mV (p_c rfl))))) Le.refl
    fun l7 => (by exact (s_Fg (n := (lm (vm D.int))) (lo_env (loe_val (loe_val (loe_lst (n := (lm (vm D.bl))) (xs := l2) rfl (loe_lst (n := (vm D.int)) (xs := l5) rfl (loe_lst (n := (vm D.int)) (xs := l7) rfl (loe_none (loe_none (loe_none (loe_none (loe_none (loe_none (loe_none (loe_none (fun _ h => loe_nil h))))))))))))))) (TL.x_lcD (gX (e1 := ml (eP D.int D.int)) (s1 := (ret (enumI l5))) (ik_it (i_en (a_P (p_c (fz_l (m := (vm D.int)) l5)) (a_nil (f_en (e := D.int) rfl (g_ret rfl)))))) fun l5_ => (f_lcP (m := (vm D.int)) (q := fun (b10 : (Int × Int)) => (decide (b10.2 = (0 : Int)))) (g := fun (b10 : (Int × Int)) => b10.1) (gd2 (e := D.int) (f := D.int)) (fun b10 => (p_tV (p_ev2 (p_c rfl) (p_c rfl) (w_eqI _ _)))) fun b10 => (p_mV (p_c rfl))))) Le.refl
    fun v9 => (by exact (s_VPl (e := D.int) (v := (0 : Int)) (k := fun (v11 : Int) => (thnT (whT (fun (s12 : ((List (List Bool)) × (List Int) × (List Int) × (List Int) × Int)) => (ret (!s12.2.2.2.1.isEmpty))) (fun (s12 : ((List (List Bool)) × (List Int) × (List Int) × (List Int) × Int)) => (let v13 : Int := (s12.2.2.2.2 + (1 : Int))
    (sbn (ret ([] : List Int))
    fun (l14 : List Int) => (thnT (forT (fun (b16 : Int) (s15 : ((List (List Bool)) × (List Int) × (List Int) × (List Int))) => (thnT (sbn (ret v13) fun x => setT s15.2.2.1 b16 x)
    fun (l17 : List Int) => (thnT (extT s15.2.2.2 (bnd (clm (ixX v1 b16)) fun y6_ => (TP.s_fail_options y6_ s15.1 s15.2.1)))
    fun (s18 : List Int × ((List (List Bool)) × (List Int))) => (nxT (s18.2.1, s18.2.2, l17, s18.1))))) (s12.2.2.2.1) (s12.1, s12.2.1, s12.2.2.1, l14))
    fun (s15 : ((List (List Bool)) × (List Int) × (List Int) × (List Int))) => (sbn (ret s15.2.2.2)
    fun (v19 : (List Int)) => (nxT (s15.1, s15.2.1, s15.2.2.1, v19, v13))))))) 100000 (l2, l5, l7, v9, v11))
    fun (s12 : ((List (List Bool)) × (List Int) × (List Int) × (List Int) × Int)) => (rtT s12.2.2.1))) (p_c rfl) fun v11 => (by exact (s_thn (N1 := (fun _ => (Rp a0))) (eN1 := (fun (w : (List (List Bool)) × (List Int) × (List Int) × (List Int) × Int) => ((List.map (lm (vm D.bl)) w.1), (List.map (vm D.int) w.2.1), (List.map (vm D.int) w.2.2.1), (eL D.int) w.2.2.2.1, D.int w.2.2.2.2))) (s_wh (N := (fun _ => (Rp a0))) (eN := (fun (w : (List (List Bool)) × (List Int) × (List Int) × (List Int) × Int) => ((List.map (lm (vm D.bl)) w.1), (List.map (vm D.int) w.2.1), (List.map (vm D.int) w.2.2.1), (eL D.int) w.2.2.2.1, D.int w.2.2.2.2))) (fun _ => inferInstance) (fun s12 => lo_no) (fun s12 => (g_pt (p_tTr (p_c rfl) (w_truL _)))) (fun _ => Le.refl) (fun s12 => (s_VPl (e := D.int) (v := (s12.2.2.2.2 + (1 : Int))) (k := fun (v13 : Int) => (sbn (ret ([] : List Int))
    fun (l14 : List Int) => (thnT (forT (fun (b16 : Int) (s15 : ((List (List Bool)) × (List Int) × (List Int) × (List Int))) => (thnT (sbn (ret v13) fun x => setT s15.2.2.1 b16 x)
    fun (l17 : List Int) => (thnT (extT s15.2.2.2 (bnd (clm (ixX v1 b16)) fun y6_ => (TP.s_fail_options y6_ s15.1 s15.2.1)))
    fun (s18 : List Int × ((List (List Bool)) × (List Int))) => (nxT (s18.2.1, s18.2.2, l17, s18.1))))) (s12.2.2.2.1) (s12.1, s12.2.1, s12.2.2.1, l14))
    fun (s15 : ((List (List Bool)) × (List Int) × (List Int) × (List Int))) => (sbn (ret s15.2.2.2)
    fun (v19 : (List Int)) => (nxT (s15.1, s15.2.1, s15.2.2.1, v19, v13)))))) (p_ev2 (p_c rfl) (p_c rfl) rfl) fun v13 => (s_L (g_pm (p_mLst p_lNil (of_decide_eq_true rfl)) rfl) Le.refl
    fun l14 => (by exact (s_thn (N1 := (fun _ => (Rp a0))) (eN1 := (fun (w : (List (List Bool)) × (List Int) × (List Int) × (List Int)) => ((List.map (lm (vm D.bl)) w.1), (List.map (vm D.int) w.2.1), (List.map (vm D.int) w.2.2.1), (List.map (vm D.int) w.2.2.2)))) (s_forP (N := (fun _ => (Rp a0))) (eN := (fun (w : (List (List Bool)) × (List Int) × (List Int) × (List Int)) => ((List.map (lm (vm D.bl)) w.1), (List.map (vm D.int) w.2.1), (List.map (vm D.int) w.2.2.1), (List.map (vm D.int) w.2.2.2)))) (xs := (s12.2.2.2.1)) (e := D.int) (s12.1, s12.2.1, s12.2.2.1, l14) (ik_it (i_P (p_c rfl) it_L (g_ret rfl))) Le.refl Le.refl rfl (gd1 (e := D.int))
    fun b16 s15 => (by exact (s_thn (N1 := fun _ => (Rp a0)) (eN1 := List.map (vm D.int)) (s_setP0 lo_no (m := (vm D.int)) (k := b16) (g_pm (p_mV (p_c rfl)) rfl) Le.refl rfl)
    fun l17 => (by exact (s_thn (N1 := fun _ => (Rp a0)) (eN1 := fun p : List Int × ((List (List Bool)) × (List Int)) => (p.1.map (vm D.int), (fun w : (List (List Bool)) × (List Int) => ((List.map (lm (vm D.bl)) w.1), (List.map (vm D.int) w.2))) p.2)) (s_ext (m := (vm D.int)) (eTt := (fun w : (List (List Bool)) × (List Int) => [lm (lm (vm D.bl)) w.1, lm (vm D.int) w.2])) (eU := (fun w : (List (List Bool)) × (List Int) => ((List.map (lm (vm D.bl)) w.1), (List.map (vm D.int) w.2)))) (fun _ => rfl) (TL.x_give (gg_X (TL.x_vS (gVP (p_c rfl) (gVP (p_c rfl) o_ixL))) fun y6_ => (gg_here (gg_here (gg_nil (gg_if rfl (g_fnP (ok_fail_options y6_ s15.1 s15.2.1)))))))) Le.refl rfl)
    fun s18 => (s_nx rfl Le.refl))))))
    fun s15 => (s_Fg (n := (lm (vm D.int))) (lo_env (loe_val (loe_val (loe_lst (n := (lm (vm D.bl))) (xs := s15.1) rfl (loe_lst (n := (vm D.int)) (xs := s15.2.1) rfl (loe_lst (n := (vm D.int)) (xs := s15.2.2.1) rfl (loe_val (loe_val (loe_lst (n := (vm D.int)) (xs := s15.2.2.2) rfl (loe_none (loe_none (loe_none (loe_none (loe_none (fun _ h => loe_nil h))))))))))))))) (TL.x_cN (a_P (p_c (fz_l (m := (vm D.int)) s15.2.2.2)) (a_nil (f_sm (fun _ => rfl) w_listM)))) Le.refl
    fun v19 => (s_nx rfl Le.refl))))))) _ (l2, l5, l7, v9, v11))
    fun s12 => (s_rt rfl Le.refl)))))))))))))))) (fun a o e ho => t_ranks_to _ e ho)
theorem ok_good_options (x0 : (List (List (Option (List Int))))) (x1 : (List Int)) (x2 : Int) : FnP (lm (vm D.int)) (TP.s_good_options x0 x1 x2) (f_good_options [(eL (eL (eO (eL D.int)))) x0, (eL D.int) x1, D.int x2]) := fnP_g fun a0 g0 => by
  unfold TP.s_good_options
  exact fn_T (R := (Rp a0)) (t := t_good_options ((eL (eL (eO (eL D.int)))) x0) ((eL D.int) x1) (D.int x2)) (K := fun _ => (Rp a0)) (eK := fun k : Empty => k)
    (s_L (g_pm (p_mLst p_lNil (of_decide_eq_true rfl)) rfl) Le.refl
    fun l1 => (by exact (s_thn (N1 := (fun _ => (Rp a0))) (eN1 := (fun w => (List.map (vm D.int) w))) (s_for (N := (fun _ => (Rp a0))) (eN := (fun w => (List.map (vm D.int) w))) (s := (bnd (ixX x0 x2) fun y1_ => (ret (enumI y1_)))) (e := (eP D.int (eO (eL D.int)))) l1 (ik_it (i_en (a_X (TL.x_vS (gVP (p_c rfl) (gVP (p_c rfl) o_ixL))) fun y1_ => (a_nil (f_en (e := (eO (eL D.int))) rfl (g_ret rfl)))))) Le.refl Le.refl rfl (gd2 (e := D.int) (f := (eO (eL D.int))))
    fun b3 s2 => (s_ifX (TL.x_tAn (g_pt (p_tV (p_ev2 (p_c rfl) (p_c rfl) (w_isnt _)))) (TL.x_tV (TL.x_cV (a_X (g_vM (TL.x_lcD (gX (e1 := ml D.int) (s1 := (bnd (theX b3.2) fun y2_ => ret (y2_))) (ik_it (i_X (e := D.int) (g := id) (g_the (p_c rfl)) (fun _ => it_L) fun y2_ => g_ret rfl)) fun l4_ => (f_lcXm (m := (vm D.bl)) (F := fun (b4 : Int) => (bnd (ixX x1 b4) fun y3_ => (ret (decide (y3_ = (0 : Int)))))) (gd1 (e := D.int)) (fun _ => p_tT) fun b4 => (g_mV (TL.x_ev2 (gVX (TL.x_vS (gVP (p_c rfl) (gVP (p_c rfl) o_ixL))) fun y3_ => (gVP (p_c rfl) (f_oo (w_eqI _ _)))))))))) fun y5_ => (a_nil (f_sw w_all rfl)))))) Le.refl
    (s_thn (N1 := fun _ => (Rp a0)) (eN1 := List.map (vm D.int)) (s_appP (m := (vm D.int)) (p_mV (p_c rfl)) rfl rfl)
    fun l5 => (s_nx rfl Le.refl))
    (s_nx rfl Le.refl)))
    fun s2 => (s_rt rfl Le.refl)))) (fun a o e ho => t_good_options_to _ _ _ e ho)
@[irreducible] def d_law_good (x0 : (List (Option (List Int)))) (x1 : (List Int)) : X Unit (List Int) :=
  fnT (sbn (ret ([] : List Int))
    fun (l1 : List Int) => (thnT (sbn (grd (bigP (x0.length : Int)) (ret (rangeL (x0.length : Int)))) fun l6_ => forT (fun (b3 : Int) (s2 : ((List Int))) => (sbn (andX (bnd (ixX x0 b3) fun y1_ => (ret y1_.isSome)) (bnd (bnd (bnd (bnd (ixX x0 b3) fun x => theX x) fun y2_ => ret (y2_)) fun l4_ => grd (l4_.length ≤ 100000) (mapX (fun (b4 : Int) => (bnd (ixX x1 b4) fun y3_ => (ret (decide (y3_ = (0 : Int)))))) l4_)) fun y5_ => (ret (y5_.all id)))) fun b => if b = true then
    (thnT (appT s2 b3)
    fun (l5 : List Int) => (nxT l5))
    else (nxT s2))) l6_ l1)
    fun (s2 : ((List Int))) => (rtT s2)))
theorem ok_law_good (x0 : (List (Option (List Int)))) (x1 : (List Int)) : FnP (lm (vm D.int)) (d_law_good x0 x1) (f_law_good [(eL (eO (eL D.int))) x0, (eL D.int) x1]) := fnP_g fun a0 g0 => by
  unfold d_law_good
  exact fn_T (R := (Rp a0)) (t := t_law_good ((eL (eO (eL D.int))) x0) ((eL D.int) x1)) (K := fun _ => (Rp a0)) (eK := fun k : Empty => k)
    (s_L (g_pm (p_mLst p_lNil (of_decide_eq_true rfl)) rfl) Le.refl
    fun l1 => (by exact (s_thn (N1 := (fun _ => (Rp a0))) (eN1 := (fun w => (List.map (vm D.int) w))) (s_for (N := (fun _ => (Rp a0))) (eN := (fun w => (List.map (vm D.int) w))) (s := (grd (bigP (x0.length : Int)) (ret (rangeL (x0.length : Int))))) (e := D.int) l1 (ik_it (i_rng1 (a_P (p_cV (p_aCons (p_c rfl) p_aNil) w_lenL rfl) (a_nil (f_rng1 (g_ret rfl)))))) Le.refl Le.refl rfl (gd1 (e := D.int))
    fun b3 s2 => (s_ifX (TL.x_tAn (TL.x_tV (TL.x_ev2 (gVX (TL.x_vS (gVP (p_c rfl) (gVP (p_c rfl) o_ixL))) fun y1_ => (gVP (p_c rfl) (f_oo (w_isnt _)))))) (TL.x_tV (TL.x_cV (a_X (g_vM (TL.x_lcD (gX (e1 := ml D.int) (s1 := (bnd (bnd (ixX x0 b3) fun x => theX x) fun y2_ => ret (y2_))) (ik_it (i_X (e := D.int) (g := id) (TL.g_theX (TL.x_vS (gVP (p_c rfl) (gVP (p_c rfl) o_ixL)))) (fun _ => it_L) fun y2_ => g_ret rfl)) fun l4_ => (f_lcXm (m := (vm D.bl)) (F := fun (b4 : Int) => (bnd (ixX x1 b4) fun y3_ => (ret (decide (y3_ = (0 : Int)))))) (gd1 (e := D.int)) (fun _ => p_tT) fun b4 => (g_mV (TL.x_ev2 (gVX (TL.x_vS (gVP (p_c rfl) (gVP (p_c rfl) o_ixL))) fun y3_ => (gVP (p_c rfl) (f_oo (w_eqI _ _)))))))))) fun y5_ => (a_nil (f_sw w_all rfl)))))) Le.refl
    (s_thn (N1 := fun _ => (Rp a0)) (eN1 := List.map (vm D.int)) (s_appP (m := (vm D.int)) (p_mV (p_c rfl)) rfl rfl)
    fun l5 => (s_nx rfl Le.refl))
    (s_nx rfl Le.refl)))
    fun s2 => (s_rt rfl Le.refl)))) (fun a o e ho => t_law_good_to _ _ e ho)
@[irreducible] def d_law_spoilers (x0 : (List (Option (List Int)))) (x1 : (List Int)) (x2 : Int) : X Unit (Option (List (Option Int))) :=
  fnT (sbn (ret ([] : List (Option Int)))
    fun (l1 : List (Option Int)) => (thnT (forT (fun (b3 : (Option (List Int))) (s2 : ((List (Option Int)))) => (if b3.isNone = true then
    (thnT (appT s2 none)
    fun (l4 : List (Option Int)) => (nxT l4))
    else (sbn (bnd (bnd (theX b3) fun y1_ => ret (y1_)) fun l2_ => grd (l2_.length ≤ 100000) (fmX (fun (b6 : Int) => (chX (fun x y => decide (x < y)) (fun x y => decide (x < y)) (ret (0 : Int)) (ixX x1 b6) (ret x2))) (fun (b6 : Int) => (ret b6)) l2_))
    fun (v5 : (List Int)) => (thnT (if (decide ((v5.length : Int) = (0 : Int))) = true then
    (rtT none)
    else (nxT ()))
    fun (w3_ : Unit) => (thnT (sbn (bnd (ixX v5 (0 : Int)) fun x => ret (some x)) fun x => appT s2 x)
    fun (l7 : List (Option Int)) => (nxT l7)))))) (x0) l1)
    fun (s2 : ((List (Option Int)))) => (rtT (some s2))))
theorem ok_law_spoilers (x0 : (List (Option (List Int)))) (x1 : (List Int)) (x2 : Int) : FnP (vm (eO (eL (eO D.int)))) (d_law_spoilers x0 x1 x2) (f_law_spoilers [(eL (eO (eL D.int))) x0, (eL D.int) x1, D.int x2]) := fnP_g fun a0 g0 => by
  unfold d_law_spoilers
  exact fn_T (R := (Rp a0)) (t := t_law_spoilers ((eL (eO (eL D.int))) x0) ((eL D.int) x1) (D.int x2)) (K := fun _ => (Rp a0)) (eK := fun k : Empty => k)
    (s_L (g_pm (p_mLst p_lNil (of_decide_eq_true rfl)) rfl) Le.refl
    fun l1 => (by exact (s_thn (N1 := (fun _ => (Rp a0))) (eN1 := (fun w => (List.map (vm (eO D.int)) w))) (s_forP (N := (fun _ => (Rp a0))) (eN := (fun w => (List.map (vm (eO D.int)) w))) (xs := (x0)) (e := (eO (eL D.int))) l1 (ik_it (i_P (p_c rfl) it_L (g_ret rfl))) Le.refl Le.refl rfl (gd1 (e := (eO (eL D.int))))
    fun b3 s2 => (s_if (p_tV (p_ev2 (p_c rfl) (p_c rfl) (w_is _)))
    (s_thn (N1 := fun _ => (Rp a0)) (eN1 := List.map (vm (eO D.int))) (s_appP (m := (vm (eO D.int))) (p_mV (p_c rfl)) rfl rfl)
    fun l4 => (s_nx rfl Le.refl))
    (s_V (g_vM (TL.x_lcD (gX (e1 := ml D.int) (s1 := (bnd (theX b3) fun y1_ => ret (y1_))) (ik_it (i_X (e := D.int) (g := id) (g_the (p_c rfl)) (fun _ => it_L) fun y1_ => g_ret rfl)) fun l2_ => (f_lcX (m := (vm D.int)) (P := fun (b6 : Int) => (chX (fun x y => decide (x < y)) (fun x y => decide (x < y)) (ret (0 : Int)) (ixX x1 b6) (ret x2))) (F := fun (b6 : Int) => (ret b6)) (gd1 (e := D.int)) (fun b6 => (TL.x_tV (TL.x_vCh (p := (fun x y => decide (x < y))) (q := (fun x y => decide (x < y))) (fun _ _ => rfl) (fun _ _ => rfl) (g_pv (p_c rfl) rfl) (TL.x_vS (gVP (p_c rfl) (gVP (p_c rfl) o_ixL))) (g_pv (p_c rfl) rfl)))) fun b6 => (g_pm (p_mV (p_c rfl)) rfl))))) Le.refl
    fun v5 => (by exact (s_thn (N1 := (fun _ => (Rp a0))) (eN1 := (fun w => ())) (s_if (p_tV (p_ev2 (p_cV (p_aCons (p_c rfl) p_aNil) w_lenL rfl) (p_c rfl) (w_eqI _ _)))
    (s_reP (p_mV (p_c rfl)) rfl Le.refl)
    (s_nx rfl Le.refl))
    fun w3_ => (by exact (s_thn (N1 := fun _ => (Rp a0)) (eN1 := List.map (vm (eO D.int))) (s_app (m := (vm (eO D.int))) (g_coe (f := some) (fun _ => rfl) (g_mV (TL.x_vS (gVP (p_c rfl) (gVP (p_c rfl) o_ixL))))) Le.refl rfl)
    fun l7 => (s_nx rfl Le.refl))))))))
    fun s2 => (s_reP (p_mV (p_c (fz_l (m := (vm (eO D.int))) s2))) rfl Le.refl)))) (fun a o e ho => t_law_spoilers_to _ _ _ e ho)
theorem ok_spoiler_of (x0 : (Option (List Int))) (x1 : (List Int)) (x2 : Int) : FnP (vm (eO D.int)) (TP.s_spoiler_of x0 x1 x2) (f_spoiler_of [(eO (eL D.int)) x0, (eL D.int) x1, D.int x2]) := fnP_g fun a0 g0 => by
  unfold TP.s_spoiler_of
  exact fn_T (R := (Rp a0)) (t := t_spoiler_of ((eO (eL D.int)) x0) ((eL D.int) x1) (D.int x2)) (K := fun _ => (Rp a0)) (eK := fun k : Empty => k)
    (s_thn (N1 := (fun _ => (Rp a0))) (eN1 := (fun w => ())) (s_for (N := (fun _ => (Rp a0))) (eN := (fun w => ())) (s := (bnd (theX x0) fun y1_ => ret (y1_))) (e := D.int) () (ik_it (i_X (e := D.int) (g := id) (g_the (p_c rfl)) (fun _ => it_L) fun y1_ => g_ret rfl)) Le.refl Le.refl rfl (gd1 (e := D.int))
    fun b2 u1 => (s_ifX (TL.x_tV (TL.x_vCh (p := (fun x y => decide (x < y))) (q := (fun x y => decide (x < y))) (fun _ _ => rfl) (fun _ _ => rfl) (g_pv (p_c rfl) rfl) (TL.x_vS (gVP (p_c rfl) (gVP (p_c rfl) o_ixL))) (g_pv (p_c rfl) rfl))) Le.refl
    (s_reP (p_mV (p_c rfl)) rfl Le.refl)
    (s_nx rfl Le.refl)))
    fun u1 => (s_reP (p_mV (p_c rfl)) rfl Le.refl)) (fun a o e ho => t_spoiler_of_to _ _ _ e ho)
theorem ok_spoilers (x0 : (List (List (Option (List Int))))) (x1 : (List Int)) (x2 : Int) : FnP (lm (vm (eO D.int))) (TP.s_spoilers x0 x1 x2) (f_spoilers [(eL (eL (eO (eL D.int)))) x0, (eL D.int) x1, D.int x2]) := fnP_g fun a0 g0 => by
  unfold TP.s_spoilers
  exact fn_T (R := (Rp a0)) (t := t_spoilers ((eL (eL (eO (eL D.int)))) x0) ((eL D.int) x1) (D.int x2)) (K := fun _ => (Rp a0)) (eK := fun k : Empty => k)
    (s_thn (N1 := (fun _ => (Rp a0))) (eN1 := (fun w => ())) (s_ifX (TL.x_tV (TL.x_ev2 (gVX (TL.x_vS (gVP (p_c rfl) (gVP (p_c rfl) o_ixL))) fun y1_ => (gVP (p_c rfl) (f_oo (w_eqI _ _)))))) Le.refl
    (s_reP (p_mLst p_lNil (of_decide_eq_true rfl)) rfl Le.refl)
    (s_nx rfl Le.refl))
    fun w2_ => (s_L (g_pm (p_mLst p_lNil (of_decide_eq_true rfl)) rfl) Le.refl
    fun l1 => (by exact (s_thn (N1 := (fun _ => (Rp a0))) (eN1 := (fun w => (List.map (vm (eO D.int)) w))) (s_for (N := (fun _ => (Rp a0))) (eN := (fun w => (List.map (vm (eO D.int)) w))) (s := (bnd (ixX x0 x2) fun y3_ => ret (y3_))) (e := (eO (eL D.int))) l1 (ik_it (i_X (e := (eO (eL D.int))) (g := id) (TL.x_vS (gVP (p_c rfl) (gVP (p_c rfl) o_ixL))) (fun _ => it_L) fun y3_ => g_ret rfl)) Le.refl Le.refl rfl (gd1 (e := (eO (eL D.int))))
    fun b3 s2 => (by exact (s_thn (N1 := fun _ => (Rp a0)) (eN1 := List.map (vm (eO D.int))) (s_app (m := (vm (eO D.int))) (TL.x_eIf (g_pt (p_tV (p_ev2 (p_c rfl) (p_c rfl) (w_is _)))) (g_pm (p_mV (p_c rfl)) rfl) (g_mV (g_vM (TL.x_callM (a_P (p_c rfl) (a_P (p_c rfl) (a_X (TL.x_vS (gVP (p_c rfl) (gVP (p_c rfl) o_ixL))) fun y4_ => (a_nil (f_if rfl (g_fnP (ok_spoiler_of b3 x1 y4_))))))))))) Le.refl rfl)
    fun l4 => (s_nx rfl Le.refl))))
    fun s2 => (s_rt rfl Le.refl))))) (fun a o e ho => t_spoilers_to _ _ _ e ho)
@[irreducible] def d_law_asked (x0 : (List (List (Option (List Int))))) (x1 : (List Int)) (x2 : Int) (x3 : (List (List (Option (List Int))))) : X Unit Bool :=
  fnT (sbn (TP.s_good_options x0 x1 x2)
    fun (l1 : List Int) => (thnT (sbn (orX (ret (!true)) (bnd (bnd (ixX x3 x2) fun y1_ => (d_law_good y1_ x1)) fun y2_ => (ret (!decide (l1 = y2_))))) fun b => if b = true then
    (rtT false)
    else (nxT ()))
    fun (w3_ : Unit) => (let v2 : (List (Option Int)) := ([] : List (Option Int))
    (thnT (sbn (bnd (ixX x1 x2) fun y4_ => (ret (decide ((0 : Int) < y4_)))) fun b => if b = true then
    (sbn (bnd (ixX x3 x2) fun y5_ => (bnd (ixX x1 x2) fun y6_ => (d_law_spoilers y5_ x1 y6_)))
    fun (v4 : (Option (List (Option Int)))) => (nxT v4))
    else (nxT (some v2)))
    fun (s3 : ((Option (List (Option Int))))) => (sbn (TP.s_spoilers x0 x1 x2)
    fun (l5 : List (Option Int)) => (thnT (if (s3.isNone || ((!true) || (!decide ((some l5) = s3)))) = true then
    (rtT false)
    else (nxT ()))
    fun (w7_ : Unit) => (thnT (sbn (bnd (bnd (ixX x1 x2) fun y8_ => (ret (decide (y8_ = (0 : Int))))) fun y9_ => (ret (!decide ((decide ((0 : Int) < (l1.length : Int))) = y9_)))) fun b => if b = true then
    (rtT false)
    else (nxT ()))
    fun (w10_ : Unit) => (thnT (sbn (bnd (bnd (bnd (bnd (bnd (ret l1) fun x => ret (x.map some)) fun y11_ => (catX y11_ l5)) fun y12_ => ret (y12_)) fun l13_ => grd (l13_.length ≤ 100000) (ret (l13_.map fun (b6 : (Option Int)) => false))) fun y14_ => (ret (y14_.any id))) fun b => if b = true then
    (rtT false)
    else (nxT ()))
    fun (w15_ : Unit) => (thnT (appT l1 (0 : Int))
    fun (l7 : List Int) => (thnT (appT l5 none)
    fun (l8 : List (Option Int)) => (reT (andX (bnd (TP.s_good_options x0 x1 x2) fun y16_ => (bnd (ret (cutG l7 none (some (-(1 : Int))))) fun y17_ => (ret (decide (y16_ = y17_))))) (bnd (bnd (TP.s_spoilers x0 x1 x2) fun x => ret (some x)) fun y18_ => (ret (decide (y18_ = s3))))))))))))))))
theorem ok_law_asked (x0 : (List (List (Option (List Int))))) (x1 : (List Int)) (x2 : Int) (x3 : (List (List (Option (List Int))))) : FnP (vm D.bl) (d_law_asked x0 x1 x2 x3) (f_law_asked [(eL (eL (eO (eL D.int)))) x0, (eL D.int) x1, D.int x2, (eL (eL (eO (eL D.int)))) x3]) := fnP_g fun a0 g0 => by
  unfold d_law_asked
  exact fn_T (R := (Rp a0)) (t := t_law_asked ((eL (eL (eO (eL D.int)))) x0) ((eL D.int) x1) (D.int x2) ((eL (eL (eO (eL D.int)))) x3)) (K := fun _ => (Rp a0)) (eK := fun k : Empty => k)
    (s_L (TL.x_callM (a_P (p_c rfl) (a_P (p_c rfl) (a_P (p_c rfl) (a_nil (f_if rfl (g_fnP (ok_good_options x0 x1 x2)))))))) Le.refl
    fun l1 => (by exact (s_thn (N1 := (fun _ => (Rp a0))) (eN1 := (fun w => ())) (s_ifXg (lo_env (loe_val (loe_val (loe_val (loe_val (loe_lst (n := (vm D.int)) (xs := l1) rfl (loe_none (loe_none (loe_none (fun _ h => loe_nil h)))))))))) (TL.x_tOn (g_pt (p_tN (p_tV (p_ev1 (p_c (fz_l (m := (vm D.int)) l1)) rfl)))) (TL.x_tV (TL.x_ev2 (gVP (p_c (fz_l (m := (vm D.int)) l1)) (gVX (g_vM (TL.x_callM (a_X (TL.x_vS (gVP (p_c rfl) (gVP (p_c rfl) o_ixL))) fun y1_ => (a_P (p_c rfl) (a_nil (f_if rfl (g_fnP (ok_law_good y1_ x1)))))))) fun y2_ => (f_oo (w_neD (e := (eL D.int)) _ _ rfl))))))) Le.refl
    (s_reP (p_mV (p_c rfl)) rfl Le.refl)
    (s_nx rfl Le.refl))
    fun w3_ => (by exact (s_VPl (e := (eL (eO D.int))) (v := ([] : List (Option Int))) (k := fun (v2 : (List (Option Int))) => (thnT (sbn (bnd (ixX x1 x2) fun y4_ => (ret (decide ((0 : Int) < y4_)))) fun b => if b = true then
    (sbn (bnd (ixX x3 x2) fun y5_ => (bnd (ixX x1 x2) fun y6_ => (d_law_spoilers y5_ x1 y6_)))
    fun (v4 : (Option (List (Option Int)))) => (nxT v4))
    else (nxT (some v2)))
    fun (s3 : ((Option (List (Option Int))))) => (sbn (TP.s_spoilers x0 x1 x2)
    fun (l5 : List (Option Int)) => (thnT (if (s3.isNone || ((!true) || (!decide ((some l5) = s3)))) = true then
    (rtT false)
    else (nxT ()))
    fun (w7_ : Unit) => (thnT (sbn (bnd (bnd (ixX x1 x2) fun y8_ => (ret (decide (y8_ = (0 : Int))))) fun y9_ => (ret (!decide ((decide ((0 : Int) < (l1.length : Int))) = y9_)))) fun b => if b = true then
    (rtT false)
    else (nxT ()))
    fun (w10_ : Unit) => (thnT (sbn (bnd (bnd (bnd (bnd (bnd (ret l1) fun x => ret (x.map some)) fun y11_ => (catX y11_ l5)) fun y12_ => ret (y12_)) fun l13_ => grd (l13_.length ≤ 100000) (ret (l13_.map fun (b6 : (Option Int)) => false))) fun y14_ => (ret (y14_.any id))) fun b => if b = true then
    (rtT false)
    else (nxT ()))
    fun (w15_ : Unit) => (thnT (appT l1 (0 : Int))
    fun (l7 : List Int) => (thnT (appT l5 none)
    fun (l8 : List (Option Int)) => (reT (andX (bnd (TP.s_good_options x0 x1 x2) fun y16_ => (bnd (ret (cutG l7 none (some (-(1 : Int))))) fun y17_ => (ret (decide (y16_ = y17_))))) (bnd (bnd (TP.s_spoilers x0 x1 x2) fun x => ret (some x)) fun y18_ => (ret (decide (y18_ = s3)))))))))))))) (p_vM (p_mLst p_lNil (of_decide_eq_true rfl)) (Fz.fz (m := (lm (vm (eO D.int)))) (([] : List (Option Int))))) fun v2 => (by exact (s_thn (N1 := (fun _ => (Rp a0))) (eN1 := (fun w => (eO (eL (eO D.int))) w)) (s_ifX (TL.x_tV (TL.x_ev2 (gVX (TL.x_vS (gVP (p_c rfl) (gVP (p_c rfl) o_ixL))) fun y4_ => (gVP (p_c rfl) (f_oo rfl))))) Le.refl
    (s_V (g_vM (TL.x_callM (a_X (TL.x_vS (gVP (p_c rfl) (gVP (p_c rfl) o_ixL))) fun y5_ => (a_P (p_c rfl) (a_X (TL.x_vS (gVP (p_c rfl) (gVP (p_c rfl) o_ixL))) fun y6_ => (a_nil (f_if rfl (g_fnP (ok_law_spoilers y5_ x1 y6_))))))))) Le.refl
    fun v4 => (s_nx rfl Le.refl))
    (s_nx rfl Le.refl))
    fun s3 => (s_L (TL.x_callM (a_P (p_c rfl) (a_P (p_c rfl) (a_P (p_c rfl) (a_nil (f_if rfl (g_fnP (ok_spoilers x0 x1 x2)))))))) Le.refl
    fun l5 => (by exact (s_thn (N1 := (fun _ => (Rp a0))) (eN1 := (fun w => ())) (s_ifg (lo_env (loe_val (loe_val (loe_val (loe_val (loe_lst (n := (vm D.int)) (xs := l1) rfl (loe_val (loe_lst (n := (vm (eO D.int))) (xs := l5) rfl (loe_none (fun _ h => loe_nil h)))))))))) (p_tOn (p_tV (p_ev2 (p_c rfl) (p_c rfl) (w_is _))) (p_tOn (p_tN (p_tV (p_ev1 (p_c (fz_l (m := (vm (eO D.int))) l5)) rfl))) (p_tV (p_ev2 (p_c (fz_l (m := (vm (eO D.int))) l5)) (p_c rfl) (w_neDO (e := (eL (eO D.int))) (some l5) s3)))))
    (s_reP (p_mV (p_c rfl)) rfl Le.refl)
    (s_nx rfl Le.refl))
    fun w7_ => (by exact (s_thn (N1 := (fun _ => (Rp a0))) (eN1 := (fun w => ())) (s_ifXg (lo_env (loe_val (loe_val (loe_val (loe_val (loe_lst (n := (vm D.int)) (xs := l1) rfl (loe_val (loe_lst (n := (vm (eO D.int))) (xs := l5) rfl (loe_none (fun _ h => loe_nil h)))))))))) (TL.x_tV (TL.x_ev2 (gVP (p_ev2 (p_cV (p_aCons (p_c (fz_l (m := (vm D.int)) l1)) p_aNil) w_lenL rfl) (p_c rfl) rfl) (gVX (TL.x_ev2 (gVX (TL.x_vS (gVP (p_c rfl) (gVP (p_c rfl) o_ixL))) fun y8_ => (gVP (p_c rfl) (f_oo (w_eqI _ _))))) fun y9_ => (f_oo (w_neB _ _)))))) Le.refl
    (s_reP (p_mV (p_c rfl)) rfl Le.refl)
    (s_nx rfl Le.refl))
    fun w10_ => (by exact (s_thn (N1 := (fun _ => (Rp a0))) (eN1 := (fun w => ())) (s_ifXg (lo_env (loe_val (loe_val (loe_val (loe_val (loe_lst (n := (vm D.int)) (xs := l1) rfl (loe_val (loe_lst (n := (vm (eO D.int))) (xs := l5) rfl (loe_none (fun _ h => loe_nil h)))))))))) (TL.x_tV (TL.x_cV (a_X (g_vM (TL.x_lcD (gX (e1 := ml (eO D.int)) (s1 := (bnd (bnd (bnd (ret l1) fun x => ret (x.map some)) fun y11_ => (catX y11_ l5)) fun y12_ => ret (y12_))) (ik_it (i_X (e := (eO D.int)) (g := id) (TL.x_vNw (gVX (g_coe (f := List.map some) eL_some (g_pv (p_c (fz_l (m := (vm D.int)) l1)) rfl)) fun y11_ => (gVP (p_c (fz_l (m := (vm (eO D.int))) l5)) o_catL))) (fun _ => it_L) fun y12_ => g_ret rfl)) fun l13_ => (f_lcPm (m := (vm D.bl)) (g := fun (b6 : (Option Int)) => false) (gd1 (e := (eO D.int))) (fun _ => p_tT) fun b6 => (p_mV (p_ev1 (p_c rfl) (opt_all (op := (dIsi (tabT [.bl]))) (e := D.int) rfl (fun _ => rfl) _))))))) fun y14_ => (a_nil (f_sw w_any rfl))))) Le.refl
    (s_reP (p_mV (p_c rfl)) rfl Le.refl)
    (s_nx rfl Le.refl))
    fun w15_ => (by exact (s_thn (N1 := fun _ => (Rp a0)) (eN1 := List.map (vm D.int)) (s_appP (m := (vm D.int)) (p_mV (p_c rfl)) rfl rfl)
    fun l7 => (by exact (s_thn (N1 := fun _ => (Rp a0)) (eN1 := List.map (vm (eO D.int))) (s_appP (m := (vm (eO D.int))) (p_mV (p_c rfl)) rfl rfl)
    fun l8 => (s_re (g_mV (TL.x_vAn (TL.x_ev2 (gVX (g_vM (TL.x_callM (a_P (p_c rfl) (a_P (p_c rfl) (a_P (p_c rfl) (a_nil (f_if rfl (g_fnP (ok_good_options x0 x1 x2))))))))) fun y16_ => (gVX (g_vM (TL.x_slN (gP (p_c (fz_l (m := (vm D.int)) l7)) (gP p_oNo (gP (p_oSome (p_ev1 (p_c rfl) rfl)) f_slL))))) fun y17_ => (f_oo (w_eqD (e := (eL D.int)) _ _ rfl))))) (TL.x_ev2 (gVX (g_coe (e := (eL (eO D.int))) (f := some) (fun _ => rfl) (g_vM (TL.x_callM (a_P (p_c rfl) (a_P (p_c rfl) (a_P (p_c rfl) (a_nil (f_if rfl (g_fnP (ok_spoilers x0 x1 x2)))))))))) fun y18_ => (gVP (p_c rfl) (f_oo (w_eqDO (e := (eL (eO D.int))) y18_ s3))))))) Le.refl Le.refl))))))))))))))))))) (fun a o e ho => t_law_asked_to _ _ _ _ e ho)
def b_law (x0 : List Int) : Y Sto Unit Empty Bool :=
  (sbn (drawT x0 (14 : Int))
    fun (v1 : Int) => (thnT (sbn (bnd (drawT x0 (3 : Int)) fun y1_ => (ret (decide (y1_ = (0 : Int))))) fun b => if b = true then
    (sbn (bnd (drawT x0 (30 : Int)) fun y2_ => (ret ((30 : Int) + y2_)))
    fun (v3 : Int) => (nxT v3))
    else (nxT v1))
    fun (s2 : (Int)) => (sbn (d_law_game x0 s2)
    fun (v4 : (List (List (Option (List Int))))) => (sbn (lft (d_law_copy v4))
    fun (v5 : (List (List (Option (List Int))))) => (sbn (lft (TP.s_ranks v5))
    fun (v6 : (List Int)) => (sbn (ret v6)
    fun (v7 : (List Int)) => (thnT (sbn (grd (bigP s2) (ret (rangeL s2))) fun l3_ => forT (fun (b9 : Int) (u8 : Unit) => (sbn (bnd (lft (d_law_asked v5 v6 b9 v4)) fun b => ret (!b)) fun b => if b = true then
    (rtT false)
    else (nxT ()))) l3_ ())
    fun (u8 : Unit) => (rtT ((decide (v5 = v4)) && (decide (v6 = v7)))))))))))
theorem ok_law (x0 : List Int) : GS Rq (fun _ => Rq) (fun _ => ()) (fun _ => Rq) (fun k : Empty => k) Rq (vm D.bl) Rq (b_law x0) (t_law (.scr x0)) :=
  (s_V (g_vM (TL.x_callM (a_P (p_c rfl) (a_P (p_c rfl) (a_P (p_c rfl) (a_nil (f_if rfl (ok_draw _ _)))))))) Le.refl
    fun v1 => (by exact (s_thn (N1 := (fun _ => Rq)) (eN1 := (fun w => D.int w)) (s_ifX (TL.x_tV (TL.x_ev2 (gVX (g_vM (TL.x_callM (a_P (p_c rfl) (a_P (p_c rfl) (a_P (p_c rfl) (a_nil (f_if rfl (ok_draw _ _)))))))) fun y1_ => (gVP (p_c rfl) (f_oo (w_eqI _ _)))))) Le.refl
    (s_V (TL.x_vNw (gVP (p_c rfl) (gVX (g_vM (TL.x_callM (a_P (p_c rfl) (a_P (p_c rfl) (a_P (p_c rfl) (a_nil (f_if rfl (ok_draw _ _)))))))) fun y2_ => (f_nw rfl rfl)))) Le.refl
    fun v3 => (s_nx rfl Le.refl))
    (s_nx rfl Le.refl))
    fun s2 => (s_V (g_vM (TL.x_callM (a_P (p_c rfl) (a_P (p_c rfl) (a_P (p_c rfl) (a_nil (f_if rfl (ok_law_game x0 s2)))))))) Le.refl
    fun v4 => (s_V (g_vM (TL.x_callM (a_P (p_c rfl) (a_nil (f_if rfl (g_lft (ok_law_copy v4))))))) Le.refl
    fun v5 => (s_V (g_vM (TL.x_callM (a_P (p_c rfl) (a_nil (f_if rfl (g_lft (ok_ranks v5))))))) Le.refl
    fun v6 => (s_V (g_vM (TL.x_cN (a_P (p_c rfl) (a_nil (f_sm (fun _ => rfl) w_listM))))) Le.refl
    fun v7 => (by exact (s_thn (N1 := (fun _ => Rq)) (eN1 := (fun w => ())) (s_for (N := (fun _ => Rq)) (eN := (fun w => ())) (s := (grd (bigP s2) (ret (rangeL s2)))) (e := D.int) () (ik_it (i_rng1 (a_P (p_c rfl) (a_nil (f_rng1 (g_ret rfl)))))) Le.refl Le.refl rfl (gd1 (e := D.int))
    fun b9 u8 => (s_ifX (TL.x_tN (TL.x_tV (g_vM (TL.x_callM (a_P (p_c rfl) (a_P (p_c rfl) (a_P (p_c rfl) (a_P (p_c rfl) (a_nil (f_if rfl (g_lft (ok_law_asked v5 v6 b9 v4)))))))))))) Le.refl
    (s_reP (p_mV (p_c rfl)) rfl Le.refl)
    (s_nx rfl Le.refl)))
    fun u8 => (s_reP (p_mV (p_vAn (p_ev2 (p_c rfl) (p_c rfl) (w_eqD (e := (eL (eL (eO (eL D.int))))) _ _ rfl)) (p_ev2 (p_c rfl) (p_c rfl) (w_eqD (e := (eL D.int)) _ _ rfl)))) rfl Le.refl))))))))))
end
section
open TL TP
theorem target_eq (ns : List Int) (n : Int) : d_law_target ns n = targetX ns n := by
  unfold d_law_target targetX
  rfl
theorem game_eq (ns : List Int) (n : Int) : d_law_game ns n = gameX ns n := by
  unfold d_law_game gameX
  simp only [target_eq]
theorem copy_eq (g : Game) : d_law_copy g = copyX g := by
  unfold d_law_copy copyX
  rfl
theorem good_is {g : Game} (ok : GameOk g) {F : List Int} (h : Rk g F) {os : List (Option (List Int))} (mg : os ∈ g) : d_law_good os F = TL.ret (goodL F os) := by
  have hr := ok.row os mg
  unfold d_law_good
  rw [sbn_ret, grd_pos (bigP_of (by omega) (by omega)), sbn_ret, forT_flat (m := 1) (g := fun i : Int => if goodB F (os[i.toNat]?.getD none) = true then [i] else []) (fun i hi => by
    refine ⟨by by_cases c : goodB F (os[i.toNat]?.getD none) = true <;> simp [c], fun s hs => ?_⟩
    have b := mem_range hi
    have l : i.toNat < os.length := by omega
    have e := List.getElem?_eq_getElem l
    obtain ⟨o, eo⟩ : ∃ o, o = os[i.toNat] := ⟨_, rfl⟩
    rw [← eo] at e
    have mo : o ∈ os := List.mem_of_getElem? e
    rw [e, ixX_int (n := i.toNat) (by omega) e]
    cases o with
    | none =>
      show (sbn (andX (TL.ret false) _) _ : Y Unit _ _ _) = nxT (s ++ [])
      rw [andX_false, sbn_ret, if_neg (by decide), List.append_nil]
    | some ts =>
      show (sbn (andX (TL.ret true) (bnd (bnd (bnd (TL.ret ts) fun y2_ => TL.ret (y2_)) _) _)) _ : Y Unit _ _ _) = _
      rw [andX_true, bnd_ret, bnd_ret, grd_pos (ok.opt os mg ts mo), mapX_all (g := fun t => decide (fAt F t = 0)) (fun t ht => by
        have := ok.node os mg ts mo t ht
        rw [h.fat this.1 this.2, bnd_ret]), bnd_ret, sbn_ret]
      have e2 : (ts.map fun t => decide (fAt F t = 0)).all id = goodB F (some ts) := by
        rw [List.all_map]
        rfl
      rw [e2]
      show _ = nxT (s ++ if goodB F (some ts) = true then [i] else [])
      by_cases c : goodB F (some ts) = true
      · rw [if_pos c, appT_ok (by omega), thnT_nx, if_pos c]
      · rw [if_neg c, if_neg c, List.append_nil]) (by rw [List.length_nil, range_len]; omega), thnT_nx]
  have : goodL F os = (rangeL os.length).flatMap fun i : Int => if goodB F (os[i.toNat]?.getD none) = true then [i] else [] := by
    unfold goodL
    rw [enum_range, List.flatMap_map]
  rw [this]
  rfl
theorem spoil_is {g : Game} (ok : GameOk g) {F : List Int} (h : Rk g F) {os : List (Option (List Int))} (mg : os ∈ g) {r : Int} (hs : ∀ ts, some ts ∈ os → ∃ t, spoilF F r ts = some t) : d_law_spoilers os F r = TL.ret (some (spoilL F r os)) := by
  have hr := ok.row os mg
  unfold d_law_spoilers
  rw [sbn_ret, forT_map (g := fun o : Option (List Int) => o.bind (spoilF F r)) (fun o ho s hl => by
    cases o with
    | none =>
      show thnT (appT s none) _ = _
      rw [appT_ok hl, thnT_nx]
      rfl
    | some ts =>
      obtain ⟨t, ht⟩ := hs ts ho
      show (sbn (bnd (bnd (TL.ret ts) fun y1_ => TL.ret (y1_)) _) _ : Y Unit _ _ _) = _
      rw [bnd_ret, bnd_ret, grd_pos (ok.opt os mg ts ho), fmX_all (q := fun t => decide (0 < fAt F t) && decide (fAt F t < r)) (g := fun t => t) (fun t m => ⟨by
        have := ok.node os mg ts ho t m
        rw [h.fat this.1 this.2, chX_ret], fun _ => rfl⟩), sbn_ret, List.map_id']
      have eh : (ts.filter fun t => decide (0 < fAt F t) && decide (fAt F t < r)).head? = some t := by
        rw [List.head?_filter]
        exact ht
      obtain ⟨tl, el⟩ : ∃ tl, (ts.filter fun t => decide (0 < fAt F t) && decide (fAt F t < r)) = t :: tl := by
        cases e : ts.filter fun t => decide (0 < fAt F t) && decide (fAt F t < r) with
        | nil =>
          rw [e] at eh
          exact nomatch eh
        | cons x tl =>
          rw [e] at eh
          have := Option.some.inj eh
          subst this
          exact ⟨tl, rfl⟩
      rw [el, if_neg (by simp; omega), thnT_nx, ixX_0, bnd_ret, sbn_ret, appT_ok hl, thnT_nx]
      show _ = nxT (s ++ [spoilF F r ts])
      rw [ht]) (by rw [List.length_nil]; omega), thnT_nx]
  rfl
theorem asked_is {g : Game} (ok : GameOk g) {F : List Int} (h : Rk g F) {v : Int} (h0 : 0 ≤ v) (h1 : v < g.length) (hl : ∀ os ∈ g, os.length ≤ 1000) : d_law_asked g F v g = TL.ret true := by
  have lg : v.toNat < g.length := by omega
  have eg := List.getElem?_eq_getElem lg
  obtain ⟨os, eo⟩ : ∃ os, os = g[v.toNat] := ⟨_, rfl⟩
  rw [← eo] at eg
  have mg : os ∈ g := List.mem_of_getElem? eg
  have hr := hl os mg
  have gl : (goodL F os).length ≤ 1000 := Nat.le_trans (flat_len (m := 1) fun q hq => by by_cases c : goodB F q.2 = true <;> simp [c]) (by rw [enum_len]; omega)
  have gd := good_options_is ok h h0 eg
  have sp := spoilers_is ok h h0 h1 eg
  have sl : ∀ r, (spoilL F r os).length ≤ 1000 := fun r => by unfold spoilL; rw [List.length_map]; exact hr
  unfold d_law_asked
  rw [gd, sbn_ret, ixX_int (n := v.toNat) (by omega) eg, bnd_ret, good_is ok h mg, bnd_ret, decide_eq_true rfl]
  rw [show (orX (TL.ret (!true)) (TL.ret (!true)) : X Unit Bool) = TL.ret false from rfl, sbn_ret, if_neg (by decide), thnT_nx]
  dsimp only
  rw [h.fat h0 h1, bnd_ret, sbn_ret, bnd_ret, bnd_ret]
  have ps := h.fnn h0 h1
  obtain ⟨A, eA⟩ : ∃ A, A = if fAt F v = 0 then [] else spoilL F (fAt F v) os := ⟨_, rfl⟩
  rw [← eA] at sp
  have lA : A.length ≤ 1000 := by
    rw [eA]
    by_cases c : fAt F v = 0
    · rw [if_pos c]; exact Nat.zero_le _
    · rw [if_neg c]; exact sl _
  have due : (if decide ((0 : Int) < fAt F v) = true then (sbn (d_law_spoilers os F (fAt F v)) fun (v4 : (Option (List (Option Int)))) => (nxT v4 : Y Unit (Option (List (Option Int))) Empty Bool)) else nxT (some [])) = nxT (some A) := by
    by_cases c : fAt F v = 0
    · rw [if_neg (by simp; omega), eA, if_pos c]
    · rw [if_pos (by simp; omega), spoil_is ok h mg (fun ts hts => h.spoil ok h0 h1 eg (by omega) hts), sbn_ret, eA, if_neg c]
  rw [due, thnT_nx, sp, sbn_ret, decide_eq_true rfl, if_neg (fun h => by simp at h), thnT_nx, bnd_ret]
  have lng : decide ((0 : Int) < ((goodL F os).length : Int)) = decide (fAt F v = 0) := by
    apply decide_eq_decide.mpr
    rw [h.good ok h0 h1 eg]
    constructor
    · intro z
      have : goodL F os ≠ [] := fun e => by rw [e] at z; simp at z
      obtain ⟨x, hx⟩ := List.exists_mem_of_ne_nil _ this
      obtain ⟨q, hq, hx⟩ := List.mem_flatMap.mp hx
      obtain ⟨i, _, hi⟩ := enum_mem.mp hq
      by_cases c : goodB F q.2 = true
      · exact ⟨q.2, List.mem_of_getElem? hi, c⟩
      · rw [if_neg c] at hx
        exact nomatch hx
    · rintro ⟨o, ho, c⟩
      obtain ⟨i, hi⟩ := List.getElem?_of_mem ho
      have : ((i : Nat) : Int) ∈ goodL F os := List.mem_flatMap.mpr ⟨((i : Int), o), enum_mem.mpr ⟨i, rfl, hi⟩, by rw [if_pos c]; exact List.mem_singleton.mpr rfl⟩
      have := List.length_pos_of_mem this
      omega
  rw [bnd_ret, lng, decide_eq_true rfl, sbn_ret, if_neg (by decide), thnT_nx, bnd_ret]
  unfold catX
  rw [bnd_ret, grd_pos (by rw [List.length_map]; omega), bnd_ret, bnd_ret, grd_pos (by rw [List.length_append, List.length_map]; omega), bnd_ret]
  have hno : ((((goodL F os).map some ++ A).map fun (b6 : (Option Int)) => false).any id) = false := by
    rw [List.any_map]
    apply List.any_eq_false.mpr
    intro x _
    exact fun h => nomatch h
  rw [hno, sbn_ret, if_neg (by decide), thnT_nx, appT_ok (by omega), thnT_nx, appT_ok (by omega), thnT_nx, bnd_ret, bnd_ret, bnd_ret, bnd_ret]
  rw [cut_last, decide_eq_true rfl, decide_eq_true rfl]
  rfl
theorem law_true (ns : List Int) : Rets (b_law ns) fun r => r = true := by
  unfold b_law
  refine rets_sbn (does_draw (by decide) (by decide)) fun v1 h1 => ?_
  refine rets_thn (P := fun n : Int => 0 ≤ n ∧ n ≤ 1000) (goes_sbn (P := fun _ => True) (does_bnd (does_draw (by decide) (by decide)) fun y _ => does_ret trivial) fun b _ => goes_if (fun _ => goes_sbn (P := fun n : Int => 0 ≤ n ∧ n ≤ 1000) (does_bnd (does_draw (by decide) (by decide)) fun y hy => does_ret (by omega)) fun n hn => goes_nx hn) fun _ => goes_nx (by omega)) fun n hn => ?_
  rw [game_eq]
  refine rets_sbn (gameX_does ns hn.1 hn.2) fun g hg => ?_
  have ok := hg.ok hn.2
  obtain ⟨F, eF, hF⟩ := ranks_is ok
  have gl := hg.len
  rw [copy_eq, copyX_is ok, lft_ret, sbn_ret, eF, lft_ret, sbn_ret, sbn_ret, grd_pos (bigP_of (by omega) (by omega)), sbn_ret, forT_all (fun i hi => by
    have := mem_range hi
    rw [asked_is ok hF this.1 (by omega) fun os hos => Nat.le_trans (hg.row os hos) (by omega), lft_ret, bnd_ret, sbn_ret, if_neg (by decide)]), thnT_nx, decide_eq_true rfl, decide_eq_true rfl]
  exact rets_rt rfl
theorem main : ∀ ns : List Int, ns.length ≤ 63 → f_law [.scr ns] [] = .ok (.val (.bl true)) [] := fun ns _ => law_T (fun ns => t_law_to ns) ok_law (fun ns z hz => law_of law_true ns z hz) ns
end
section
variable {w : World} {K : PySem.W.Frag} {mg : Str → Option Value} {base : Heap} {G : Gx} [NoPin G]
theorem o_law_start (hK : G.K = K) (n_abs : mg "abs" = none) (n_int : mg "int" = none) (n_len : mg "len" = none) {f : Addr} {fd : FuncData} (F : Fun K "_law_start" "_law_start" s_law_start f fd) (b : Binds K fd ["_law_script"] []) (hm : mg "_law_start" = some (.ref f)) : DefD PySem.Challenge.pw_waterbyturns_k22_options_that_are_good_o w K mg base G "_law_start" 1 1 f_law_start :=
  defD F sc_law_start b hm fun cdv A outer s H E hr =>
    have tk := takes_of (X := cxOf (L2.CX PySem.Challenge.pw_waterbyturns_k22_options_that_are_good_o w) PySem.Challenge.pw_waterbyturns_k22_options_that_are_good_o w K mg base ["_law_script", "_law_first"] "_law_start" (defScope s_law_start) f cdv A outer s H E) rfl rfl rfl rfl
    have ps := passes_of (X := cxOf (L2.CX PySem.Challenge.pw_waterbyturns_k22_options_that_are_good_o w) PySem.Challenge.pw_waterbyturns_k22_options_that_are_good_o w K mg base ["_law_script", "_law_first"] "_law_start" (defScope s_law_start) f cdv A outer s H E) rfl
    (dss_cons (ds_set (i := 1) [] sc_law_start.nd rfl (.inl rfl) (dm_v dv_int))
    (dss_cons (ds_if [] (dt_gt (dv_len hK n_len (da_cons (dv_var (i := 0) rfl (.inl rfl)) da_nil)) dv_int) (dss_one (ds_set (i := 1) [] sc_law_start.nd rfl (.inl rfl) (dm_v (dv_ix hK (dv_var (i := 0) rfl (.inl rfl)) dv_int (fun _ _ => rfl))))) dss_nil)
    (dss_one (ds_ret [] (dm_lst (dl_cons (dm_v (dv_abs n_abs (da_cons (dv_toint n_int (da_cons (dv_var (i := 1) rfl (.inl rfl)) da_nil)) da_nil))) (dl_cons (dm_v (dv_toint n_int (da_cons (dv_ge (dv_abs n_abs (da_cons (dv_toint n_int (da_cons (dv_var (i := 1) rfl (.inl rfl)) da_nil)) da_nil)) (dv_pow dv_int dv_int)) da_nil))) (dl_cons (dm_v dv_int) (dl_cons (dm_v dv_int) dl_nil)))))))))
theorem o_law_draw (hK : G.K = K) (n_int : mg "int" = none) (n_len : mg "len" = none) {f : Addr} {fd : FuncData} (F : Fun K "_law_draw" "_law_draw" s_law_draw f fd) (b : Binds K fd ["_law_script", "_law_state", "_law_limit"] []) (hm : mg "_law_draw" = some (.ref f)) : DefD PySem.Challenge.pw_waterbyturns_k22_options_that_are_good_o w K mg base G "_law_draw" 1 3 f_law_draw :=
  defD F sc_law_draw b hm fun cdv A outer s H E hr =>
    have tk := takes_of (X := cxOf (L2.CX PySem.Challenge.pw_waterbyturns_k22_options_that_are_good_o w) PySem.Challenge.pw_waterbyturns_k22_options_that_are_good_o w K mg base ["_law_script", "_law_state", "_law_limit", "_law_number", "_law_cell", "_law_mixed"] "_law_draw" (defScope s_law_draw) f cdv A outer s H E) rfl rfl rfl rfl
    have ps := passes_of (X := cxOf (L2.CX PySem.Challenge.pw_waterbyturns_k22_options_that_are_good_o w) PySem.Challenge.pw_waterbyturns_k22_options_that_are_good_o w K mg base ["_law_script", "_law_state", "_law_limit", "_law_number", "_law_cell", "_law_mixed"] "_law_draw" (defScope s_law_draw) f cdv A outer s H E) rfl
    (dss_cons (ds_sto (ko := 1) [] (dm_v (dv_add hK (dv_ix hK (dv_var (i := 1) rfl (.inl rfl)) dv_int (fun _ _ => rfl)) dv_int)) rfl (.inl rfl))
    (dss_cons (ds_if [] (dt_w (dw_and (dt_eq hK hr (dv_ix hK (dv_var (i := 1) rfl (.inl rfl)) dv_int (fun _ _ => rfl)) dv_int) (dw_and1 (dt_gt (dv_ix hK (dv_var (i := 1) rfl (.inl rfl)) dv_int (fun _ _ => rfl)) dv_int)))) (dss_cons (ds_set (i := 3) [] sc_law_draw.nd rfl (.inl rfl) (dm_v (dv_mod (dv_toint n_int (da_cons (dv_ix hK (dv_var (i := 1) rfl (.inl rfl)) dv_int (fun _ _ => rfl)) da_nil)) (dv_var (i := 2) rfl (.inl rfl)))))
    (dss_cons (ds_sto (ko := 1) [] (dm_v (dv_div (dv_ix hK (dv_var (i := 1) rfl (.inl rfl)) dv_int (fun _ _ => rfl)) (dv_var (i := 2) rfl (.inl rfl)))) rfl (.inl rfl))
    (dss_one (ds_ret [] (dm_v (dv_var (i := 3) rfl (.inl rfl))))))) dss_nil)
    (dss_cons (ds_sto (ko := 1) [] (dm_v dv_int) rfl (.inl rfl))
    (dss_cons (ds_set (i := 4) [] sc_law_draw.nd rfl (.inl rfl) (dm_v dv_int))
    (dss_cons (ds_if [] (dt_gt (dv_len hK n_len (da_cons (dv_var (i := 0) rfl (.inl rfl)) da_nil)) dv_int) (dss_one (ds_set (i := 4) [] sc_law_draw.nd rfl (.inl rfl) (dm_v (dv_ix hK (dv_var (i := 0) rfl (.inl rfl)) (dv_mod (dv_toint n_int (da_cons (dv_ix hK (dv_var (i := 1) rfl (.inl rfl)) dv_int (fun _ _ => rfl)) da_nil)) (dv_len hK n_len (da_cons (dv_var (i := 0) rfl (.inl rfl)) da_nil))) (fun _ _ => rfl))))) dss_nil)
    (dss_cons (ds_sto (ko := 1) [] (dm_v (dv_add hK (dv_ix hK (dv_var (i := 1) rfl (.inl rfl)) dv_int (fun _ _ => rfl)) dv_int)) rfl (.inl rfl))
    (dss_cons (ds_set (i := 5) [] sc_law_draw.nd rfl (.inl rfl) (dm_v (dv_mul (dv_mod (dv_toint n_int (da_cons (dv_ix hK (dv_var (i := 1) rfl (.inl rfl)) dv_int (fun _ _ => rfl)) da_nil)) dv_int) dv_int)))
    (dss_cons (ds_set (i := 5) [] sc_law_draw.nd rfl (.inl rfl) (dm_v (dv_add hK (dv_add hK (dv_add hK (dv_var (i := 5) rfl (.inl rfl)) (dv_mod (dv_toint n_int (da_cons (dv_var (i := 4) rfl (.inl rfl)) da_nil)) dv_int)) (dv_mul dv_int (dv_ix hK (dv_var (i := 1) rfl (.inl rfl)) dv_int (fun _ _ => rfl)))) dv_int)))
    (dss_cons (ds_sto (ko := 1) [] (dm_v (dv_mod (dv_toint n_int (da_cons (dv_var (i := 5) rfl (.inl rfl)) da_nil)) dv_int)) rfl (.inl rfl))
    (dss_cons (ds_set (i := 5) [] sc_law_draw.nd rfl (.inl rfl) (dm_v (dv_mod (dv_toint n_int (da_cons (dv_add hK (dv_mul (dv_ix hK (dv_var (i := 1) rfl (.inl rfl)) dv_int (fun _ _ => rfl)) dv_int) (dv_ix hK (dv_var (i := 1) rfl (.inl rfl)) dv_int (fun _ _ => rfl))) da_nil)) dv_int)))
    (dss_one (ds_ret [] (dm_v (dv_mod (dv_toint n_int (da_cons (dv_div (dv_var (i := 5) rfl (.inl rfl)) dv_int) da_nil)) (dv_var (i := 2) rfl (.inl rfl))))))))))))))))
theorem o_law_target (hK : G.K = K) (d__law_draw : DefD PySem.Challenge.pw_waterbyturns_k22_options_that_are_good_o w K mg base G "_law_draw" 1 3 f_law_draw) (n_int : mg "int" = none) (n_min : mg "min" = none) {f : Addr} {fd : FuncData} (F : Fun K "_law_target" "_law_target" s_law_target f fd) (b : Binds K fd ["_law_script", "_law_state", "_law_many"] []) (hm : mg "_law_target" = some (.ref f)) : DefD PySem.Challenge.pw_waterbyturns_k22_options_that_are_good_o w K mg base G "_law_target" 2 3 f_law_target :=
  defD F sc_law_target b hm fun cdv A outer s H E hr =>
    have tk := takes_of (X := cxOf (L2.CX PySem.Challenge.pw_waterbyturns_k22_options_that_are_good_o w) PySem.Challenge.pw_waterbyturns_k22_options_that_are_good_o w K mg base ["_law_script", "_law_state", "_law_many"] "_law_target" (defScope s_law_target) f cdv A outer s H E) rfl rfl rfl rfl
    have ps := passes_of (X := cxOf (L2.CX PySem.Challenge.pw_waterbyturns_k22_options_that_are_good_o w) PySem.Challenge.pw_waterbyturns_k22_options_that_are_good_o w K mg base ["_law_script", "_law_state", "_law_many"] "_law_target" (defScope s_law_target) f cdv A outer s H E) rfl
    (dss_cons (ds_if [] (dt_eq hK hr (dv_m (dm_call d__law_draw (hr.mono (by decide)) tk (da_cons (dv_var (i := 0) rfl (.inl rfl)) (da_cons (dv_var (i := 1) rfl (.inl rfl)) (da_cons dv_int da_nil))))) dv_int) (dss_one (ds_ret [] (dm_call d__law_draw (hr.mono (by decide)) tk (da_cons (dv_var (i := 0) rfl (.inl rfl)) (da_cons (dv_var (i := 1) rfl (.inl rfl)) (da_cons (dv_var (i := 2) rfl (.inl rfl)) da_nil)))))) dss_nil)
    (dss_one (ds_ret [] (dm_v (dv_toint n_int (da_cons (dv_sub (dv_sub (dv_var (i := 2) rfl (.inl rfl)) dv_int) (dv_m (dm_call d__law_draw (hr.mono (by decide)) tk (da_cons (dv_var (i := 0) rfl (.inl rfl)) (da_cons (dv_var (i := 1) rfl (.inl rfl)) (da_cons (dv_min2 rfl n_min (da_cons (dv_var (i := 2) rfl (.inl rfl)) (da_cons dv_int da_nil))) da_nil)))))) da_nil))))))
theorem o_law_game (hK : G.K = K) (d__law_draw : DefD PySem.Challenge.pw_waterbyturns_k22_options_that_are_good_o w K mg base G "_law_draw" 1 3 f_law_draw) (d__law_target : DefD PySem.Challenge.pw_waterbyturns_k22_options_that_are_good_o w K mg base G "_law_target" 2 3 f_law_target) (n_range : mg "range" = none) {f : Addr} {fd : FuncData} (F : Fun K "_law_game" "_law_game" s_law_game f fd) (b : Binds K fd ["_law_script", "_law_state", "_law_many"] []) (hm : mg "_law_game" = some (.ref f)) : DefD PySem.Challenge.pw_waterbyturns_k22_options_that_are_good_o w K mg base G "_law_game" 3 3 f_law_game :=
  defD F sc_law_game b hm fun cdv A outer s H E hr =>
    have tk := takes_of (X := cxOf (L2.CX PySem.Challenge.pw_waterbyturns_k22_options_that_are_good_o w) PySem.Challenge.pw_waterbyturns_k22_options_that_are_good_o w K mg base ["_law_script", "_law_state", "_law_many", "_law_game_here", "_law_node", "_law_options", "_law_k", "_law_size", "_law_j"] "_law_game" (defScope s_law_game) f cdv A outer s H E) rfl rfl rfl rfl
    have ps := passes_of (X := cxOf (L2.CX PySem.Challenge.pw_waterbyturns_k22_options_that_are_good_o w) PySem.Challenge.pw_waterbyturns_k22_options_that_are_good_o w K mg base ["_law_script", "_law_state", "_law_many", "_law_game_here", "_law_node", "_law_options", "_law_k", "_law_size", "_law_j"] "_law_game" (defScope s_law_game) f cdv A outer s H E) rfl
    (dss_cons (ds_set (i := 3) [] sc_law_game.nd rfl (.inl rfl) (dm_lst dl_nil))
    (dss_cons (ds_for [] ps rfl (di_range1 rfl n_range (da_cons (dv_var (i := 2) rfl (.inr (.inl rfl))) da_nil)) (dg_name (i := 4) sc_law_game.nd rfl (.inl rfl)) (dss_cons (ds_set (i := 5) [] sc_law_game.nd rfl (.inl rfl) (dm_lst dl_nil))
    (dss_cons (ds_for [] ps rfl (di_range1 rfl n_range (da_cons (dv_m (dm_call d__law_draw (hr.mono (by decide)) tk (da_cons (dv_var (i := 0) rfl (.inr (.inl rfl))) (da_cons (dv_var (i := 1) rfl (.inr (.inl rfl))) (da_cons dv_int da_nil))))) da_nil)) (dg_name (i := 6) sc_law_game.nd rfl (.inl rfl)) (dss_one (ds_if [] (dt_eq hK hr (dv_m (dm_call d__law_draw (hr.mono (by decide)) tk (da_cons (dv_var (i := 0) rfl (.inr (.inl rfl))) (da_cons (dv_var (i := 1) rfl (.inr (.inl rfl))) (da_cons dv_int da_nil))))) dv_int) (dss_one (ds_append (i := 5) [] (dm_v dv_non) rfl (.inl rfl))) (dss_cons (ds_set (i := 7) [] sc_law_game.nd rfl (.inl rfl) (dm_v (dv_ix hK (dv_m (dm_lst (dl_cons (dm_v dv_int) (dl_cons (dm_v dv_int) (dl_cons (dm_v dv_int) (dl_cons (dm_call d__law_draw (hr.mono (by decide)) tk (da_cons (dv_var (i := 0) rfl (.inr (.inl rfl))) (da_cons (dv_var (i := 1) rfl (.inr (.inl rfl))) (da_cons dv_int da_nil)))) dl_nil)))))) (dv_m (dm_call d__law_draw (hr.mono (by decide)) tk (da_cons (dv_var (i := 0) rfl (.inr (.inl rfl))) (da_cons (dv_var (i := 1) rfl (.inr (.inl rfl))) (da_cons dv_int da_nil))))) (fun _ _ => rfl))))
    (dss_one (ds_append (i := 5) [] (dm_v (dv_m (dm_lc rfl sc_law_game.nd (own := [("_law_j", 8)]) (di_range1 rfl n_range (da_cons (dv_var (i := 7) rfl (.inl rfl)) da_nil)) (blkOk_by (N := ["_law_script", "_law_state", "_law_many", "_law_game_here", "_law_node", "_law_options", "_law_k", "_law_size", "_law_j"]) (sc := defScope s_law_game) (own := [("_law_j", 8)]) (by decide +kernel)) (fun _ _ _ _ _ => (dgx_name (i := 8) sc_law_game.nd rfl (.inl rfl) (by decide))) (fun _ _ _ _ _ => dps_nil) (fun _ _ _ _ _ => (dm_call d__law_target (hr.mono (by decide)) takes0 (da_cons (dv_var (i := 0) rfl (vis_blk (by decide +kernel))) (da_cons (dv_var (i := 1) rfl (vis_blk (by decide +kernel))) (da_cons (dv_var (i := 2) rfl (vis_blk (by decide +kernel))) da_nil)))))))) rfl (.inl rfl)))))))
    (dss_one (ds_fz [5] (ds_append (i := 3) [] (dm_v (dv_var (i := 5) rfl (.inl rfl))) rfl (.inl rfl)))))))
    (dss_one (ds_retO (i := 3) rfl (.inl rfl)))))
theorem o_law_copy (hK : G.K = K) (n_list : mg "list" = none) {f : Addr} {fd : FuncData} (F : Fun K "_law_copy" "_law_copy" s_law_copy f fd) (b : Binds K fd ["_law_game_here"] []) (hm : mg "_law_copy" = some (.ref f)) : DefD PySem.Challenge.pw_waterbyturns_k22_options_that_are_good_o w K mg base G "_law_copy" 1 1 f_law_copy :=
  defD F sc_law_copy b hm fun cdv A outer s H E hr =>
    have tk := takes_of (X := cxOf (L2.CX PySem.Challenge.pw_waterbyturns_k22_options_that_are_good_o w) PySem.Challenge.pw_waterbyturns_k22_options_that_are_good_o w K mg base ["_law_game_here", "_law_copy_here", "_law_options", "_law_option"] "_law_copy" (defScope s_law_copy) f cdv A outer s H E) rfl rfl rfl rfl
    have ps := passes_of (X := cxOf (L2.CX PySem.Challenge.pw_waterbyturns_k22_options_that_are_good_o w) PySem.Challenge.pw_waterbyturns_k22_options_that_are_good_o w K mg base ["_law_game_here", "_law_copy_here", "_law_options", "_law_option"] "_law_copy" (defScope s_law_copy) f cdv A outer s H E) rfl
    (dss_cons (ds_set (i := 1) [] sc_law_copy.nd rfl (.inl rfl) (dm_lst dl_nil))
    (dss_cons (ds_for [] ps rfl (di_seq hK (dv_var (i := 0) rfl (.inl rfl))) (dg_name (i := 2) sc_law_copy.nd rfl (.inl rfl)) (dss_one (ds_append (i := 1) [] (dm_lc rfl sc_law_copy.nd (own := [("_law_option", 3)]) (di_seq hK (dv_var (i := 2) rfl (.inl rfl))) (blkOk_by (N := ["_law_game_here", "_law_copy_here", "_law_options", "_law_option"]) (sc := defScope s_law_copy) (own := [("_law_option", 3)]) (by decide +kernel)) (fun _ _ _ _ _ => (dgx_name (i := 3) sc_law_copy.nd rfl (.inl rfl) (by decide))) (fun _ _ _ _ _ => dps_nil) (fun _ _ _ _ _ => (dm_if (dt_isN (dv_var (i := 3) rfl (vis_blk (by decide +kernel))) dv_non) (dm_v dv_non) (dm_v (dv_m (dm_tolst hK n_list (da_cons (dv_var (i := 3) rfl (vis_blk (by decide +kernel))) da_nil))))))) rfl (.inl rfl))))
    (dss_one (ds_retO (i := 1) rfl (.inl rfl)))))
theorem o_is_integer (hK : G.K = K) (n_bool : mg "bool" = none) (n_int : mg "int" = none) (n_isinstance : mg "isinstance" = none) {f : Addr} {fd : FuncData} (F : Fun K "is_integer" "is_integer" s_is_integer f fd) (b : Binds K fd ["value"] []) (hm : mg "is_integer" = some (.ref f)) : DefD PySem.Challenge.pw_waterbyturns_k22_options_that_are_good_o w K mg base G "is_integer" 1 1 f_is_integer :=
  defD F sc_is_integer b hm fun cdv A outer s H E hr =>
    have tk := takes_of (X := cxOf (L2.CX PySem.Challenge.pw_waterbyturns_k22_options_that_are_good_o w) PySem.Challenge.pw_waterbyturns_k22_options_that_are_good_o w K mg base ["value"] "is_integer" (defScope s_is_integer) f cdv A outer s H E) rfl rfl rfl rfl
    have ps := passes_of (X := cxOf (L2.CX PySem.Challenge.pw_waterbyturns_k22_options_that_are_good_o w) PySem.Challenge.pw_waterbyturns_k22_options_that_are_good_o w K mg base ["value"] "is_integer" (defScope s_is_integer) f cdv A outer s H E) rfl
    (dss_one (ds_ret [] (dm_v (dv_and (dv_isT hK tab_int n_isinstance n_int boot_int (dv_var (i := 0) rfl (.inl rfl))) (dv_one (dv_not (dv_isT hK tab_bool n_isinstance n_bool boot_bool (dv_var (i := 0) rfl (.inl rfl)))))))))
theorem o_check_number (hK : G.K = K) (d_is_integer : DefD PySem.Challenge.pw_waterbyturns_k22_options_that_are_good_o w K mg base G "is_integer" 1 1 f_is_integer) {i_BadNumber : Addr} (e_BadNumber : DX.Txt PySem.Challenge.pw_waterbyturns_k22_options_that_are_good_o K mg (G.T 2) i_BadNumber "BadNumber" "BadNumber.__init__" "bad number" ["what", "value"] s_BadNumber_init) {f : Addr} {fd : FuncData} (F : Fun K "check_number" "check_number" s_check_number f fd) (b : Binds K fd ["what", "value", "low", "high"] []) (hm : mg "check_number" = some (.ref f)) : DefD PySem.Challenge.pw_waterbyturns_k22_options_that_are_good_o w K mg base G "check_number" 2 4 f_check_number :=
  defD F sc_check_number b hm fun cdv A outer s H E hr =>
    have tk := takes_of (X := cxOf (L2.CX PySem.Challenge.pw_waterbyturns_k22_options_that_are_good_o w) PySem.Challenge.pw_waterbyturns_k22_options_that_are_good_o w K mg base ["what", "value", "low", "high"] "check_number" (defScope s_check_number) f cdv A outer s H E) rfl rfl rfl rfl
    have ps := passes_of (X := cxOf (L2.CX PySem.Challenge.pw_waterbyturns_k22_options_that_are_good_o w) PySem.Challenge.pw_waterbyturns_k22_options_that_are_good_o w K mg base ["what", "value", "low", "high"] "check_number" (defScope s_check_number) f cdv A outer s H E) rfl
    (dss_cons (ds_if [] (dt_w (dw_or (dt_not (dt_val (dv_m (dm_call d_is_integer (hr.mono (by decide)) tk (da_cons (dv_var (i := 1) rfl (.inl rfl)) da_nil))))) (dw_or (dt_lt (dv_var (i := 1) rfl (.inl rfl)) (dv_var (i := 2) rfl (.inl rfl))) (dw_or1 (dt_gt (dv_var (i := 1) rfl (.inl rfl)) (dv_var (i := 3) rfl (.inl rfl))))))) (dss_one (ds_raise [] rfl tk (dr_x (c := 2) e_BadNumber hr (da_cons (dv_var (i := 0) rfl (.inl rfl)) (da_cons (dv_var (i := 1) rfl (.inl rfl)) da_nil))))) dss_nil)
    (dss_one (ds_ret [] (dm_v (dv_var (i := 1) rfl (.inl rfl))))))
theorem o_check_game (hK : G.K = K) (d_check_number : DefD PySem.Challenge.pw_waterbyturns_k22_options_that_are_good_o w K mg base G "check_number" 2 4 f_check_number) {i_TooMany : Addr} (e_TooMany : DX.Txt PySem.Challenge.pw_waterbyturns_k22_options_that_are_good_o K mg (G.T 5) i_TooMany "TooMany" "TooMany.__init__" "too many" ["limit"] s_TooMany_init) {k_MOST_NODES : Tok} (g_MOST_NODES : mg "MOST_NODES" = some (.int 12000 k_MOST_NODES)) (n_len : mg "len" = none) {f : Addr} {fd : FuncData} (F : Fun K "check_game" "check_game" s_check_game f fd) (b : Binds K fd ["game"] []) (hm : mg "check_game" = some (.ref f)) : DefD PySem.Challenge.pw_waterbyturns_k22_options_that_are_good_o w K mg base G "check_game" 3 1 f_check_game :=
  defD F sc_check_game b hm fun cdv A outer s H E hr =>
    have tk := takes_of (X := cxOf (L2.CX PySem.Challenge.pw_waterbyturns_k22_options_that_are_good_o w) PySem.Challenge.pw_waterbyturns_k22_options_that_are_good_o w K mg base ["game", "options", "option", "node"] "check_game" (defScope s_check_game) f cdv A outer s H E) rfl rfl rfl rfl
    have ps := passes_of (X := cxOf (L2.CX PySem.Challenge.pw_waterbyturns_k22_options_that_are_good_o w) PySem.Challenge.pw_waterbyturns_k22_options_that_are_good_o w K mg base ["game", "options", "option", "node"] "check_game" (defScope s_check_game) f cdv A outer s H E) rfl
    (dss_cons (ds_if [] (dt_gt (dv_len hK n_len (da_cons (dv_var (i := 0) rfl (.inl rfl)) da_nil)) (dv_glob (v := .int 12000) rfl g_MOST_NODES ⟨_, rfl⟩ fun _ _ => rfl)) (dss_one (ds_raise [] rfl tk (dr_x (c := 5) e_TooMany hr (da_cons (dv_glob (v := .int 12000) rfl g_MOST_NODES ⟨_, rfl⟩ fun _ _ => rfl) da_nil)))) dss_nil)
    (dss_one (ds_for [] ps rfl (di_seq hK (dv_var (i := 0) rfl (.inl rfl))) (dg_name (i := 1) sc_check_game.nd rfl (.inl rfl)) (dss_one (ds_for [] ps rfl (di_seq hK (dv_var (i := 1) rfl (.inl rfl))) (dg_name (i := 2) sc_check_game.nd rfl (.inl rfl)) (dss_one (ds_if [] (dt_notN (dv_var (i := 2) rfl (.inl rfl)) dv_non) (dss_one (ds_for [] ps rfl (di_seq hK (dv_var (i := 2) rfl (.inl rfl))) (dg_name (i := 3) sc_check_game.nd rfl (.inl rfl)) (dss_one (ds_expr [] (dm_call d_check_number (hr.mono (by decide)) tk (da_cons dv_str (da_cons (dv_var (i := 3) rfl (.inl rfl)) (da_cons dv_int (da_cons (dv_sub (dv_len hK n_len (da_cons (dv_var (i := 0) rfl (.inl rfl)) da_nil)) dv_int) da_nil))))))))) dss_nil)))))))
theorem o_users_of (hK : G.K = K) (n_enumerate : mg "enumerate" = none) {f : Addr} {fd : FuncData} (F : Fun K "users_of" "users_of" s_users_of f fd) (b : Binds K fd ["game"] []) (hm : mg "users_of" = some (.ref f)) : DefD PySem.Challenge.pw_waterbyturns_k22_options_that_are_good_o w K mg base G "users_of" 1 1 f_users_of :=
  defD F sc_users_of b hm fun cdv A outer s H E hr =>
    have tk := takes_of (X := cxOf (L2.CX PySem.Challenge.pw_waterbyturns_k22_options_that_are_good_o w) PySem.Challenge.pw_waterbyturns_k22_options_that_are_good_o w K mg base ["game", "users", "node", "options", "place", "option", "target"] "users_of" (defScope s_users_of) f cdv A outer s H E) rfl rfl rfl rfl
    have ps := passes_of (X := cxOf (L2.CX PySem.Challenge.pw_waterbyturns_k22_options_that_are_good_o w) PySem.Challenge.pw_waterbyturns_k22_options_that_are_good_o w K mg base ["game", "users", "node", "options", "place", "option", "target"] "users_of" (defScope s_users_of) f cdv A outer s H E) rfl
    (dss_cons (ds_setLc (i := 1) [] rfl sc_users_of.nd rfl rfl (sw_true rfl rfl rfl (by decide +kernel)) (own := [("options", 3)]) (di_seq hK (dv_var (i := 0) rfl (.inl rfl))) (blkOk_by (N := ["game", "users", "node", "options", "place", "option", "target"]) (sc := defScope s_users_of) (own := [("options", 3)]) (by decide +kernel)) (fun _ _ _ _ _ => (dgx_name (i := 3) sc_users_of.nd rfl (.inl rfl) (by decide))) (fun _ _ _ _ _ => dps_nil) (fun _ _ _ _ _ => (dm_lst dl_nil)))
    (dss_cons (ds_for [] ps rfl (di_enum hK n_enumerate (da_cons (dv_var (i := 0) rfl (.inl rfl)) da_nil)) (dg_tup 2 rfl hK (dgs_cons (dg_name (i := 2) sc_users_of.nd rfl (.inl rfl)) (dgs_cons (dg_name (i := 3) sc_users_of.nd rfl (.inl rfl)) dgs_nil))) (dss_one (ds_for [] ps rfl (di_enum hK n_enumerate (da_cons (dv_var (i := 3) rfl (.inl rfl)) da_nil)) (dg_tup 2 rfl hK (dgs_cons (dg_name (i := 4) sc_users_of.nd rfl (.inl rfl)) (dgs_cons (dg_name (i := 5) sc_users_of.nd rfl (.inl rfl)) dgs_nil))) (dss_one (ds_if [] (dt_notN (dv_var (i := 5) rfl (.inl rfl)) dv_non) (dss_one (ds_for [] ps rfl (di_seq hK (dv_var (i := 5) rfl (.inl rfl))) (dg_name (i := 6) sc_users_of.nd rfl (.inl rfl)) (dss_one (ds_appendP (i := 1) [] (dpt_at (dpt_nil (i := 1) rfl (.inl rfl)) (dq_var (i := 6) rfl (.inl rfl)) (fun _ _ => rfl)) (dm_tup (dl_cons (dm_v (dv_var (i := 2) rfl (.inl rfl))) (dl_cons (dm_v (dv_var (i := 4) rfl (.inl rfl))) dl_nil))))))) dss_nil)))))
    (dss_one (ds_retO (i := 1) rfl (.inl rfl)))))
theorem o_fail_options (hK : G.K = K)  {f : Addr} {fd : FuncData} (F : Fun K "fail_options" "fail_options" s_fail_options f fd) (b : Binds K fd ["users", "usable", "counts"] []) (hm : mg "fail_options" = some (.ref f)) : DefT PySem.Challenge.pw_waterbyturns_k22_options_that_are_good_o w K mg base G "fail_options" 1 3 [1, 2] f_fail_options :=
  defT F sc_fail_options b hm fun Pn cdv A outer s H E hr =>
    have tk := takes_of (X := cxOf (L2.CX PySem.Challenge.pw_waterbyturns_k22_options_that_are_good_o w) PySem.Challenge.pw_waterbyturns_k22_options_that_are_good_o w K mg base ["users", "usable", "counts", "lost", "node", "place"] "fail_options" (defScope s_fail_options) f cdv A outer s H E) rfl rfl rfl rfl
    have ps := passes_of (X := cxOf (L2.CX PySem.Challenge.pw_waterbyturns_k22_options_that_are_good_o w) PySem.Challenge.pw_waterbyturns_k22_options_that_are_good_o w K mg base ["users", "usable", "counts", "lost", "node", "place"] "fail_options" (defScope s_fail_options) f cdv A outer s H E) rfl
    have hK : (G.w Pn).K = K := hK
    (dsst_cons (ds_set (i := 3) [] sc_fail_options.nd rfl (.inl rfl) (dm_lst dl_nil))
    (dsst_cons (ds_for [] ps rfl (di_seq hK (dv_var (i := 0) rfl (.inl rfl))) (dg_tup 2 rfl hK (dgs_cons (dg_name (i := 4) sc_fail_options.nd rfl (.inl rfl)) (dgs_cons (dg_name (i := 5) sc_fail_options.nd rfl (.inl rfl)) dgs_nil))) (dss_one (ds_if [1] (dt_val (dv_ix hK (dv_ix hK (dv_var (i := 1) rfl (.inl rfl)) (dv_var (i := 4) rfl (.inl rfl)) (fun _ _ => rfl)) (dv_var (i := 5) rfl (.inl rfl)) (fun _ _ => rfl))) (dss_cons (ds_setP (i := 1) [] (dm_v dv_bl) (dpt_at (dpt_nil (i := 1) rfl (.inl rfl)) (dq_var (i := 4) rfl (.inl rfl)) (fun _ _ => rfl)) (dq_var (i := 5) rfl (.inl rfl)))
    (dss_cons (ds_augP (i := 2) (g := (fun i j => i - j)) [] ip_sub (dm_v dv_int) (dpt_nil (i := 2) rfl (.inl rfl)) (dq_var (i := 4) rfl (.inl rfl)))
    (dss_one (ds_if [2] (dt_eq hK hr (dv_ix hK (dv_var (i := 2) rfl (.inl rfl)) (dv_var (i := 4) rfl (.inl rfl)) (fun _ _ => rfl)) dv_int) (dss_one (ds_append (i := 3) [] (dm_v (dv_var (i := 4) rfl (.inl rfl))) rfl (.inl rfl))) dss_nil)))) dss_nil)))
    (dsst_retO (i := 3) rfl (.inl rfl))))
theorem o_ranks (hK : G.K = K) (d_check_game : DefD PySem.Challenge.pw_waterbyturns_k22_options_that_are_good_o w K mg base G "check_game" 3 1 f_check_game) (d_fail_options : DefT PySem.Challenge.pw_waterbyturns_k22_options_that_are_good_o w K mg base G "fail_options" 1 3 [1, 2] f_fail_options) (d_users_of : DefD PySem.Challenge.pw_waterbyturns_k22_options_that_are_good_o w K mg base G "users_of" 1 1 f_users_of) (n_enumerate : mg "enumerate" = none) (n_list : mg "list" = none) {f : Addr} {fd : FuncData} (F : Fun K "ranks" "ranks" s_ranks f fd) (b : Binds K fd ["game"] []) (hm : mg "ranks" = some (.ref f)) : DefD PySem.Challenge.pw_waterbyturns_k22_options_that_are_good_o w K mg base G "ranks" 4 1 f_ranks :=
  defD F sc_ranks b hm fun cdv A outer s H E hr =>
    have tk := takes_of (X := cxOf (L2.CX PySem.Challenge.pw_waterbyturns_k22_options_that_are_good_o w) PySem.Challenge.pw_waterbyturns_k22_options_that_are_good_o w K mg base ["game", "users", "usable", "counts", "found", "layer", "rank", "following", "node", "options", "option", "row", "many"] "ranks" (defScope s_ranks) f cdv A outer s H E) rfl rfl rfl rfl
    have ps := passes_of (X := cxOf (L2.CX PySem.Challenge.pw_waterbyturns_k22_options_that_are_good_o w) PySem.Challenge.pw_waterbyturns_k22_options_that_are_good_o w K mg base ["game", "users", "usable", "counts", "found", "layer", "rank", "following", "node", "options", "option", "row", "many"] "ranks" (defScope s_ranks) f cdv A outer s H E) rfl
    (dss_cons (ds_expr [] (dm_call d_check_game (hr.mono (by decide)) tk (da_cons (dv_var (i := 0) rfl (.inl rfl)) da_nil)))
    (dss_cons (ds_set (i := 1) [] sc_ranks.nd rfl (.inl rfl) (dm_v (dv_m (dm_call d_users_of (hr.mono (by decide)) tk (da_cons (dv_var (i := 0) rfl (.inl rfl)) da_nil)))))
    (dss_cons (ds_setLc (i := 2) [] rfl sc_ranks.nd rfl rfl (sw_true rfl rfl rfl (by decide +kernel)) (own := [("options", 9)]) (di_seq hK (dv_var (i := 0) rfl (.inl rfl))) (blkOk_by (N := ["game", "users", "usable", "counts", "found", "layer", "rank", "following", "node", "options", "option", "row", "many"]) (sc := defScope s_ranks) (own := [("options", 9)]) (by decide +kernel)) (fun _ _ _ _ _ => (dgx_name (i := 9) sc_ranks.nd rfl (.inl rfl) (by decide))) (fun _ _ _ _ _ => dps_nil) (fun _ _ _ _ _ => (dm_lc rfl sc_ranks.nd (own := [("option", 10)]) (di_seq hK (dv_var (i := 9) rfl (vis_blk (by decide +kernel)))) (blk_in (blkOk_by (N := ["game", "users", "usable", "counts", "found", "layer", "rank", "following", "node", "options", "option", "row", "many"]) (own := [("option", 10)]) (by decide +kernel))) (fun _ _ _ _ _ => (dgx_name (i := 10) sc_ranks.nd rfl (.inl rfl) (by decide))) (fun _ _ _ _ _ => dps_nil) (fun _ _ _ _ _ => (dm_v (dv_notN (dv_var (i := 10) rfl (vis_blk (by decide +kernel))) dv_non))))))
    (dss_cons (ds_setLc (i := 3) [2] rfl sc_ranks.nd rfl rfl (sw_true rfl rfl rfl (by decide +kernel)) (own := [("row", 11)]) (di_seq hK (dv_var (i := 2) rfl (.inl rfl))) (blkOk_by (N := ["game", "users", "usable", "counts", "found", "layer", "rank", "following", "node", "options", "option", "row", "many"]) (sc := defScope s_ranks) (own := [("row", 11)]) (by decide +kernel)) (fun _ _ _ _ _ => (dgx_name (i := 11) sc_ranks.nd rfl (.inl rfl) (by decide))) (fun _ _ _ _ _ => dps_nil) (fun _ _ _ _ _ => (dm_v (dv_count (dv_var (i := 11) rfl (vis_blk (by decide +kernel)))))))
    (dss_cons (ds_setLc (i := 4) [] rfl sc_ranks.nd rfl rfl (sw_true rfl rfl rfl (by decide +kernel)) (own := [("options", 9)]) (di_seq hK (dv_var (i := 0) rfl (.inl rfl))) (blkOk_by (N := ["game", "users", "usable", "counts", "found", "layer", "rank", "following", "node", "options", "option", "row", "many"]) (sc := defScope s_ranks) (own := [("options", 9)]) (by decide +kernel)) (fun _ _ _ _ _ => (dgx_name (i := 9) sc_ranks.nd rfl (.inl rfl) (by decide))) (fun _ _ _ _ _ => dps_nil) (fun _ _ _ _ _ => (dm_v dv_int)))
    (dss_cons (ds_setLcF (i := 5) [3] rfl sc_ranks.nd rfl rfl (sw_true rfl rfl rfl (by decide +kernel)) (own := [("node", 8), ("many", 12)]) (di_enum hK n_enumerate (da_cons (dv_var (i := 3) rfl (.inl rfl)) da_nil)) (blkOk_by (N := ["game", "users", "usable", "counts", "found", "layer", "rank", "following", "node", "options", "option", "row", "many"]) (sc := defScope s_ranks) (own := [("node", 8), ("many", 12)]) (by decide +kernel)) (fun _ _ _ _ _ => (dgx_tup 2 rfl hK (dgsx_cons (dgx_name (i := 8) sc_ranks.nd rfl (.inl rfl) (by decide)) (dgsx_cons (dgx_name (i := 12) sc_ranks.nd rfl (.inl rfl) (by decide)) dgsx_nil)))) (fun _ _ _ _ _ => (dps_one (dt_eq hK hr (dv_var (i := 12) rfl (vis_blk (by decide +kernel))) dv_int))) (fun _ _ _ _ _ => (dm_v (dv_var (i := 8) rfl (vis_blk (by decide +kernel))))))
    (dss_cons (ds_set (i := 6) [] sc_ranks.nd rfl (.inl rfl) (dm_v dv_int))
    (dss_cons (ds_while [] 100000 ps (dt_tru hK (dv_var (i := 5) rfl (.inl rfl))) (dss_cons (ds_aug (i := 6) [] iop_add o_addI sc_ranks.nd rfl (.inl rfl) dv_int)
    (dss_cons (ds_set (i := 7) [] sc_ranks.nd rfl (.inl rfl) (dm_lst dl_nil))
    (dss_cons (ds_for [] ps rfl (di_seq hK (dv_var (i := 5) rfl (.inl rfl))) (dg_name (i := 8) sc_ranks.nd rfl (.inl rfl)) (dss_cons (ds_setP (i := 4) [] (dm_v (dv_var (i := 6) rfl (.inl rfl))) (dpt_nil (i := 4) rfl (.inl rfl)) (dq_var (i := 8) rfl (.inl rfl)))
    (dss_one (ds_extE (i := 7) (dpt_nil (i := 7) rfl (.inl rfl)) (de_give [2, 3] d_fail_options (hr.mono (by decide)) tk (dgt_cons (dv_ix hK (dv_var (i := 1) rfl (.inl rfl)) (dv_var (i := 8) rfl (.inl rfl)) (fun _ _ => rfl)) (dgt_here (i := 2) rfl (.inl rfl) (dgt_here (i := 3) rfl (.inl rfl) dgt_nil))) rfl)))))
    (dss_one (ds_setF (i := 5) [7] sc_ranks.nd rfl (.inl rfl) (dm_tolst hK n_list (da_cons (dv_var (i := 7) rfl (.inl rfl)) da_nil))))))))
    (dss_one (ds_retO (i := 4) rfl (.inl rfl)))))))))))
theorem o_good_options (hK : G.K = K) (n_all : mg "all" = none) (n_enumerate : mg "enumerate" = none) {f : Addr} {fd : FuncData} (F : Fun K "good_options" "good_options" s_good_options f fd) (b : Binds K fd ["game", "found", "node"] []) (hm : mg "good_options" = some (.ref f)) : DefD PySem.Challenge.pw_waterbyturns_k22_options_that_are_good_o w K mg base G "good_options" 1 3 f_good_options :=
  defD F sc_good_options b hm fun cdv A outer s H E hr =>
    have tk := takes_of (X := cxOf (L2.CX PySem.Challenge.pw_waterbyturns_k22_options_that_are_good_o w) PySem.Challenge.pw_waterbyturns_k22_options_that_are_good_o w K mg base ["game", "found", "node", "places", "place", "option", "target"] "good_options" (defScope s_good_options) f cdv A outer s H E) rfl rfl rfl rfl
    have ps := passes_of (X := cxOf (L2.CX PySem.Challenge.pw_waterbyturns_k22_options_that_are_good_o w) PySem.Challenge.pw_waterbyturns_k22_options_that_are_good_o w K mg base ["game", "found", "node", "places", "place", "option", "target"] "good_options" (defScope s_good_options) f cdv A outer s H E) rfl
    (dss_cons (ds_set (i := 3) [] sc_good_options.nd rfl (.inl rfl) (dm_lst dl_nil))
    (dss_cons (ds_for [] ps rfl (di_enum hK n_enumerate (da_cons (dv_ix hK (dv_var (i := 0) rfl (.inl rfl)) (dv_var (i := 2) rfl (.inl rfl)) (fun _ _ => rfl)) da_nil)) (dg_tup 2 rfl hK (dgs_cons (dg_name (i := 4) sc_good_options.nd rfl (.inl rfl)) (dgs_cons (dg_name (i := 5) sc_good_options.nd rfl (.inl rfl)) dgs_nil))) (dss_one (ds_if [] (dt_w (dw_and (dt_notN (dv_var (i := 5) rfl (.inl rfl)) dv_non) (dw_and1 (dt_val (dv_all hK rfl n_all (da_cons (dv_m (dm_lc rfl sc_good_options.nd (own := [("target", 6)]) (di_seq hK (dv_var (i := 5) rfl (.inl rfl))) (blkOk_by (N := ["game", "found", "node", "places", "place", "option", "target"]) (sc := defScope s_good_options) (own := [("target", 6)]) (by decide +kernel)) (fun _ _ _ _ _ => (dgx_name (i := 6) sc_good_options.nd rfl (.inl rfl) (by decide))) (fun _ _ _ _ _ => dps_nil) (fun _ _ _ _ _ => (dm_v (dv_eq hK hr (dv_ix hK (dv_var (i := 1) rfl (vis_blk (by decide +kernel))) (dv_var (i := 6) rfl (vis_blk (by decide +kernel))) (fun _ _ => rfl)) dv_int))))) da_nil)))))) (dss_one (ds_append (i := 3) [] (dm_v (dv_var (i := 4) rfl (.inl rfl))) rfl (.inl rfl))) dss_nil)))
    (dss_one (ds_retO (i := 3) rfl (.inl rfl)))))
theorem o_spoiler_of (hK : G.K = K)  {f : Addr} {fd : FuncData} (F : Fun K "spoiler_of" "spoiler_of" s_spoiler_of f fd) (b : Binds K fd ["option", "found", "rank"] []) (hm : mg "spoiler_of" = some (.ref f)) : DefD PySem.Challenge.pw_waterbyturns_k22_options_that_are_good_o w K mg base G "spoiler_of" 1 3 f_spoiler_of :=
  defD F sc_spoiler_of b hm fun cdv A outer s H E hr =>
    have tk := takes_of (X := cxOf (L2.CX PySem.Challenge.pw_waterbyturns_k22_options_that_are_good_o w) PySem.Challenge.pw_waterbyturns_k22_options_that_are_good_o w K mg base ["option", "found", "rank", "target"] "spoiler_of" (defScope s_spoiler_of) f cdv A outer s H E) rfl rfl rfl rfl
    have ps := passes_of (X := cxOf (L2.CX PySem.Challenge.pw_waterbyturns_k22_options_that_are_good_o w) PySem.Challenge.pw_waterbyturns_k22_options_that_are_good_o w K mg base ["option", "found", "rank", "target"] "spoiler_of" (defScope s_spoiler_of) f cdv A outer s H E) rfl
    (dss_cons (ds_for [] ps rfl (di_seq hK (dv_var (i := 0) rfl (.inl rfl))) (dg_name (i := 3) sc_spoiler_of.nd rfl (.inl rfl)) (dss_one (ds_if [] (dt_chain op_lt o_lt op_lt o_lt dv_int (dv_ix hK (dv_var (i := 1) rfl (.inl rfl)) (dv_var (i := 3) rfl (.inl rfl)) (fun _ _ => rfl)) (dv_var (i := 2) rfl (.inl rfl))) (dss_one (ds_ret [] (dm_v (dv_var (i := 3) rfl (.inl rfl))))) dss_nil)))
    (dss_one (ds_ret [] (dm_v dv_non))))
theorem o_spoilers (hK : G.K = K) (d_spoiler_of : DefD PySem.Challenge.pw_waterbyturns_k22_options_that_are_good_o w K mg base G "spoiler_of" 1 3 f_spoiler_of) {f : Addr} {fd : FuncData} (F : Fun K "spoilers" "spoilers" s_spoilers f fd) (b : Binds K fd ["game", "found", "node"] []) (hm : mg "spoilers" = some (.ref f)) : DefD PySem.Challenge.pw_waterbyturns_k22_options_that_are_good_o w K mg base G "spoilers" 2 3 f_spoilers :=
  defD F sc_spoilers b hm fun cdv A outer s H E hr =>
    have tk := takes_of (X := cxOf (L2.CX PySem.Challenge.pw_waterbyturns_k22_options_that_are_good_o w) PySem.Challenge.pw_waterbyturns_k22_options_that_are_good_o w K mg base ["game", "found", "node", "answers", "option"] "spoilers" (defScope s_spoilers) f cdv A outer s H E) rfl rfl rfl rfl
    have ps := passes_of (X := cxOf (L2.CX PySem.Challenge.pw_waterbyturns_k22_options_that_are_good_o w) PySem.Challenge.pw_waterbyturns_k22_options_that_are_good_o w K mg base ["game", "found", "node", "answers", "option"] "spoilers" (defScope s_spoilers) f cdv A outer s H E) rfl
    (dss_cons (ds_if [] (dt_eq hK hr (dv_ix hK (dv_var (i := 1) rfl (.inl rfl)) (dv_var (i := 2) rfl (.inl rfl)) (fun _ _ => rfl)) dv_int) (dss_one (ds_ret [] (dm_lst dl_nil))) dss_nil)
    (dss_cons (ds_set (i := 3) [] sc_spoilers.nd rfl (.inl rfl) (dm_lst dl_nil))
    (dss_cons (ds_for [] ps rfl (di_seq hK (dv_ix hK (dv_var (i := 0) rfl (.inl rfl)) (dv_var (i := 2) rfl (.inl rfl)) (fun _ _ => rfl))) (dg_name (i := 4) sc_spoilers.nd rfl (.inl rfl)) (dss_one (ds_append (i := 3) [] (dm_if (dt_isN (dv_var (i := 4) rfl (.inl rfl)) dv_non) (dm_v dv_non) (dm_v (dv_m (dm_call d_spoiler_of (hr.mono (by decide)) tk (da_cons (dv_var (i := 4) rfl (.inl rfl)) (da_cons (dv_var (i := 1) rfl (.inl rfl)) (da_cons (dv_ix hK (dv_var (i := 1) rfl (.inl rfl)) (dv_var (i := 2) rfl (.inl rfl)) (fun _ _ => rfl)) da_nil))))))) rfl (.inl rfl))))
    (dss_one (ds_retO (i := 3) rfl (.inl rfl))))))
theorem o_law_spoilers (hK : G.K = K) (n_len : mg "len" = none) {f : Addr} {fd : FuncData} (F : Fun K "_law_spoilers" "_law_spoilers" s_law_spoilers f fd) (b : Binds K fd ["_law_options", "_law_found", "_law_rank"] []) (hm : mg "_law_spoilers" = some (.ref f)) : DefD PySem.Challenge.pw_waterbyturns_k22_options_that_are_good_o w K mg base G "_law_spoilers" 1 3 f_law_spoilers :=
  defD F sc_law_spoilers b hm fun cdv A outer s H E hr =>
    have tk := takes_of (X := cxOf (L2.CX PySem.Challenge.pw_waterbyturns_k22_options_that_are_good_o w) PySem.Challenge.pw_waterbyturns_k22_options_that_are_good_o w K mg base ["_law_options", "_law_found", "_law_rank", "_law_answers", "_law_option", "_law_first", "_law_target_here"] "_law_spoilers" (defScope s_law_spoilers) f cdv A outer s H E) rfl rfl rfl rfl
    have ps := passes_of (X := cxOf (L2.CX PySem.Challenge.pw_waterbyturns_k22_options_that_are_good_o w) PySem.Challenge.pw_waterbyturns_k22_options_that_are_good_o w K mg base ["_law_options", "_law_found", "_law_rank", "_law_answers", "_law_option", "_law_first", "_law_target_here"] "_law_spoilers" (defScope s_law_spoilers) f cdv A outer s H E) rfl
    (dss_cons (ds_set (i := 3) [] sc_law_spoilers.nd rfl (.inl rfl) (dm_lst dl_nil))
    (dss_cons (ds_for [] ps rfl (di_seq hK (dv_var (i := 0) rfl (.inl rfl))) (dg_name (i := 4) sc_law_spoilers.nd rfl (.inl rfl)) (dss_one (ds_if [] (dt_isN (dv_var (i := 4) rfl (.inl rfl)) dv_non) (dss_one (ds_append (i := 3) [] (dm_v dv_non) rfl (.inl rfl))) (dss_cons (ds_setLcV (i := 5) [] rfl sc_law_spoilers.nd rfl rfl (sw_true rfl rfl rfl (by decide +kernel)) (own := [("_law_target_here", 6)]) (di_seq hK (dv_var (i := 4) rfl (.inl rfl))) (blkOk_by (N := ["_law_options", "_law_found", "_law_rank", "_law_answers", "_law_option", "_law_first", "_law_target_here"]) (sc := defScope s_law_spoilers) (own := [("_law_target_here", 6)]) (by decide +kernel)) (fun _ _ _ _ _ => (dgx_name (i := 6) sc_law_spoilers.nd rfl (.inl rfl) (by decide))) (fun _ _ _ _ _ => (dps_one (dt_chain op_lt o_lt op_lt o_lt dv_int (dv_ix hK (dv_var (i := 1) rfl (vis_blk (by decide +kernel))) (dv_var (i := 6) rfl (vis_blk (by decide +kernel))) (fun _ _ => rfl)) (dv_var (i := 2) rfl (vis_blk (by decide +kernel)))))) (fun _ _ _ _ _ => (dm_v (dv_var (i := 6) rfl (vis_blk (by decide +kernel))))))
    (dss_cons (ds_if [] (dt_eq hK hr (dv_len hK n_len (da_cons (dv_var (i := 5) rfl (.inl rfl)) da_nil)) dv_int) (dss_one (ds_ret [] (dm_v dv_non))) dss_nil)
    (dss_one (ds_append (i := 3) [] (dm_v (dv_ix hK (dv_var (i := 5) rfl (.inl rfl)) dv_int (fun _ _ => rfl))) rfl (.inl rfl))))))))
    (dss_one (ds_ret [3] (dm_v (dv_var (i := 3) rfl (.inl rfl)))))))
theorem o_law_good (hK : G.K = K) (n_all : mg "all" = none) (n_len : mg "len" = none) (n_range : mg "range" = none) {f : Addr} {fd : FuncData} (F : Fun K "_law_good" "_law_good" s_law_good f fd) (b : Binds K fd ["_law_options", "_law_found"] []) (hm : mg "_law_good" = some (.ref f)) : DefD PySem.Challenge.pw_waterbyturns_k22_options_that_are_good_o w K mg base G "_law_good" 1 2 f_law_good :=
  defD F sc_law_good b hm fun cdv A outer s H E hr =>
    have tk := takes_of (X := cxOf (L2.CX PySem.Challenge.pw_waterbyturns_k22_options_that_are_good_o w) PySem.Challenge.pw_waterbyturns_k22_options_that_are_good_o w K mg base ["_law_options", "_law_found", "_law_places", "_law_place", "_law_target_here"] "_law_good" (defScope s_law_good) f cdv A outer s H E) rfl rfl rfl rfl
    have ps := passes_of (X := cxOf (L2.CX PySem.Challenge.pw_waterbyturns_k22_options_that_are_good_o w) PySem.Challenge.pw_waterbyturns_k22_options_that_are_good_o w K mg base ["_law_options", "_law_found", "_law_places", "_law_place", "_law_target_here"] "_law_good" (defScope s_law_good) f cdv A outer s H E) rfl
    (dss_cons (ds_set (i := 2) [] sc_law_good.nd rfl (.inl rfl) (dm_lst dl_nil))
    (dss_cons (ds_for [] ps rfl (di_range1 rfl n_range (da_cons (dv_len hK n_len (da_cons (dv_var (i := 0) rfl (.inl rfl)) da_nil)) da_nil)) (dg_name (i := 3) sc_law_good.nd rfl (.inl rfl)) (dss_one (ds_if [] (dt_w (dw_and (dt_notN (dv_ix hK (dv_var (i := 0) rfl (.inl rfl)) (dv_var (i := 3) rfl (.inl rfl)) (fun _ _ => rfl)) dv_non) (dw_and1 (dt_val (dv_all hK rfl n_all (da_cons (dv_m (dm_lc rfl sc_law_good.nd (own := [("_law_target_here", 4)]) (di_seq hK (dv_ix hK (dv_var (i := 0) rfl (.inl rfl)) (dv_var (i := 3) rfl (.inl rfl)) (fun _ _ => rfl))) (blkOk_by (N := ["_law_options", "_law_found", "_law_places", "_law_place", "_law_target_here"]) (sc := defScope s_law_good) (own := [("_law_target_here", 4)]) (by decide +kernel)) (fun _ _ _ _ _ => (dgx_name (i := 4) sc_law_good.nd rfl (.inl rfl) (by decide))) (fun _ _ _ _ _ => dps_nil) (fun _ _ _ _ _ => (dm_v (dv_eq hK hr (dv_ix hK (dv_var (i := 1) rfl (vis_blk (by decide +kernel))) (dv_var (i := 4) rfl (vis_blk (by decide +kernel))) (fun _ _ => rfl)) dv_int))))) da_nil)))))) (dss_one (ds_append (i := 2) [] (dm_v (dv_var (i := 3) rfl (.inl rfl))) rfl (.inl rfl))) dss_nil)))
    (dss_one (ds_retO (i := 2) rfl (.inl rfl)))))
theorem o_law_asked (hK : G.K = K) (d__law_good : DefD PySem.Challenge.pw_waterbyturns_k22_options_that_are_good_o w K mg base G "_law_good" 1 2 f_law_good) (d__law_spoilers : DefD PySem.Challenge.pw_waterbyturns_k22_options_that_are_good_o w K mg base G "_law_spoilers" 1 3 f_law_spoilers) (d_good_options : DefD PySem.Challenge.pw_waterbyturns_k22_options_that_are_good_o w K mg base G "good_options" 1 3 f_good_options) (d_spoilers : DefD PySem.Challenge.pw_waterbyturns_k22_options_that_are_good_o w K mg base G "spoilers" 2 3 f_spoilers) (n_any : mg "any" = none) (n_bool : mg "bool" = none) (n_isinstance : mg "isinstance" = none) (n_len : mg "len" = none) (n_list : mg "list" = none) {f : Addr} {fd : FuncData} (F : Fun K "_law_asked" "_law_asked" s_law_asked f fd) (b : Binds K fd ["_law_passed", "_law_found", "_law_node", "_law_game_here"] []) (hm : mg "_law_asked" = some (.ref f)) : DefD PySem.Challenge.pw_waterbyturns_k22_options_that_are_good_o w K mg base G "_law_asked" 3 4 f_law_asked :=
  defD F sc_law_asked b hm fun cdv A outer s H E hr =>
    have tk := takes_of (X := cxOf (L2.CX PySem.Challenge.pw_waterbyturns_k22_options_that_are_good_o w) PySem.Challenge.pw_waterbyturns_k22_options_that_are_good_o w K mg base ["_law_passed", "_law_found", "_law_node", "_law_game_here", "_law_good_here", "_law_due", "_law_answers", "_law_x"] "_law_asked" (defScope s_law_asked) f cdv A outer s H E) rfl rfl rfl rfl
    have ps := passes_of (X := cxOf (L2.CX PySem.Challenge.pw_waterbyturns_k22_options_that_are_good_o w) PySem.Challenge.pw_waterbyturns_k22_options_that_are_good_o w K mg base ["_law_passed", "_law_found", "_law_node", "_law_game_here", "_law_good_here", "_law_due", "_law_answers", "_law_x"] "_law_asked" (defScope s_law_asked) f cdv A outer s H E) rfl
    (dss_cons (ds_set (i := 4) [] sc_law_asked.nd rfl (.inl rfl) (dm_call d_good_options (hr.mono (by decide)) tk (da_cons (dv_var (i := 0) rfl (.inl rfl)) (da_cons (dv_var (i := 1) rfl (.inl rfl)) (da_cons (dv_var (i := 2) rfl (.inl rfl)) da_nil)))))
    (dss_cons (ds_if [4] (dt_w (dw_or (dt_not (dt_val (dv_isT hK tab_list n_isinstance n_list boot_list (dv_var (i := 4) rfl (.inl rfl))))) (dw_or1 (dt_ne hK hr (dv_var (i := 4) rfl (.inl rfl)) (dv_m (dm_call d__law_good (hr.mono (by decide)) tk (da_cons (dv_ix hK (dv_var (i := 3) rfl (.inl rfl)) (dv_var (i := 2) rfl (.inl rfl)) (fun _ _ => rfl)) (da_cons (dv_var (i := 1) rfl (.inl rfl)) da_nil)))))))) (dss_one (ds_ret [] (dm_v dv_bl))) dss_nil)
    (dss_cons (ds_set (i := 5) [] sc_law_asked.nd rfl (.inl rfl) (dm_v (dv_m (dm_lst dl_nil))))
    (dss_cons (ds_if [] (dt_gt (dv_ix hK (dv_var (i := 1) rfl (.inl rfl)) (dv_var (i := 2) rfl (.inl rfl)) (fun _ _ => rfl)) dv_int) (dss_one (ds_set (i := 5) [] sc_law_asked.nd rfl (.inl rfl) (dm_v (dv_m (dm_call d__law_spoilers (hr.mono (by decide)) tk (da_cons (dv_ix hK (dv_var (i := 3) rfl (.inl rfl)) (dv_var (i := 2) rfl (.inl rfl)) (fun _ _ => rfl)) (da_cons (dv_var (i := 1) rfl (.inl rfl)) (da_cons (dv_ix hK (dv_var (i := 1) rfl (.inl rfl)) (dv_var (i := 2) rfl (.inl rfl)) (fun _ _ => rfl)) da_nil)))))))) dss_nil)
    (dss_cons (ds_set (i := 6) [] sc_law_asked.nd rfl (.inl rfl) (dm_call d_spoilers (hr.mono (by decide)) tk (da_cons (dv_var (i := 0) rfl (.inl rfl)) (da_cons (dv_var (i := 1) rfl (.inl rfl)) (da_cons (dv_var (i := 2) rfl (.inl rfl)) da_nil)))))
    (dss_cons (ds_if [6] (dt_w (dw_or (dt_isN (dv_var (i := 5) rfl (.inl rfl)) dv_non) (dw_or (dt_not (dt_val (dv_isT hK tab_list n_isinstance n_list boot_list (dv_var (i := 6) rfl (.inl rfl))))) (dw_or1 (dt_ne hK hr (dv_var (i := 6) rfl (.inl rfl)) (dv_var (i := 5) rfl (.inl rfl))))))) (dss_one (ds_ret [] (dm_v dv_bl))) dss_nil)
    (dss_cons (ds_if [4] (dt_ne hK hr (dv_gt (dv_len hK n_len (da_cons (dv_var (i := 4) rfl (.inl rfl)) da_nil)) dv_int) (dv_eq hK hr (dv_ix hK (dv_var (i := 1) rfl (.inl rfl)) (dv_var (i := 2) rfl (.inl rfl)) (fun _ _ => rfl)) dv_int)) (dss_one (ds_ret [] (dm_v dv_bl))) dss_nil)
    (dss_cons (ds_if [4, 6] (dt_val (dv_any hK rfl n_any (da_cons (dv_m (dm_lc rfl sc_law_asked.nd (own := [("_law_x", 7)]) (di_seq hK (dv_add hK (dv_var (i := 4) rfl (.inl rfl)) (dv_var (i := 6) rfl (.inl rfl)))) (blkOk_by (N := ["_law_passed", "_law_found", "_law_node", "_law_game_here", "_law_good_here", "_law_due", "_law_answers", "_law_x"]) (sc := defScope s_law_asked) (own := [("_law_x", 7)]) (by decide +kernel)) (fun _ _ _ _ _ => (dgx_name (i := 7) sc_law_asked.nd rfl (.inl rfl) (by decide))) (fun _ _ _ _ _ => dps_nil) (fun _ _ _ _ _ => (dm_v (dv_isT hK tab_bool n_isinstance n_bool boot_bool (dv_var (i := 7) rfl (vis_blk (by decide +kernel)))))))) da_nil))) (dss_one (ds_ret [] (dm_v dv_bl))) dss_nil)
    (dss_cons (ds_append (i := 4) [] (dm_v dv_int) rfl (.inl rfl))
    (dss_cons (ds_append (i := 6) [] (dm_v dv_non) rfl (.inl rfl))
    (dss_one (ds_ret [4] (dm_v (dv_and (dv_eq hK hr (dv_m (dm_call d_good_options (hr.mono (by decide)) tk (da_cons (dv_var (i := 0) rfl (.inl rfl)) (da_cons (dv_var (i := 1) rfl (.inl rfl)) (da_cons (dv_var (i := 2) rfl (.inl rfl)) da_nil))))) (dv_m (dm_slice hK (dv_var (i := 4) rfl (.inl rfl)) do_no (do_some (dv_neg dv_int))))) (dv_one (dv_eq hK hr (dv_m (dm_call d_spoilers (hr.mono (by decide)) tk (da_cons (dv_var (i := 0) rfl (.inl rfl)) (da_cons (dv_var (i := 1) rfl (.inl rfl)) (da_cons (dv_var (i := 2) rfl (.inl rfl)) da_nil))))) (dv_var (i := 5) rfl (.inl rfl))))))))))))))))))
theorem o_law (hK : G.K = K) (d__law_asked : DefD PySem.Challenge.pw_waterbyturns_k22_options_that_are_good_o w K mg base G "_law_asked" 3 4 f_law_asked) (d__law_copy : DefD PySem.Challenge.pw_waterbyturns_k22_options_that_are_good_o w K mg base G "_law_copy" 1 1 f_law_copy) (d__law_draw : DefD PySem.Challenge.pw_waterbyturns_k22_options_that_are_good_o w K mg base G "_law_draw" 1 3 f_law_draw) (d__law_game : DefD PySem.Challenge.pw_waterbyturns_k22_options_that_are_good_o w K mg base G "_law_game" 3 3 f_law_game) (d__law_start : DefD PySem.Challenge.pw_waterbyturns_k22_options_that_are_good_o w K mg base G "_law_start" 1 1 f_law_start) (d_ranks : DefD PySem.Challenge.pw_waterbyturns_k22_options_that_are_good_o w K mg base G "ranks" 4 1 f_ranks) (n_list : mg "list" = none) (n_range : mg "range" = none) {f : Addr} {fd : FuncData} (F : Fun K "law" "law" s_law f fd) : FnOk PySem.Challenge.pw_waterbyturns_k22_options_that_are_good_o w K mg base (L2.CX PySem.Challenge.pw_waterbyturns_k22_options_that_are_good_o w) 5 f fd ["_law_script"] (spD G f_law 1) :=
  fn_ok F sc_law fun cdv A outer s H E hr =>
    have tk := takes_of (X := cxOf (L2.CX PySem.Challenge.pw_waterbyturns_k22_options_that_are_good_o w) PySem.Challenge.pw_waterbyturns_k22_options_that_are_good_o w K mg base ["_law_script", "_law_state", "_law_many", "_law_game_here", "_law_passed", "_law_found", "_law_kept", "_law_node"] "law" (defScope s_law) f cdv A outer s H E) rfl rfl rfl rfl
    have ps := passes_of (X := cxOf (L2.CX PySem.Challenge.pw_waterbyturns_k22_options_that_are_good_o w) PySem.Challenge.pw_waterbyturns_k22_options_that_are_good_o w K mg base ["_law_script", "_law_state", "_law_many", "_law_game_here", "_law_passed", "_law_found", "_law_kept", "_law_node"] "law" (defScope s_law) f cdv A outer s H E) rfl
    (dss_law 1 (ds_set (i := 1) [] sc_law.nd rfl (.inl rfl) (dm_call d__law_start (hr.mono (by decide)) tk (da_cons (dv_var (i := 0) rfl (.inl rfl)) da_nil)))
    (dss_cons (ds_set (i := 2) [] sc_law.nd rfl (.inl rfl) (dm_v (dv_m (dm_call d__law_draw (hr.mono (by decide)) tk (da_cons (dv_var (i := 0) rfl (.inl rfl)) (da_cons (dv_var (i := 1) rfl (.inl rfl)) (da_cons dv_int da_nil)))))))
    (dss_cons (ds_if [] (dt_eq hK hr (dv_m (dm_call d__law_draw (hr.mono (by decide)) tk (da_cons (dv_var (i := 0) rfl (.inl rfl)) (da_cons (dv_var (i := 1) rfl (.inl rfl)) (da_cons dv_int da_nil))))) dv_int) (dss_one (ds_set (i := 2) [] sc_law.nd rfl (.inl rfl) (dm_v (dv_add hK dv_int (dv_m (dm_call d__law_draw (hr.mono (by decide)) tk (da_cons (dv_var (i := 0) rfl (.inl rfl)) (da_cons (dv_var (i := 1) rfl (.inl rfl)) (da_cons dv_int da_nil))))))))) dss_nil)
    (dss_cons (ds_set (i := 3) [] sc_law.nd rfl (.inl rfl) (dm_v (dv_m (dm_call d__law_game (hr.mono (by decide)) tk (da_cons (dv_var (i := 0) rfl (.inl rfl)) (da_cons (dv_var (i := 1) rfl (.inl rfl)) (da_cons (dv_var (i := 2) rfl (.inl rfl)) da_nil)))))))
    (dss_cons (ds_set (i := 4) [] sc_law.nd rfl (.inl rfl) (dm_v (dv_m (dm_call d__law_copy (hr.mono (by decide)) tk (da_cons (dv_var (i := 3) rfl (.inl rfl)) da_nil)))))
    (dss_cons (ds_set (i := 5) [] sc_law.nd rfl (.inl rfl) (dm_v (dv_m (dm_call d_ranks (hr.mono (by decide)) tk (da_cons (dv_var (i := 4) rfl (.inl rfl)) da_nil)))))
    (dss_cons (ds_set (i := 6) [] sc_law.nd rfl (.inl rfl) (dm_v (dv_m (dm_tolst hK n_list (da_cons (dv_var (i := 5) rfl (.inl rfl)) da_nil)))))
    (dss_cons (ds_for [] ps rfl (di_range1 rfl n_range (da_cons (dv_var (i := 2) rfl (.inl rfl)) da_nil)) (dg_name (i := 7) sc_law.nd rfl (.inl rfl)) (dss_one (ds_if [] (dt_not (dt_val (dv_m (dm_call d__law_asked (hr.mono (by decide)) tk (da_cons (dv_var (i := 4) rfl (.inl rfl)) (da_cons (dv_var (i := 5) rfl (.inl rfl)) (da_cons (dv_var (i := 7) rfl (.inl rfl)) (da_cons (dv_var (i := 3) rfl (.inl rfl)) da_nil)))))))) (dss_one (ds_ret [] (dm_v dv_bl))) dss_nil)))
    (dss_one (ds_ret [] (dm_v (dv_and (dv_eq hK hr (dv_var (i := 4) rfl (.inl rfl)) (dv_var (i := 3) rfl (.inl rfl))) (dv_one (dv_eq hK hr (dv_var (i := 5) rfl (.inl rfl)) (dv_var (i := 6) rfl (.inl rfl))))))))))))))))
end
def GT (l : List Addr) : Nat → Addr := fun i => l.getD i 0
set_option maxHeartbeats 8000000 in
theorem all_mk {w : World} {K : PySem.W.Frag} {h : Heap} {mg : Str → Option Value} {fa C0 C2 C5 i2 i5 f0 f1 f2 f3 f4 f5 f6 f7 f8 f9 f10 f11 f12 f13 f14 f15 f16 f17 : Addr} {k_MOST_NODES : Tok} (X : K.In h) (G : h.Ns mainGlobals mg) (hfa : mg "law" = some (.ref fa))
    (qMOST_NODES : PySem.W.nsIn K mainGlobals "MOST_NODES" = some (some (.int 12000 k_MOST_NODES)))
    (zabs : PySem.W.nsIn K mainGlobals "abs" = some none)
    (zall : PySem.W.nsIn K mainGlobals "all" = some none)
    (zany : PySem.W.nsIn K mainGlobals "any" = some none)
    (zbool : PySem.W.nsIn K mainGlobals "bool" = some none)
    (zenumerate : PySem.W.nsIn K mainGlobals "enumerate" = some none)
    (zint : PySem.W.nsIn K mainGlobals "int" = some none)
    (zisinstance : PySem.W.nsIn K mainGlobals "isinstance" = some none)
    (zlen : PySem.W.nsIn K mainGlobals "len" = some none)
    (zlist : PySem.W.nsIn K mainGlobals "list" = some none)
    (zmin : PySem.W.nsIn K mainGlobals "min" = some none)
    (zrange : PySem.W.nsIn K mainGlobals "range" = some none)
    (a_WaterError : PySem.W.nsIn K mainGlobals "WaterError" = some (some (.ref C0)))
    (a_BadNumber : PySem.W.nsIn K mainGlobals "BadNumber" = some (some (.ref C2)))
    (a_TooMany : PySem.W.nsIn K mainGlobals "TooMany" = some (some (.ref C5)))
    (op : PySem.W.nsIn K cStatics "thirdparty.any" = some none)
    (ms : PySem.W.nsIn K mainGlobals "super" = some none)
    (gn : PySem.W.specialIn K (.builtin "object.__class__") "__get__" = some (some (.builtin "getset_descriptor.__get__")))
    (gt : PySem.W.takesIn K (.builtin "object.__class__") = some true)
    (b_WaterError : PySem.W.subIn K (.ref C0) (.type "BaseException") = some true)
    (y_WaterError : PySem.W.typeIn K (.ref C0) = some (.type "type"))
    (ic_WaterError : PySem.W.isClsIn K C0 = true)
    (b_BadNumber : PySem.W.subIn K (.ref C2) (.type "BaseException") = some true)
    (y_BadNumber : PySem.W.typeIn K (.ref C2) = some (.type "type"))
    (ic_BadNumber : PySem.W.isClsIn K C2 = true)
    (b_TooMany : PySem.W.subIn K (.ref C5) (.type "BaseException") = some true)
    (y_TooMany : PySem.W.typeIn K (.ref C5) = some (.type "type"))
    (ic_TooMany : PySem.W.isClsIn K C5 = true)
    (s_BadNumber_WaterError : PySem.W.subIn K (.ref C2) (.ref C0) = some true)
    (s_BadNumber_BadNumber : PySem.W.subIn K (.ref C2) (.ref C2) = some true)
    (s_BadNumber_TooMany : PySem.W.subIn K (.ref C2) (.ref C5) = some false)
    (s_TooMany_WaterError : PySem.W.subIn K (.ref C5) (.ref C0) = some true)
    (s_TooMany_BadNumber : PySem.W.subIn K (.ref C5) (.ref C2) = some false)
    (s_TooMany_TooMany : PySem.W.subIn K (.ref C5) (.ref C5) = some true)
    (s_WaterError_WaterError : PySem.W.subIn K (.ref C0) (.ref C0) = some true)
    (cx_BadNumber : ∃ nm q N bs bm sn sub ab col dd k0 k1 k2 k3 k5, K.lookup C2 = some (excClassObj nm q C2 N bs bm true sn sub ab col dd k0 k1 k2 k3 k5 "ValueError.__new__") ∧ PySem.HandSPX.refsVE bm = true)
    (sa_BadNumber : PySem.W.findIn K (.ref C2) "__setattr__" = some (some (.builtin "object.__setattr__")))
    (ga_BadNumber : PySem.W.findIn K (.ref C2) "__getattribute__" = some (some (.builtin "BaseException.__getattribute__")))
    (gg_BadNumber : PySem.W.findIn K (.ref C2) "__getattr__" = some none)
    (hd_BadNumber : PySem.W.hasDictIn K C2 = true)
    (cl_BadNumber : PySem.W.findIn K (.ref C2) "__class__" = some (some (.builtin "object.__class__")))
    (mo_BadNumber : PySem.W.mroIn K C2 (.type "object") = some true)
    (me_BadNumber : PySem.W.mroIn K C2 (.ref C2) = some true)
    (no_BadNumber_what : PySem.W.findIn K (.ref C2) "what" = some none)
    (no_BadNumber_value : PySem.W.findIn K (.ref C2) "value" = some none)
    (ii_BadNumber : PySem.W.findIn K (.ref C2) "__init__" = some (some (.ref i2)))
    (it_BadNumber : PySem.W.typeIn K (.ref i2) = some (.type "function"))
    (kc_BadNumber : PySem.W.keepIn K (.ref C2) = true)
    (ve_BadNumber : PySem.W.subIn K (.ref C2) (.type "ValueError") = some true)
    (su_BadNumber : PySem.W.ks_superIn K C2 C2 "__init__" = some (some (.builtin "ValueError.__init__")))
    (fx_BadNumber : ∃ (oc : Value) (od : Option Addr) (kV doc pm : Value) (an : Option Addr) (cda cc : Addr) (ct : Value) (osl : Array (Option Value)), K.lookup i2 = some ⟨oc, od, .func (PySem.W.fnX "__init__" "BadNumber.__init__" (defArgs s_BadNumber_init) (defBody s_BadNumber_init) (defScope s_BadNumber_init) [("__class__", cc)] .none kV doc pm an (.ref cda) ct), osl⟩ ∧ PySem.W.codeIn K (.ref cda) "BadNumber.__init__" = true ∧ (∃ ccl cdd vs ccs file tf, K.lookup cda = some ⟨ccl, cdd, .fields vs, ccs⟩ ∧ vs[2]? = some (.str file tf) ∧ ((PySem.Challenge.pw_waterbyturns_k22_options_that_are_good_o.main.file : Str) == file) = true) ∧ (∃ cl cld csl, K.lookup cc = some ⟨cl, cld, .cell (some (.ref C2)), csl⟩))
    (cx_TooMany : ∃ nm q N bs bm sn sub ab col dd k0 k1 k2 k3 k5, K.lookup C5 = some (excClassObj nm q C5 N bs bm true sn sub ab col dd k0 k1 k2 k3 k5 "ValueError.__new__") ∧ PySem.HandSPX.refsVE bm = true)
    (sa_TooMany : PySem.W.findIn K (.ref C5) "__setattr__" = some (some (.builtin "object.__setattr__")))
    (ga_TooMany : PySem.W.findIn K (.ref C5) "__getattribute__" = some (some (.builtin "BaseException.__getattribute__")))
    (gg_TooMany : PySem.W.findIn K (.ref C5) "__getattr__" = some none)
    (hd_TooMany : PySem.W.hasDictIn K C5 = true)
    (cl_TooMany : PySem.W.findIn K (.ref C5) "__class__" = some (some (.builtin "object.__class__")))
    (mo_TooMany : PySem.W.mroIn K C5 (.type "object") = some true)
    (me_TooMany : PySem.W.mroIn K C5 (.ref C5) = some true)
    (no_TooMany_limit : PySem.W.findIn K (.ref C5) "limit" = some none)
    (ii_TooMany : PySem.W.findIn K (.ref C5) "__init__" = some (some (.ref i5)))
    (it_TooMany : PySem.W.typeIn K (.ref i5) = some (.type "function"))
    (kc_TooMany : PySem.W.keepIn K (.ref C5) = true)
    (ve_TooMany : PySem.W.subIn K (.ref C5) (.type "ValueError") = some true)
    (su_TooMany : PySem.W.ks_superIn K C5 C5 "__init__" = some (some (.builtin "ValueError.__init__")))
    (fx_TooMany : ∃ (oc : Value) (od : Option Addr) (kV doc pm : Value) (an : Option Addr) (cda cc : Addr) (ct : Value) (osl : Array (Option Value)), K.lookup i5 = some ⟨oc, od, .func (PySem.W.fnX "__init__" "TooMany.__init__" (defArgs s_TooMany_init) (defBody s_TooMany_init) (defScope s_TooMany_init) [("__class__", cc)] .none kV doc pm an (.ref cda) ct), osl⟩ ∧ PySem.W.codeIn K (.ref cda) "TooMany.__init__" = true ∧ (∃ ccl cdd vs ccs file tf, K.lookup cda = some ⟨ccl, cdd, .fields vs, ccs⟩ ∧ vs[2]? = some (.str file tf) ∧ ((PySem.Challenge.pw_waterbyturns_k22_options_that_are_good_o.main.file : Str) == file) = true) ∧ (∃ cl cld csl, K.lookup cc = some ⟨cl, cld, .cell (some (.ref C5)), csl⟩))
    (a0 : PySem.W.nsIn K mainGlobals "_law_start" = some (some (.ref f0)))
    (l0 : ∃ fd : FuncData, Fun K "_law_start" "_law_start" s_law_start f0 fd)
    (a1 : PySem.W.nsIn K mainGlobals "_law_draw" = some (some (.ref f1)))
    (l1 : ∃ fd : FuncData, Fun K "_law_draw" "_law_draw" s_law_draw f1 fd)
    (a2 : PySem.W.nsIn K mainGlobals "_law_target" = some (some (.ref f2)))
    (l2 : ∃ fd : FuncData, Fun K "_law_target" "_law_target" s_law_target f2 fd)
    (a3 : PySem.W.nsIn K mainGlobals "_law_game" = some (some (.ref f3)))
    (l3 : ∃ fd : FuncData, Fun K "_law_game" "_law_game" s_law_game f3 fd)
    (a4 : PySem.W.nsIn K mainGlobals "_law_copy" = some (some (.ref f4)))
    (l4 : ∃ fd : FuncData, Fun K "_law_copy" "_law_copy" s_law_copy f4 fd)
    (a5 : PySem.W.nsIn K mainGlobals "is_integer" = some (some (.ref f5)))
    (l5 : ∃ fd : FuncData, Fun K "is_integer" "is_integer" s_is_integer f5 fd)
    (a6 : PySem.W.nsIn K mainGlobals "check_number" = some (some (.ref f6)))
    (l6 : ∃ fd : FuncData, Fun K "check_number" "check_number" s_check_number f6 fd)
    (a7 : PySem.W.nsIn K mainGlobals "check_game" = some (some (.ref f7)))
    (l7 : ∃ fd : FuncData, Fun K "check_game" "check_game" s_check_game f7 fd)
    (a8 : PySem.W.nsIn K mainGlobals "users_of" = some (some (.ref f8)))
    (l8 : ∃ fd : FuncData, Fun K "users_of" "users_of" s_users_of f8 fd)
    (a9 : PySem.W.nsIn K mainGlobals "fail_options" = some (some (.ref f9)))
    (l9 : ∃ fd : FuncData, Fun K "fail_options" "fail_options" s_fail_options f9 fd)
    (a10 : PySem.W.nsIn K mainGlobals "ranks" = some (some (.ref f10)))
    (l10 : ∃ fd : FuncData, Fun K "ranks" "ranks" s_ranks f10 fd)
    (a11 : PySem.W.nsIn K mainGlobals "good_options" = some (some (.ref f11)))
    (l11 : ∃ fd : FuncData, Fun K "good_options" "good_options" s_good_options f11 fd)
    (a12 : PySem.W.nsIn K mainGlobals "spoiler_of" = some (some (.ref f12)))
    (l12 : ∃ fd : FuncData, Fun K "spoiler_of" "spoiler_of" s_spoiler_of f12 fd)
    (a13 : PySem.W.nsIn K mainGlobals "spoilers" = some (some (.ref f13)))
    (l13 : ∃ fd : FuncData, Fun K "spoilers" "spoilers" s_spoilers f13 fd)
    (a14 : PySem.W.nsIn K mainGlobals "_law_spoilers" = some (some (.ref f14)))
    (l14 : ∃ fd : FuncData, Fun K "_law_spoilers" "_law_spoilers" s_law_spoilers f14 fd)
    (a15 : PySem.W.nsIn K mainGlobals "_law_good" = some (some (.ref f15)))
    (l15 : ∃ fd : FuncData, Fun K "_law_good" "_law_good" s_law_good f15 fd)
    (a16 : PySem.W.nsIn K mainGlobals "_law_asked" = some (some (.ref f16)))
    (l16 : ∃ fd : FuncData, Fun K "_law_asked" "_law_asked" s_law_asked f16 fd)
    (a17 : PySem.W.nsIn K mainGlobals "law" = some (some (.ref f17)))
    (l17 : ∃ fd : FuncData, Fun K "law" "law" s_law f17 fd)
    (main : ∀ ns : List Int, ns.length ≤ 63 → f_law [.scr ns] [] = .ok (.val (.bl true)) []) :
    ∃ fd : FuncData, (∀ (s : Shared) (v : Value), BindsTo s fd ⟨[v], []⟩ [("_law_script", v)]) ∧ ∀ base : Heap, K.In base → base.Ns mainGlobals mg → FnOk PySem.Challenge.pw_waterbyturns_k22_options_that_are_good_o w K mg base (L2.CX PySem.Challenge.pw_waterbyturns_k22_options_that_are_good_o w) 5 fa fd ["_law_script"] (spLaw K) := by
  have e := hfa.symm.trans (PySem.W.mg_of X G a17)
  cases e
  obtain ⟨fd0, F0⟩ := l0
  have k0 := F0.kp
  have b0 := F0.binds (ps := ["_law_script"]) fun _ _ _ _ _ _ us hl => match us, hl with | [_], _ => rfl
  obtain ⟨fd1, F1⟩ := l1
  have k1 := F1.kp
  have b1 := F1.binds (ps := ["_law_script", "_law_state", "_law_limit"]) fun _ _ _ _ _ _ us hl => match us, hl with | [_, _, _], _ => rfl
  obtain ⟨fd2, F2⟩ := l2
  have k2 := F2.kp
  have b2 := F2.binds (ps := ["_law_script", "_law_state", "_law_many"]) fun _ _ _ _ _ _ us hl => match us, hl with | [_, _, _], _ => rfl
  obtain ⟨fd3, F3⟩ := l3
  have k3 := F3.kp
  have b3 := F3.binds (ps := ["_law_script", "_law_state", "_law_many"]) fun _ _ _ _ _ _ us hl => match us, hl with | [_, _, _], _ => rfl
  obtain ⟨fd4, F4⟩ := l4
  have k4 := F4.kp
  have b4 := F4.binds (ps := ["_law_game_here"]) fun _ _ _ _ _ _ us hl => match us, hl with | [_], _ => rfl
  obtain ⟨fd5, F5⟩ := l5
  have k5 := F5.kp
  have b5 := F5.binds (ps := ["value"]) fun _ _ _ _ _ _ us hl => match us, hl with | [_], _ => rfl
  obtain ⟨fd6, F6⟩ := l6
  have k6 := F6.kp
  have b6 := F6.binds (ps := ["what", "value", "low", "high"]) fun _ _ _ _ _ _ us hl => match us, hl with | [_, _, _, _], _ => rfl
  obtain ⟨fd7, F7⟩ := l7
  have k7 := F7.kp
  have b7 := F7.binds (ps := ["game"]) fun _ _ _ _ _ _ us hl => match us, hl with | [_], _ => rfl
  obtain ⟨fd8, F8⟩ := l8
  have k8 := F8.kp
  have b8 := F8.binds (ps := ["game"]) fun _ _ _ _ _ _ us hl => match us, hl with | [_], _ => rfl
  obtain ⟨fd9, F9⟩ := l9
  have k9 := F9.kp
  have b9 := F9.binds (ps := ["users", "usable", "counts"]) fun _ _ _ _ _ _ us hl => match us, hl with | [_, _, _], _ => rfl
  obtain ⟨fd10, F10⟩ := l10
  have k10 := F10.kp
  have b10 := F10.binds (ps := ["game"]) fun _ _ _ _ _ _ us hl => match us, hl with | [_], _ => rfl
  obtain ⟨fd11, F11⟩ := l11
  have k11 := F11.kp
  have b11 := F11.binds (ps := ["game", "found", "node"]) fun _ _ _ _ _ _ us hl => match us, hl with | [_, _, _], _ => rfl
  obtain ⟨fd12, F12⟩ := l12
  have k12 := F12.kp
  have b12 := F12.binds (ps := ["option", "found", "rank"]) fun _ _ _ _ _ _ us hl => match us, hl with | [_, _, _], _ => rfl
  obtain ⟨fd13, F13⟩ := l13
  have k13 := F13.kp
  have b13 := F13.binds (ps := ["game", "found", "node"]) fun _ _ _ _ _ _ us hl => match us, hl with | [_, _, _], _ => rfl
  obtain ⟨fd14, F14⟩ := l14
  have k14 := F14.kp
  have b14 := F14.binds (ps := ["_law_options", "_law_found", "_law_rank"]) fun _ _ _ _ _ _ us hl => match us, hl with | [_, _, _], _ => rfl
  obtain ⟨fd15, F15⟩ := l15
  have k15 := F15.kp
  have b15 := F15.binds (ps := ["_law_options", "_law_found"]) fun _ _ _ _ _ _ us hl => match us, hl with | [_, _], _ => rfl
  obtain ⟨fd16, F16⟩ := l16
  have k16 := F16.kp
  have b16 := F16.binds (ps := ["_law_passed", "_law_found", "_law_node", "_law_game_here"]) fun _ _ _ _ _ _ us hl => match us, hl with | [_, _, _, _], _ => rfl
  obtain ⟨fd17, F17⟩ := l17
  have k17 := F17.kp
  have b17 := F17.binds (ps := ["_law_script"]) fun _ _ _ _ _ _ us hl => match us, hl with | [_], _ => rfl
  obtain ⟨oc, od, kV, doc, pm, an, cdv, ct, osl, rfl, lk, hcd⟩ := F17.ex
  refine ⟨PySem.W.fnOf "law" "law" (defArgs s_law) (defBody s_law) (defScope s_law) .none kV doc pm an cdv ct, fun s v => .of_eq rfl, fun base _ _ => ?_⟩
  let GG : Gx := ⟨K, GT [C0, 0, C2, 0, 0, C5], fun _ _ => False⟩
  have : NoPin GG := ⟨fun _ _ h => h⟩
  have e_BadNumber : DX.Txt PySem.Challenge.pw_waterbyturns_k22_options_that_are_good_o K mg (GG.T 2) i2 "BadNumber" "BadNumber.__init__" "bad number" ["what", "value"] s_BadNumber_init := {
    gC := PySem.W.mg_of X G a_BadNumber, cls := cx_BadNumber, sa := sa_BadNumber, noN := (all_cons no_BadNumber_what (all_cons no_BadNumber_value all_nil)), iC := ii_BadNumber, tC := it_BadNumber, kC := kc_BadNumber, exC := b_BadNumber, veC := ve_BadNumber, meC := me_BadNumber, tyC := y_BadNumber,
    su := su_BadNumber, op := op, ms := PySem.W.mg_none_of X G ms, top := by decide +kernel, fn := fx_BadNumber,
    sc := ⟨rfl, rfl, rfl, by decide +kernel, by decide +kernel, by decide +kernel, by decide +kernel, by decide +kernel⟩, bnd := fun _ _ _ _ _ _ _ us hl => match us, hl with | [_, _, _], _ => rfl, nd := by decide +kernel, body := ⟨_, _, _, _, _, _, _, [(_, _, _, _), (_, _, _, _)], rfl, rfl, rfl⟩, hd := rfl }
  have se_BadNumber : IsE K (GG.T 2) := ⟨⟨cl_BadNumber, gn, gt, mo_BadNumber⟩, by have z := ic_BadNumber; exact z, ga_BadNumber, gg_BadNumber, b_BadNumber⟩
  have xf_BadNumber : XfC K (GG.T 2) := ⟨ga_BadNumber, gg_BadNumber, b_BadNumber, hd_BadNumber⟩
  have e_TooMany : DX.Txt PySem.Challenge.pw_waterbyturns_k22_options_that_are_good_o K mg (GG.T 5) i5 "TooMany" "TooMany.__init__" "too many" ["limit"] s_TooMany_init := {
    gC := PySem.W.mg_of X G a_TooMany, cls := cx_TooMany, sa := sa_TooMany, noN := (all_cons no_TooMany_limit all_nil), iC := ii_TooMany, tC := it_TooMany, kC := kc_TooMany, exC := b_TooMany, veC := ve_TooMany, meC := me_TooMany, tyC := y_TooMany,
    su := su_TooMany, op := op, ms := PySem.W.mg_none_of X G ms, top := by decide +kernel, fn := fx_TooMany,
    sc := ⟨rfl, rfl, rfl, by decide +kernel, by decide +kernel, by decide +kernel, by decide +kernel, by decide +kernel⟩, bnd := fun _ _ _ _ _ _ _ us hl => match us, hl with | [_, _], _ => rfl, nd := by decide +kernel, body := ⟨_, _, _, _, _, _, _, [(_, _, _, _)], rfl, rfl, rfl⟩, hd := rfl }
  have se_TooMany : IsE K (GG.T 5) := ⟨⟨cl_TooMany, gn, gt, mo_TooMany⟩, by have z := ic_TooMany; exact z, ga_TooMany, gg_TooMany, b_TooMany⟩
  have xf_TooMany : XfC K (GG.T 5) := ⟨ga_TooMany, gg_TooMany, b_TooMany, hd_TooMany⟩
  have D0 : DefD PySem.Challenge.pw_waterbyturns_k22_options_that_are_good_o w K mg base GG "_law_start" 1 1 f_law_start := o_law_start rfl (PySem.W.mg_none_of X G zabs) (PySem.W.mg_none_of X G zint) (PySem.W.mg_none_of X G zlen) F0 b0 (PySem.W.mg_of X G a0)
  have D1 : DefD PySem.Challenge.pw_waterbyturns_k22_options_that_are_good_o w K mg base GG "_law_draw" 1 3 f_law_draw := o_law_draw rfl (PySem.W.mg_none_of X G zint) (PySem.W.mg_none_of X G zlen) F1 b1 (PySem.W.mg_of X G a1)
  have D2 : DefD PySem.Challenge.pw_waterbyturns_k22_options_that_are_good_o w K mg base GG "_law_target" 2 3 f_law_target := o_law_target rfl D1 (PySem.W.mg_none_of X G zint) (PySem.W.mg_none_of X G zmin) F2 b2 (PySem.W.mg_of X G a2)
  have D3 : DefD PySem.Challenge.pw_waterbyturns_k22_options_that_are_good_o w K mg base GG "_law_game" 3 3 f_law_game := o_law_game rfl D1 D2 (PySem.W.mg_none_of X G zrange) F3 b3 (PySem.W.mg_of X G a3)
  have D4 : DefD PySem.Challenge.pw_waterbyturns_k22_options_that_are_good_o w K mg base GG "_law_copy" 1 1 f_law_copy := o_law_copy rfl (PySem.W.mg_none_of X G zlist) F4 b4 (PySem.W.mg_of X G a4)
  have D5 : DefD PySem.Challenge.pw_waterbyturns_k22_options_that_are_good_o w K mg base GG "is_integer" 1 1 f_is_integer := o_is_integer rfl (PySem.W.mg_none_of X G zbool) (PySem.W.mg_none_of X G zint) (PySem.W.mg_none_of X G zisinstance) F5 b5 (PySem.W.mg_of X G a5)
  have D6 : DefD PySem.Challenge.pw_waterbyturns_k22_options_that_are_good_o w K mg base GG "check_number" 2 4 f_check_number := o_check_number rfl D5 e_BadNumber F6 b6 (PySem.W.mg_of X G a6)
  have D7 : DefD PySem.Challenge.pw_waterbyturns_k22_options_that_are_good_o w K mg base GG "check_game" 3 1 f_check_game := o_check_game rfl D6 e_TooMany (PySem.W.mg_of X G qMOST_NODES) (PySem.W.mg_none_of X G zlen) F7 b7 (PySem.W.mg_of X G a7)
  have D8 : DefD PySem.Challenge.pw_waterbyturns_k22_options_that_are_good_o w K mg base GG "users_of" 1 1 f_users_of := o_users_of rfl (PySem.W.mg_none_of X G zenumerate) F8 b8 (PySem.W.mg_of X G a8)
  have D9 : DefT PySem.Challenge.pw_waterbyturns_k22_options_that_are_good_o w K mg base GG "fail_options" 1 3 [1, 2] f_fail_options := o_fail_options rfl  F9 b9 (PySem.W.mg_of X G a9)
  have D10 : DefD PySem.Challenge.pw_waterbyturns_k22_options_that_are_good_o w K mg base GG "ranks" 4 1 f_ranks := o_ranks rfl D7 D9 D8 (PySem.W.mg_none_of X G zenumerate) (PySem.W.mg_none_of X G zlist) F10 b10 (PySem.W.mg_of X G a10)
  have D11 : DefD PySem.Challenge.pw_waterbyturns_k22_options_that_are_good_o w K mg base GG "good_options" 1 3 f_good_options := o_good_options rfl (PySem.W.mg_none_of X G zall) (PySem.W.mg_none_of X G zenumerate) F11 b11 (PySem.W.mg_of X G a11)
  have D12 : DefD PySem.Challenge.pw_waterbyturns_k22_options_that_are_good_o w K mg base GG "spoiler_of" 1 3 f_spoiler_of := o_spoiler_of rfl  F12 b12 (PySem.W.mg_of X G a12)
  have D13 : DefD PySem.Challenge.pw_waterbyturns_k22_options_that_are_good_o w K mg base GG "spoilers" 2 3 f_spoilers := o_spoilers rfl D12 F13 b13 (PySem.W.mg_of X G a13)
  have D14 : DefD PySem.Challenge.pw_waterbyturns_k22_options_that_are_good_o w K mg base GG "_law_spoilers" 1 3 f_law_spoilers := o_law_spoilers rfl (PySem.W.mg_none_of X G zlen) F14 b14 (PySem.W.mg_of X G a14)
  have D15 : DefD PySem.Challenge.pw_waterbyturns_k22_options_that_are_good_o w K mg base GG "_law_good" 1 2 f_law_good := o_law_good rfl (PySem.W.mg_none_of X G zall) (PySem.W.mg_none_of X G zlen) (PySem.W.mg_none_of X G zrange) F15 b15 (PySem.W.mg_of X G a15)
  have D16 : DefD PySem.Challenge.pw_waterbyturns_k22_options_that_are_good_o w K mg base GG "_law_asked" 3 4 f_law_asked := o_law_asked rfl D15 D14 D11 D13 (PySem.W.mg_none_of X G zany) (PySem.W.mg_none_of X G zbool) (PySem.W.mg_none_of X G zisinstance) (PySem.W.mg_none_of X G zlen) (PySem.W.mg_none_of X G zlist) F16 b16 (PySem.W.mg_of X G a16)
  exact law_fn (G := GG) rfl (o_law (w := w) (K := K) (base := base) (G := GG) rfl D16 D4 D1 D3 D0 D10 (PySem.W.mg_none_of X G zlist) (PySem.W.mg_none_of X G zrange) F17) main
end K22
namespace K22
open PySem PySem.Spec PyProof.Rows L2 DL
set_option maxHeartbeats 0 in
theorem all_of {w : World} {K : PySem.W.Frag} {h : Heap} {mg : Str → Option Value} {fa : Addr} (X : K.In h) (G : h.Ns mainGlobals mg) (hfa : mg "law" = some (.ref fa)) (c : HX.Says fs ds K) : ∃ fd : FuncData, (∀ (s : Shared) (v : Value), BindsTo s fd ⟨[v], []⟩ [("_law_script", v)]) ∧ ∀ base : Heap, K.In base → base.Ns mainGlobals mg → FnOk PySem.Challenge.pw_waterbyturns_k22_options_that_are_good_o w K mg base (L2.CX PySem.Challenge.pw_waterbyturns_k22_options_that_are_good_o w) 5 fa fd ["_law_script"] (spLaw K) :=
  all_mk (C0 := (HX.gA "WaterError" K)) (C2 := (HX.gA "BadNumber" K)) (C5 := (HX.gA "TooMany" K)) (i2 := (HX.mA "BadNumber" "__init__" K)) (i5 := (HX.mA "TooMany" "__init__" K)) (f0 := (HX.gA "_law_start" K)) (f1 := (HX.gA "_law_draw" K)) (f2 := (HX.gA "_law_target" K)) (f3 := (HX.gA "_law_game" K)) (f4 := (HX.gA "_law_copy" K)) (f5 := (HX.gA "is_integer" K)) (f6 := (HX.gA "check_number" K)) (f7 := (HX.gA "check_game" K)) (f8 := (HX.gA "users_of" K)) (f9 := (HX.gA "fail_options" K)) (f10 := (HX.gA "ranks" K)) (f11 := (HX.gA "good_options" K)) (f12 := (HX.gA "spoiler_of" K)) (f13 := (HX.gA "spoilers" K)) (f14 := (HX.gA "_law_spoilers" K)) (f15 := (HX.gA "_law_good" K)) (f16 := (HX.gA "_law_asked" K)) (f17 := (HX.gA "law" K)) (k_MOST_NODES := (HX.tokI "MOST_NODES" K)) X G hfa
    (of_decide_eq_true (c.fact 0))
    (of_decide_eq_true (c.fact 1))
    (of_decide_eq_true (c.fact 2))
    (of_decide_eq_true (c.fact 3))
    (of_decide_eq_true (c.fact 4))
    (of_decide_eq_true (c.fact 5))
    (of_decide_eq_true (c.fact 6))
    (of_decide_eq_true (c.fact 7))
    (of_decide_eq_true (c.fact 8))
    (of_decide_eq_true (c.fact 9))
    (of_decide_eq_true (c.fact 10))
    (of_decide_eq_true (c.fact 11))
    (of_decide_eq_true (c.fact 12))
    (of_decide_eq_true (c.fact 13))
    (of_decide_eq_true (c.fact 14))
    (of_decide_eq_true (c.fact 15))
    (of_decide_eq_true (c.fact 16))
    (of_decide_eq_true (c.fact 17))
    (of_decide_eq_true (c.fact 18))
    (of_decide_eq_true (c.fact 19))
    (of_decide_eq_true (c.fact 20))
    (c.fact 21)
    (of_decide_eq_true (c.fact 22))
    (of_decide_eq_true (c.fact 23))
    (c.fact 24)
    (of_decide_eq_true (c.fact 25))
    (of_decide_eq_true (c.fact 26))
    (c.fact 27)
    (of_decide_eq_true (c.fact 28))
    (of_decide_eq_true (c.fact 29))
    (of_decide_eq_true (c.fact 30))
    (of_decide_eq_true (c.fact 31))
    (of_decide_eq_true (c.fact 32))
    (of_decide_eq_true (c.fact 33))
    (of_decide_eq_true (c.fact 34))
    (HX.exc_ok (c.fact 35))
    (of_decide_eq_true (c.fact 36))
    (of_decide_eq_true (c.fact 37))
    (of_decide_eq_true (c.fact 38))
    (c.fact 39)
    (of_decide_eq_true (c.fact 40))
    (of_decide_eq_true (c.fact 41))
    (of_decide_eq_true (c.fact 42))
    (of_decide_eq_true (c.fact 43))
    (of_decide_eq_true (c.fact 44))
    (of_decide_eq_true (c.fact 45))
    (of_decide_eq_true (c.fact 46))
    (c.fact 47)
    (of_decide_eq_true (c.fact 48))
    (of_decide_eq_true (c.fact 49))
    (HX.Df.sup_ (c.at_ 0 rfl).1 (c.at_ 0 rfl).2 rfl rfl (c.fact 50))
    (HX.exc_ok (c.fact 51))
    (of_decide_eq_true (c.fact 52))
    (of_decide_eq_true (c.fact 53))
    (of_decide_eq_true (c.fact 54))
    (c.fact 55)
    (of_decide_eq_true (c.fact 56))
    (of_decide_eq_true (c.fact 57))
    (of_decide_eq_true (c.fact 58))
    (of_decide_eq_true (c.fact 59))
    (of_decide_eq_true (c.fact 60))
    (of_decide_eq_true (c.fact 61))
    (c.fact 62)
    (of_decide_eq_true (c.fact 63))
    (of_decide_eq_true (c.fact 64))
    (HX.Df.sup_ (c.at_ 1 rfl).1 (c.at_ 1 rfl).2 rfl rfl (c.fact 65))
    (of_decide_eq_true (c.fact 66))
    (c.fn 2)
    (of_decide_eq_true (c.fact 67))
    (c.fn 3)
    (of_decide_eq_true (c.fact 68))
    (c.fn 4)
    (of_decide_eq_true (c.fact 69))
    (c.fn 5)
    (of_decide_eq_true (c.fact 70))
    (c.fn 6)
    (of_decide_eq_true (c.fact 71))
    (c.fn 7)
    (of_decide_eq_true (c.fact 72))
    (c.fn 8)
    (of_decide_eq_true (c.fact 73))
    (c.fn 9)
    (of_decide_eq_true (c.fact 74))
    (c.fn 10)
    (of_decide_eq_true (c.fact 75))
    (c.fn 11)
    (of_decide_eq_true (c.fact 76))
    (c.fn 12)
    (of_decide_eq_true (c.fact 77))
    (c.fn 13)
    (of_decide_eq_true (c.fact 78))
    (c.fn 14)
    (of_decide_eq_true (c.fact 79))
    (c.fn 15)
    (of_decide_eq_true (c.fact 80))
    (c.fn 16)
    (of_decide_eq_true (c.fact 81))
    (c.fn 17)
    (of_decide_eq_true (c.fact 82))
    (c.fn 18)
    (of_decide_eq_true (c.fact 83))
    (c.fn 19) main
end K22
open PySem PySem.W PyProof.Rows
set_option maxHeartbeats 0 in
theorem PySem.Challenge.cw_waterbyturns_k22_options_that_are_good_o_holds : PySem.Challenge.rw_waterbyturns_k22_options_that_are_good_o.Holds := by
  w_on; o_law
  refine HandSHeadRun.head_any (r := K22.rowR) (q := PySem.W.view K22.rowR.prog [25]) (H := K22.hk) (ob := K22.ob) (M := 100000) (loose := K22.names) (d := HandSHeadRun.topDef K22.rowR.prog 25) (kwd := []) K22.ob_eq
    (by kernel_rfl) (fun s => by kernel_rfl) K22.run (by kernel_rfl) (by kernel_rfl) (by kernel_rfl) (by rfl) (by first | assumption | decide +kernel) (by decide +kernel) ⟨rfl, rfl, rfl, rfl, rfl, by decide +kernel⟩ ?hw ?hc
  case hw => w_witness2
  case hc =>
    refine HX.walkO (l := PySem.Challenge.rw_waterbyturns_k22_options_that_are_good_o) (m := 63) (k := 5) (y := "_law_script") (cx := fun w => L2.CX PySem.Challenge.pw_waterbyturns_k22_options_that_are_good_o w) rfl (by decide) (by kernel_rfl) ⟨rfl, by decide, by decide⟩ (fun _ _ _ _ _ h => DL.cx_no h) ?F
    intro w mg fa h Y G hmg0
    obtain ⟨K, KX, c⟩ := Y
    have hmg : mg ("law" : PySem.Str) = some (.ref fa) := by
      have e : (HandSHeadRun.topDef K22.rowR.prog 25).name = ("law" : PySem.Str) := by kernel_rfl
      rw [← e]
      exact hmg0
    obtain ⟨fd, hb, hF⟩ := K22.all_of (w := w) KX G hmg c
    exact ⟨K, fd, DL.spLaw K, KX, hb, fun H a ns hl _ hS => ⟨a, ns, rfl, hS, hl, fun _ => rfl⟩, hF⟩

