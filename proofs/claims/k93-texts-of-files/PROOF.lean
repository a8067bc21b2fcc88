import PyProof.Rows.All
import Wide.All
import OpenK.AllK
import Wide.FinOn
import KE.KStateDown
import KE.KSuper
import HandS.Base
import HandS.Call
import HandS.List
import HandS.Ends
import HandS.More
import HandS.Words
import HandS.WordsExc
import HandS.Defaults
import HandS.Exc
import HandS.ExcInit
import HandS.ExcField
import HandS.Property
import HandS.Head0
import HandS.Head1
import HandS.Head2
import HandS.HeadEnd
import HandS.HeadHook1
import HandS.HeadHook2
import HandS.Comp
import HandS.Dict
import HandS.Iter
import HandS.Text
import HandS.IsInst
import HandS.Walk
import HandS.Flow
import HandS.WordsList
import HandS.WordsDict
import HandS.TupAny
import HandS.Style
import PyProof.StrLawsTight
import HandS.Nested
import HandS.ExcIs
import HandS.ExcSuper
import KE.KExcSuper
import KE.KExcIs
import HandS.Lambda
import HandS.EndBits
import HandS.EndTab
import PyProof.ReprRoads
import PyProof.CallFns
import KE.SortData
import KE.KNestM
import KE.GoesEnum
import PyProof.AutoSeq1
import KE.KRevSl
import PyProof.Rows.StrMeet
import HandS.DictComp
import HandS.RevRange
import HandS.Conv
import PyProof.ReprBulk
import PySem.Challenge.RW_siftstore_k93_texts_of_files
set_option Elab.async false
set_option linter.all false
set_option maxRecDepth 100000
set_option maxHeartbeats 4000000
/-! SkHead: what the top leaves, told by names, for programs with classes, properties, errors of their own. No program stands in it. -/
namespace Sk
open PySem PySem.Spec PyProof.Rows L2
/-- where an object stands: a module's name, a class's method, the getter of a class's property -/
inductive Pth where
  | g (x : Str)
  | m (x f : Str)
  | p (x f : Str)
def prAd (K : PySem.W.Frag) (x f : Str) : Addr := He.ma K (He.ga K x) f
def pAd (K : PySem.W.Frag) : Pth → Addr
  | .g x => He.ga K x
  | .m x f => He.ma K (He.ga K x) f
  | .p x f => match PySem.W.recIn K (prAd K x f) "property" with
    | some (.ref a :: _) => a
    | _ => 0
/-- a def of the text: where, its statement, name, qualified name, defaults -/
structure DX where
  at_ : Pth
  st : Stmt
  nm : Str
  qual : Str
  dfl : List He.Dv := []
  clo : List Str := []
/-- a function object's words, of its closure the names -/
abbrev FnV : Type := Option (Str × Str × Arguments × FuncBody × Scope × Addr × List Str × Addr)
def fnA (K : PySem.W.Frag) (a : Addr) : FnV := match K.lookup a with
  | some ⟨_, _, .func fd, _⟩ => some (fd.name, fd.qualname, fd.params, fd.body, fd.scope, fd.globals, fd.closure.map (·.1), fd.builtins)
  | _ => none
def DX.val (d : DX) : FnV := some (d.nm, d.qual, defArgs d.st, .stmts (defBody d.st), defScope d.st, mainGlobals, d.clo, builtinsNs)
def DX.dvs (K : PySem.W.Frag) (d : DX) : List V := d.dfl.map (He.Dv.v K)
def DX.ok (K : PySem.W.Frag) (d : DX) : Bool := PySem.W.keepIn K (.ref (pAd K d.at_)) && (match K.lookup (pAd K d.at_) with
  | some ⟨_, _, .func fd, _⟩ => PySem.W.codeIn K fd.code d.qual && He.dflB K fd.defaults (d.dvs K)
  | _ => false)
/-- the def's function object as the walk wants it -/
abbrev FnX (K : PySem.W.Frag) (d : DX) (fd : FuncData) : Prop := FunD K d.nm d.qual (defArgs d.st) (defBody d.st) (defScope d.st) (d.dvs K) [] (pAd K d.at_) fd
theorem DX.fn {K : PySem.W.Frag} {d : DX} (e : fnA K (pAd K d.at_) = d.val) (c : d.ok K = true) (hclo : d.clo = []) : ∃ fd, FnX K d fd := by
  obtain ⟨kp, c2⟩ := He.ba c
  cases q : K.lookup (pAd K d.at_) with
  | none => rw [q] at c2; cases c2
  | some o =>
    obtain ⟨oc, od, dt, osl⟩ := o
    unfold fnA at e
    rw [q] at c2 e
    cases dt with
    | func fd =>
      obtain ⟨n1, n2, n3, n4, n5, n6, n7, n8, n9, n10, n11, n12, n13, n14, n15⟩ := fd
      have e2 : (some (n1, n2, n3, n4, n5, n6, n7.map (·.1), n15) : FnV) = some (d.nm, d.qual, defArgs d.st, .stmts (defBody d.st), defScope d.st, mainGlobals, d.clo, builtinsNs) := e
      rw [hclo] at e2
      simp only [Option.some.injEq, Prod.mk.injEq, List.map_eq_nil_iff] at e2
      obtain ⟨rfl, rfl, rfl, rfl, rfl, rfl, rfl, rfl⟩ := e2
      obtain ⟨k1, k3⟩ := He.ba (show (PySem.W.codeIn K n13 d.qual && He.dflB K n8 (d.dvs K)) = true from c2)
      exact ⟨_, ⟨oc, od, n8, n9, n10, n11, n12, n13, n14, osl, rfl, q, k1, He.dflB_ok k3, .inl rfl⟩, kp⟩
    | _ => cases c2
/-! ### facts -/
inductive Fx where
  | h (f : He.Fa)
  | prop (x f : Str)
  | oex (x : Str)
  | xf (x : Str)
  | ini (x f : Str) (file : Str)
  | ek (x : Str)
  | kit (x y : Str) (b : Bool)
  | kitT (x : Str) (t : String) (b : Bool)
  | mods
def cellB (K : PySem.W.Frag) (cell C : Addr) : Bool := match K.lookup cell with
  | some ⟨_, _, .cell (some (.ref D)), _⟩ => decide (D = C)
  | _ => false
def fileB (K : PySem.W.Frag) (c : Addr) (file : Str) : Bool := match K.lookup c with
  | some ⟨_, _, .fields vs, _⟩ => (match vs.toList with
    | _ :: _ :: .str z _ :: _ => decide (z = file)
    | _ => false)
  | _ => false
/-- the start of an error's class that asks super() -/
def iniB (K : PySem.W.Frag) (C : Addr) (f : Str) (file : Str) : Bool := (match K.lookup (He.ma K C "__init__") with
  | some ⟨.type t, _, .func fd, _⟩ => decide (t = "function") && ((match fd.closure with
    | [(_, cell)] => cellB K cell C
    | _ => false) && ((match fd.defaults with
    | .none => true
    | _ => false) && (match fd.code with
    | .ref c => PySem.W.codeIn K (.ref c) fd.qualname && fileB K c file
    | _ => false)))
  | _ => false) && (decide (PySem.W.subIn K (.ref C) (.ref C) = some true) && (decide (PySem.W.subIn K (.ref C) (.type "ValueError") = some true) &&
    (He.eqO (PySem.W.ks_superIn K C C "__init__") (some (some (.builtin "ValueError.__init__"))) && (He.eqO (PySem.W.nsIn K cStatics "thirdparty.any") (some none) && (He.eqO (PySem.W.findIn K (.ref C) f) (some none) &&
    (He.eqO (PySem.W.findIn K (.ref C) "__init__") (some (some (.ref (He.ma K C "__init__")))) && decide (PySem.W.typeIn K (.ref (He.ma K C "__init__")) = some (.type "function"))))))))
def ekB (K : PySem.W.Frag) (D : Addr) : Bool := (PySem.W.clsIn K D).isSome && (He.eqO (PySem.W.findIn K (.ref D) "__getattribute__") (some (some (.builtin "BaseException.__getattribute__"))) && (He.eqO (PySem.W.findIn K (.ref D) "__getattr__") (some none) &&
  (decide (PySem.W.subIn K (.ref D) (.type "BaseException") = some true) && (He.eqO (PySem.W.findIn K (.ref D) "__class__") (some (some (.builtin "object.__class__"))) &&
  (He.eqO (PySem.W.specialIn K (.builtin "object.__class__") "__get__") (some (some (.builtin "getset_descriptor.__get__"))) && (decide (PySem.W.takesIn K (.builtin "object.__class__") = some true) && decide (PySem.W.mroIn K D (.type "object") = some true)))))))
def oexB (K : PySem.W.Frag) (C : Addr) : Bool := (match K.lookup C with
  | some ⟨.type c, _, .cls cd, sl⟩ => decide (c = "type") && ((match cd.mro with
    | .ref D :: bm => decide (D = C) && PySem.HandSPX.refsVE bm
    | _ => false) && (cd.hasDict && (!cd.hasDel && (match sl.toList with
    | [_, _, _, _, some (.builtin n), _] => decide (n = "ValueError.__new__")
    | _ => false))))
  | _ => false) && (He.eqO (PySem.W.findIn K (.ref C) "__setattr__") (some (some (.builtin "object.__setattr__"))) && (decide (PySem.W.subIn K (.ref C) (.type "BaseException") = some true) &&
    (decide (PySem.W.typeIn K (.ref C) = some (.type "type")) && PySem.W.keepIn K (.ref C))))
theorem oexB_ok {K : PySem.W.Frag} {C : Addr} (h : oexB K C = true) : OexC K C := by
  obtain ⟨h1, h⟩ := He.ba h
  obtain ⟨h2, h⟩ := He.ba h
  obtain ⟨h3, h⟩ := He.ba h
  obtain ⟨h4, h5⟩ := He.ba h
  refine ⟨?_, He.eqO_ok h2, of_decide_eq_true h3, of_decide_eq_true h4, h5⟩
  cases q : K.lookup C with
  | none => rw [q] at h1; cases h1
  | some o =>
    obtain ⟨oc, od, dt, sl⟩ := o
    rw [q] at h1
    cases oc with
    | type c =>
      cases dt with
      | cls cd =>
        obtain ⟨a1, h⟩ := He.ba h1
        obtain ⟨a2, h⟩ := He.ba h
        obtain ⟨a3, h⟩ := He.ba h
        obtain ⟨a4, a5⟩ := He.ba h
        obtain ⟨nm, bs, mro, ns, qn, hd, sn, sb, ab, col, del⟩ := cd
        have ec : c = "type" := of_decide_eq_true a1
        subst ec
        have e3 : hd = true := a3
        subst e3
        have e4 : del = false := by
          have z : (!del) = true := a4
          cases del with
          | false => rfl
          | true => cases z
        subst e4
        obtain ⟨sl⟩ := sl
        have key : ∃ k0 k1 k2 k3 k5, sl = [k0, k1, k2, k3, some (.builtin "ValueError.__new__"), k5] := by
          match sl, a5 with
          | [k0, k1, k2, k3, some (.builtin n), k5], z =>
            have en : n = "ValueError.__new__" := of_decide_eq_true z
            exact ⟨k0, k1, k2, k3, k5, by rw [en]⟩
        obtain ⟨k0, k1, k2, k3, k5, rfl⟩ := key
        cases mro with
        | nil => cases a2
        | cons v bm =>
          cases v with
          | ref D =>
            obtain ⟨b1, b2⟩ := He.ba (show (decide (D = C) && PySem.HandSPX.refsVE bm) = true from a2)
            have eD : D = C := of_decide_eq_true b1
            subst eD
            exact ⟨nm, qn, ns, bs, bm, sn, sb, ab, col, od, k0, k1, k2, k3, k5, rfl, b2⟩
          | _ => cases a2
      | _ => cases h1
    | _ => cases dt <;> cases h1
def propB (K : PySem.W.Frag) (x f : Str) : Bool := He.eqO (PySem.W.findIn K (.ref (He.ga K x)) f) (some (some (.ref (prAd K x f)))) && (He.eqO (PySem.W.specialIn K (.ref (prAd K x f)) "__get__") (some (some (.builtin "property.__get__"))) &&
  (decide (PySem.W.takesIn K (.ref (prAd K x f)) = some true) && (match PySem.W.recIn K (prAd K x f) "property" with
    | some (.ref _ :: _) => true
    | _ => false)))
theorem propB_ok {K : PySem.W.Frag} {x f : Str} (h : propB K x f = true) : PropOf K (He.ga K x) f (prAd K x f) (pAd K (.p x f)) := by
  obtain ⟨h1, h⟩ := He.ba h
  obtain ⟨h2, h⟩ := He.ba h
  obtain ⟨h3, h4⟩ := He.ba h
  refine ⟨He.eqO_ok h1, He.eqO_ok h2, of_decide_eq_true h3, ?_⟩
  show ∃ rest, PySem.W.recIn K (prAd K x f) "property" = some (.ref (match PySem.W.recIn K (prAd K x f) "property" with
    | some (.ref a :: _) => a
    | _ => 0) :: rest)
  cases q : PySem.W.recIn K (prAd K x f) "property" with
  | none => rw [q] at h4; cases h4
  | some l =>
    rw [q] at h4
    cases l with
    | nil => cases h4
    | cons v r =>
      cases v with
      | ref a => exact ⟨r, rfl⟩
      | _ => cases h4
def Fx.ok (K : PySem.W.Frag) : Fx → Bool
  | .h f => f.ok K
  | .prop x f => propB K x f
  | .oex x => oexB K (He.ga K x)
  | .xf x => xfB K (He.ga K x)
  | .ini x f file => iniB K (He.ga K x) f file
  | .ek x => ekB K (He.ga K x)
  | .kit x y b => decide (PySem.W.kitOne K (.ref (He.ga K x)) (.ref (He.ga K y)) = some b)
  | .mods => (K.lookup sysModules).isSome
  | .kitT x t b => decide (PySem.W.kitOne K (.ref (He.ga K x)) (.type t) = some b)
/-! ### the look behind the top: over a list of addresses -/
abbrev Al : Type := Bool × List FnV
def obsX (fa : List Fx) (fn : List DX) (K : PySem.W.Frag) : Al := ((fa.all fun f => f.ok K) && fn.all fun d => d.ok K, fn.map fun d => fnA K (pAd K d.at_))
def valX (fn : List DX) : Al := (true, fn.map DX.val)
def SaysX (fa : List Fx) (fn : List DX) (K : PySem.W.Frag) : Prop := obsX fa fn K = valX fn
def obsXG (as : List Addr) (fa : List Fx) (fn : List DX) (g : Addr → Option Obj) : Al := obsX fa fn (He.frG g as)
def hookX (as : List Addr) (fa : List Fx) (fn : List DX) : PySem.W.Hook where
  α := Al
  obs := fun s => obsXG as fa fn s.heap.get?
  val := fun _ => valX fn
  says := fun _ h => ∃ K : PySem.W.Frag, K.In h ∧ SaysX fa fn K
  of := fun _ _ e => ⟨_, He.frG_in, e⟩
  keeps := fun _ _ _ ⟨K, hK, c⟩ k => ⟨K, PySem.W.Frag.In.keeps hK k, c⟩
theorem obsXG_eq {as : List Addr} {fa : List Fx} {fn : List DX} {g : Addr → Option Obj} {s : Shared} (h : ∀ a, g a = s.heap.get? a) : obsXG as fa fn g = (hookX as fa fn).obs s := by
  have e : g = s.heap.get? := funext h
  rw [e] <;> rfl
section
variable {fa : List Fx} {fn : List DX} {K : PySem.W.Frag}
theorem SaysX.fact (c : SaysX fa fn K) {f : Fx} (h : f ∈ fa) : f.ok K = true :=
  List.all_eq_true.mp (He.ba (congrArg (fun z : Al => z.1) c)).1 f h
theorem SaysX.val (c : SaysX fa fn K) (i : Nat) {d : DX} (h : fn[i]? = some d) : fnA K (pAd K d.at_) = d.val := by
  have e : fn.map (fun d => fnA K (pAd K d.at_)) = fn.map DX.val := congrArg (fun z : Al => z.2) c
  have e2 : (fn.map fun d => fnA K (pAd K d.at_))[i]? = (fn.map DX.val)[i]? := congrArg (fun l => l[i]?) e
  rw [List.getElem?_map, List.getElem?_map, h] at e2
  exact Option.some.inj e2
theorem SaysX.def_ (c : SaysX fa fn K) (i : Nat) {d : DX} (h : fn[i]? = some d) (hclo : d.clo = []) : ∃ fd, FnX K d fd := by
  have c2 := (He.ba (congrArg (fun z : Al => z.1) c)).2
  have e : fn.map (fun d => fnA K (pAd K d.at_)) = fn.map DX.val := congrArg (fun z : Al => z.2) c
  have e2 : (fn.map fun d => fnA K (pAd K d.at_))[i]? = (fn.map DX.val)[i]? := congrArg (fun l => l[i]?) e
  rw [List.getElem?_map, List.getElem?_map, h] at e2
  exact DX.fn (Option.some.inj e2) (List.all_eq_true.mp c2 d (List.mem_of_getElem? h)) hclo
end
/-- the look from three partial ones -/
theorem obs_of {α : Type} {e : Option α} {G : α → Addr → Option Obj} {as : List Addr} {fa : List Fx} {fn : List DX} (ha : e.map (fun s => fa.all fun f => f.ok (He.frG (G s) as)) = some true) (hb : e.map (fun s => fn.all fun d => d.ok (He.frG (G s) as)) = some true)
    (hc : e.map (fun s => fn.map fun d => fnA (He.frG (G s) as) (pAd (He.frG (G s) as) d.at_)) = some (fn.map DX.val)) : e.map (fun s => obsXG as fa fn (G s)) = some (valX fn) := by
  cases e with
  | none => cases ha
  | some s =>
    have a1 := Option.some.inj ha
    have a2 := Option.some.inj hb
    have a3 := Option.some.inj hc
    have b1 : (fa.all fun f => f.ok (He.frG (G s) as)) = true := a1
    have b2 : (fn.all fun d => d.ok (He.frG (G s) as)) = true := a2
    have b3 : (fn.map fun d => fnA (He.frG (G s) as) (pAd (He.frG (G s) as) d.at_)) = fn.map DX.val := a3
    show some (((fa.all fun f => f.ok (He.frG (G s) as)) && fn.all fun d => d.ok (He.frG (G s) as)), (fn.map fun d => fnA (He.frG (G s) as) (pAd (He.frG (G s) as) d.at_))) = some (true, fn.map DX.val)
    rw [b1, b2, b3]
    rfl
/-! ### the run, looked at in parts -/
end Sk
namespace Sk
open PySem PySem.W PySem.Calls PyProof.Rows HandSHeadRun
/-- the parts' equations make the run's -/
theorem run_of {r : OpenRow} {q : Program} {H : Hook} {ob : SharedT → H.α} {M : Nat} {loose : List PySem.Str} {w : World} {os : OsState}
    (h1 : (endF (stepQ (denQ tabQ) r.prog w) M r.prog w os).map (fun s => looksF r.prog (boot_heap w.params) s.abs) = some true)
    (h2 : (endF (stepQ (denQ tabQ) r.prog w) M r.prog w os).map (fun s => HandSHeadRun.seenQ q loose (importedModules r.prog.main.body) (fun s => xlAt q [] s && recOk r.toRowW.records s) s.abs) = some (openGood q loose))
    (h3 : (endF (stepQ (denQ tabQ) r.prog w) M r.prog w os).map ob = some (H.val w)) :
    (endF (stepQ (denQ tabQ) r.prog w) M r.prog w os).map (fun s => (looksF r.prog (boot_heap w.params) s.abs, HandSHeadRun.seenQ q loose (importedModules r.prog.main.body) (fun s => xlAt q [] s && recOk r.toRowW.records s) s.abs, ob s)) = some (true, openGood q loose, H.val w) := by
  cases e : endF (stepQ (denQ tabQ) r.prog w) M r.prog w os with
  | none => rw [e] at h1; cases h1
  | some s =>
    rw [e] at h1 h2 h3
    have a1 := Option.some.inj h1
    have a2 := Option.some.inj h2
    have a3 := Option.some.inj h3
    show some _ = some _
    exact congrArg some (Prod.ext a1 (Prod.ext a2 a3))
end Sk
/-! K93Top: the text by places, its defs, the facts of the top. Written by gen_top.py. -/
namespace Sk
open PySem PySem.Spec PyProof.Rows L2
def top (i : Nat) : Stmt := PySem.Challenge.pw_siftstore_k93_texts_of_files.main.body.getD i (.Pass ⟨0, 0, 0, 0⟩)
abbrev s_is_text : Stmt := top 23
def d_is_text : DX := ⟨.g "is_text", s_is_text, "is_text", "is_text", [], []⟩
abbrev s_is_integer : Stmt := top 36
def d_is_integer : DX := ⟨.g "is_integer", s_is_integer, "is_integer", "is_integer", [], []⟩
abbrev s_is_name : Stmt := top 37
def d_is_name : DX := ⟨.g "is_name", s_is_name, "is_name", "is_name", [], []⟩
abbrev s_is_line_text : Stmt := top 38
def d_is_line_text : DX := ⟨.g "is_line_text", s_is_line_text, "is_line_text", "is_line_text", [], []⟩
abbrev s_check_line_text : Stmt := top 39
def d_check_line_text : DX := ⟨.g "check_line_text", s_check_line_text, "check_line_text", "check_line_text", [], []⟩
abbrev s_head_of : Stmt := top 40
def d_head_of : DX := ⟨.g "head_of", s_head_of, "head_of", "head_of", [], []⟩
abbrev s_known_version : Stmt := top 41
def d_known_version : DX := ⟨.g "known_version", s_known_version, "known_version", "known_version", [], []⟩
abbrev s_version_at : Stmt := top 42
def d_version_at : DX := ⟨.g "version_at", s_version_at, "version_at", "version_at", [], []⟩
abbrev s_parents_of : Stmt := top 43
def d_parents_of : DX := ⟨.g "parents_of", s_parents_of, "parents_of", "parents_of", [], []⟩
abbrev s_files_of : Stmt := top 44
def d_files_of : DX := ⟨.g "files_of", s_files_of, "files_of", "files_of", [], []⟩
abbrev s_line_text : Stmt := top 47
def d_line_text : DX := ⟨.g "line_text", s_line_text, "line_text", "line_text", [], []⟩
abbrev s_texts_of : Stmt := top 48
def d_texts_of : DX := ⟨.g "texts_of", s_texts_of, "texts_of", "texts_of", [], []⟩
abbrev s_lines_in : Stmt := top 49
def d_lines_in : DX := ⟨.g "lines_in", s_lines_in, "lines_in", "lines_in", [], []⟩
abbrev s_texts_there : Stmt := top 50
def d_texts_there : DX := ⟨.g "texts_there", s_texts_there, "texts_there", "texts_there", [], []⟩
abbrev s_next_fresh : Stmt := top 51
def d_next_fresh : DX := ⟨.g "next_fresh", s_next_fresh, "next_fresh", "next_fresh", [], []⟩
abbrev s_show_of : Stmt := top 60
def d_show_of : DX := ⟨.g "show_of", s_show_of, "show_of", "show_of", [], []⟩
abbrev s_number_in : Stmt := top 61
def d_number_in : DX := ⟨.g "number_in", s_number_in, "number_in", "number_in", [], []⟩
abbrev s_head_in : Stmt := top 62
def d_head_in : DX := ⟨.g "head_in", s_head_in, "head_in", "head_in", [], []⟩
abbrev s_read_files : Stmt := top 64
def d_read_files : DX := ⟨.g "read_files", s_read_files, "read_files", "read_files", [], []⟩
abbrev s_new_notices : Stmt := top 101
def d_new_notices : DX := ⟨.g "new_notices", s_new_notices, "new_notices", "new_notices", [], []⟩
abbrev s_numbered : Stmt := top 104
def d_numbered : DX := ⟨.g "numbered", s_numbered, "numbered", "numbered", [], []⟩
abbrev s_lay_births : Stmt := top 105
def d_lay_births : DX := ⟨.g "lay_births", s_lay_births, "lay_births", "lay_births", [], []⟩
abbrev s_redo_version : Stmt := top 106
def d_redo_version : DX := ⟨.g "redo_version", s_redo_version, "redo_version", "redo_version", [], []⟩
abbrev s_make_version : Stmt := top 107
def d_make_version : DX := ⟨.g "make_version", s_make_version, "make_version", "make_version", [], []⟩
abbrev s_longest_table : Stmt := top 120
def d_longest_table : DX := ⟨.g "longest_table", s_longest_table, "longest_table", "longest_table", [], []⟩
abbrev s_paired : Stmt := top 122
def d_paired : DX := ⟨.g "paired", s_paired, "paired", "paired", [], []⟩
abbrev s_check_texts : Stmt := top 124
def d_check_texts : DX := ⟨.g "check_texts", s_check_texts, "check_texts", "check_texts", [], []⟩
abbrev s_State_init : Stmt := inClass (top 35) 0
def d_State_init : DX := ⟨.m "State" "__init__", s_State_init, "__init__", "State.__init__", [], []⟩
abbrev s_State_twin : Stmt := inClass (top 35) 1
def d_State_twin : DX := ⟨.m "State" "twin", s_State_twin, "twin", "State.twin", [], []⟩
abbrev s_FileReader_init : Stmt := inClass (top 63) 0
def d_FileReader_init : DX := ⟨.m "FileReader" "__init__", s_FileReader_init, "__init__", "FileReader.__init__", [], []⟩
abbrev s_FileReader_demand : Stmt := inClass (top 63) 1
def d_FileReader_demand : DX := ⟨.m "FileReader" "demand", s_FileReader_demand, "demand", "FileReader.demand", [], []⟩
abbrev s_FileReader_next_row : Stmt := inClass (top 63) 2
def d_FileReader_next_row : DX := ⟨.m "FileReader" "next_row", s_FileReader_next_row, "next_row", "FileReader.next_row", [], []⟩
abbrev s_FileReader_read_file : Stmt := inClass (top 63) 3
def d_FileReader_read_file : DX := ⟨.m "FileReader" "read_file", s_FileReader_read_file, "read_file", "FileReader.read_file", [], []⟩
abbrev s_FileReader_read_all : Stmt := inClass (top 63) 4
def d_FileReader_read_all : DX := ⟨.m "FileReader" "read_all", s_FileReader_read_all, "read_all", "FileReader.read_all", [], []⟩
abbrev s_Disk_init : Stmt := inClass (top 95) 0
def d_Disk_init : DX := ⟨.m "Disk" "__init__", s_Disk_init, "__init__", "Disk.__init__", [.str "done 0\n"], []⟩
abbrev s_Work_init : Stmt := inClass (top 125) 0
def d_Work_init : DX := ⟨.m "Work" "__init__", s_Work_init, "__init__", "Work.__init__", [], []⟩
abbrev s_Work_begin : Stmt := inClass (top 125) 1
def d_Work_begin : DX := ⟨.m "Work" "begin", s_Work_begin, "begin", "Work.begin", [], []⟩
abbrev s_Work_have : Stmt := inClass (top 125) 2
def d_Work_have : DX := ⟨.m "Work" "have", s_Work_have, "have", "Work.have", [], []⟩
abbrev s_Work_listing : Stmt := inClass (top 125) 3
def d_Work_listing : DX := ⟨.p "Work" "listing", s_Work_listing, "listing", "Work.listing", [], []⟩
abbrev s_Work_lay : Stmt := inClass (top 125) 9
def d_Work_lay : DX := ⟨.m "Work" "lay", s_Work_lay, "lay", "Work.lay", [], []⟩
abbrev s_Work_new_line : Stmt := inClass (top 125) 10
def d_Work_new_line : DX := ⟨.m "Work" "new_line", s_Work_new_line, "new_line", "Work.new_line", [], []⟩
abbrev s_Work_write : Stmt := inClass (top 125) 11
def d_Work_write : DX := ⟨.m "Work" "write", s_Work_write, "write", "Work.write", [], []⟩
abbrev s_Work_kept_line : Stmt := inClass (top 125) 16
def d_Work_kept_line : DX := ⟨.m "Work" "kept_line", s_Work_kept_line, "kept_line", "Work.kept_line", [], []⟩
abbrev s_Work_renew : Stmt := inClass (top 125) 17
def d_Work_renew : DX := ⟨.m "Work" "renew", s_Work_renew, "renew", "Work.renew", [], []⟩
abbrev s_Work_check_trial : Stmt := inClass (top 125) 18
def d_Work_check_trial : DX := ⟨.m "Work" "check_trial", s_Work_check_trial, "check_trial", "Work.check_trial", [], []⟩
abbrev s_Work_commit : Stmt := inClass (top 125) 19
def d_Work_commit : DX := ⟨.m "Work" "commit", s_Work_commit, "commit", "Work.commit", [], []⟩
abbrev s_Store_init : Stmt := inClass (top 127) 0
def d_Store_init : DX := ⟨.m "Store" "__init__", s_Store_init, "__init__", "Store.__init__", [], []⟩
abbrev s_Store_finish : Stmt := inClass (top 127) 1
def d_Store_finish : DX := ⟨.m "Store" "finish", s_Store_finish, "finish", "Store.finish", [], []⟩
abbrev s_Store_trial_number : Stmt := inClass (top 127) 2
def d_Store_trial_number : DX := ⟨.p "Store" "trial_number", s_Store_trial_number, "trial_number", "Store.trial_number", [], []⟩
abbrev s_Store_work : Stmt := inClass (top 127) 29
def d_Store_work : DX := ⟨.m "Store" "work", s_Store_work, "work", "Store.work", [], []⟩
abbrev s_Store_show : Stmt := inClass (top 127) 52
def d_Store_show : DX := ⟨.m "Store" "show", s_Store_show, "show", "Store.show", [], []⟩
abbrev s_law_pot : Stmt := top 129
def d_law_pot : DX := ⟨.g "_law_pot", s_law_pot, "_law_pot", "_law_pot", [], []⟩
abbrev s_law_draw : Stmt := top 130
def d_law_draw : DX := ⟨.g "_law_draw", s_law_draw, "_law_draw", "_law_draw", [], []⟩
abbrev s_law_any : Stmt := top 131
def d_law_any : DX := ⟨.g "_law_any", s_law_any, "_law_any", "_law_any", [], []⟩
abbrev s_law_names : Stmt := top 132
def d_law_names : DX := ⟨.g "_law_names", s_law_names, "_law_names", "_law_names", [], []⟩
abbrev s_law_text : Stmt := top 133
def d_law_text : DX := ⟨.g "_law_text", s_law_text, "_law_text", "_law_text", [], []⟩
abbrev s_law_drawn : Stmt := top 134
def d_law_drawn : DX := ⟨.g "_law_drawn", s_law_drawn, "_law_drawn", "_law_drawn", [], []⟩
abbrev s_law_written : Stmt := top 135
def d_law_written : DX := ⟨.g "_law_written", s_law_written, "_law_written", "_law_written", [], []⟩
abbrev s_law_head : Stmt := top 136
def d_law_head : DX := ⟨.g "_law_head", s_law_head, "_law_head", "_law_head", [], []⟩
abbrev s_law_is_text : Stmt := top 137
def d_law_is_text : DX := ⟨.g "_law_is_text", s_law_is_text, "_law_is_text", "_law_is_text", [], []⟩
abbrev s_law_due : Stmt := top 138
def d_law_due : DX := ⟨.g "_law_due", s_law_due, "_law_due", "_law_due", [], []⟩
abbrev s_law_heard : Stmt := top 139
def d_law_heard : DX := ⟨.g "_law_heard", s_law_heard, "_law_heard", "_law_heard", [], []⟩
abbrev s_law_is_right : Stmt := top 140
def d_law_is_right : DX := ⟨.g "_law_is_right", s_law_is_right, "_law_is_right", "_law_is_right", [], []⟩
abbrev s_law_spoilt : Stmt := top 141
def d_law_spoilt : DX := ⟨.g "_law_spoilt", s_law_spoilt, "_law_spoilt", "_law_spoilt", [], []⟩
abbrev s_law_value : Stmt := top 142
def d_law_value : DX := ⟨.g "_law_value", s_law_value, "_law_value", "_law_value", [], []⟩
abbrev s_law_refused : Stmt := top 143
def d_law_refused : DX := ⟨.g "_law_refused", s_law_refused, "_law_refused", "_law_refused", [], []⟩
abbrev s_law_shown_right : Stmt := top 144
def d_law_shown_right : DX := ⟨.g "_law_shown_right", s_law_shown_right, "_law_shown_right", "_law_shown_right", [], []⟩
abbrev s_law_right : Stmt := top 145
def d_law_right : DX := ⟨.g "_law_right", s_law_right, "_law_right", "_law_right", [], []⟩
abbrev s_law : Stmt := top 146
def d_law : DX := ⟨.g "law", s_law, "law", "law", [], []⟩
abbrev s_NoBranch_init : Stmt := inClass (top 6) 0
def d_NoBranch_init : DX := ⟨.m "NoBranch" "__init__", s_NoBranch_init, "__init__", "NoBranch.__init__", [], ["__class__"]⟩
abbrev s_NoVersion_init : Stmt := inClass (top 5) 0
def d_NoVersion_init : DX := ⟨.m "NoVersion" "__init__", s_NoVersion_init, "__init__", "NoVersion.__init__", [], ["__class__"]⟩
abbrev s_BadFiles_init : Stmt := inClass (top 13) 0
def d_BadFiles_init : DX := ⟨.m "BadFiles" "__init__", s_BadFiles_init, "__init__", "BadFiles.__init__", [], ["__class__"]⟩
def fn0 : List DX := [d_is_text, d_is_integer, d_is_name, d_is_line_text, d_check_line_text, d_head_of, d_known_version, d_version_at, d_parents_of, d_files_of, d_line_text, d_texts_of, d_lines_in, d_texts_there, d_next_fresh, d_show_of, d_number_in, d_head_in, d_read_files, d_new_notices, d_numbered, d_lay_births, d_redo_version, d_make_version, d_longest_table, d_paired, d_check_texts, d_State_init, d_State_twin, d_FileReader_init, d_FileReader_demand, d_FileReader_next_row, d_FileReader_read_file, d_FileReader_read_all, d_Disk_init, d_Work_init, d_Work_begin, d_Work_have, d_Work_listing, d_Work_lay]
def fn1 : List DX := [d_Work_new_line, d_Work_write, d_Work_kept_line, d_Work_renew, d_Work_check_trial, d_Work_commit, d_Store_init, d_Store_finish, d_Store_trial_number, d_Store_work, d_Store_show, d_law_pot, d_law_draw, d_law_any, d_law_names, d_law_text, d_law_drawn, d_law_written, d_law_head, d_law_is_text, d_law_due, d_law_heard, d_law_is_right, d_law_spoilt, d_law_value, d_law_refused, d_law_shown_right, d_law_right, d_law, d_NoBranch_init, d_NoVersion_init, d_BadFiles_init]
def fn : List DX := fn0 ++ (fn1)
def fa0 : List Fx := [.h (.glo "is_text"), .h (.glo "is_integer"), .h (.glo "is_name"), .h (.glo "is_line_text"), .h (.glo "check_line_text"), .h (.glo "head_of"), .h (.glo "known_version"), .h (.glo "version_at"), .h (.glo "parents_of"), .h (.glo "files_of"), .h (.glo "line_text"), .h (.glo "texts_of"), .h (.glo "lines_in"), .h (.glo "texts_there"), .h (.glo "next_fresh"), .h (.glo "show_of"), .h (.glo "number_in"), .h (.glo "head_in"), .h (.glo "read_files"), .h (.glo "new_notices"), .h (.glo "numbered"), .h (.glo "lay_births"), .h (.glo "redo_version"), .h (.glo "make_version"), .h (.glo "longest_table"), .h (.glo "paired"), .h (.glo "check_texts"), .h (.mkr "State"), .h (.meth "State" "twin"), .h (.mkr "FileReader"), .h (.meth "FileReader" "demand"), .h (.meth "FileReader" "next_row"), .h (.meth "FileReader" "read_file"), .h (.meth "FileReader" "read_all"), .h (.mkr "Disk"), .h (.mkr "Work"), .h (.meth "Work" "begin"), .h (.meth "Work" "have"), .prop "Work" "listing", .h (.meth "Work" "lay")]
def fa1 : List Fx := [.h (.meth "Work" "new_line"), .h (.meth "Work" "write"), .h (.meth "Work" "kept_line"), .h (.meth "Work" "renew"), .h (.meth "Work" "check_trial"), .h (.meth "Work" "commit"), .h (.mkr "Store"), .h (.meth "Store" "finish"), .prop "Store" "trial_number", .h (.meth "Store" "work"), .h (.meth "Store" "show"), .h (.glo "_law_pot"), .h (.glo "_law_draw"), .h (.glo "_law_any"), .h (.glo "_law_names"), .h (.glo "_law_text"), .h (.glo "_law_drawn"), .h (.glo "_law_written"), .h (.glo "_law_head"), .h (.glo "_law_is_text"), .h (.glo "_law_due"), .h (.glo "_law_heard"), .h (.glo "_law_is_right"), .h (.glo "_law_spoilt"), .h (.glo "_law_value"), .h (.glo "_law_refused"), .h (.glo "_law_shown_right"), .h (.glo "_law_right"), .h (.glo "law"), .h (.glo "State"), .h (.cls "State"), .h (.noat "State" "line_book"), .h (.noat "State" "line_count"), .h (.noat "State" "file_count"), .h (.noat "State" "version_book"), .h (.noat "State" "version_count"), .h (.noat "State" "head_book"), .h (.noat "State" "waiting_texts"), .h (.noat "State" "block_texts"), .h (.noat "State" "kept_book")]
def fa2 : List Fx := [.h (.noat "State" "watch_book"), .h (.noat "State" "notice_rows"), .h (.noat "State" "notice_count"), .h (.glo "FileReader"), .h (.cls "FileReader"), .h (.noat "FileReader" "all_rows"), .h (.noat "FileReader" "row_now"), .h (.noat "FileReader" "files_read"), .h (.glo "Disk"), .h (.cls "Disk"), .h (.noat "Disk" "elder_text"), .h (.noat "Disk" "groups"), .h (.glo "Work"), .h (.cls "Work"), .h (.noat "Work" "store"), .h (.noat "Work" "branch"), .h (.noat "Work" "trial_begun"), .h (.noat "Work" "start_version"), .h (.noat "Work" "first_files"), .h (.noat "Work" "files"), .h (.noat "Work" "fresh"), .h (.noat "Work" "line_texts"), .h (.glo "Store"), .h (.cls "Store"), .h (.noat "Store" "disk"), .h (.noat "Store" "inside"), .h (.noat "Store" "depth"), .h (.noat "Store" "trials_begun"), .h (.noat "Store" "state"), .h (.free "isinstance"), .h (.free "len"), .h (.free "all"), .h (.free "range"), .h (.free "sorted"), .h (.free "tuple"), .h (.free "list"), .h (.free "dict"), .h (.free "int"), .h (.free "str"), .h (.free "max")]
def fa3 : List Fx := [.h (.free "min"), .h (.free "enumerate"), .h (.free "reversed"), .h (.free "repr"), .h (.free "abs"), .h (.free "ValueError"), .h (.free "super"), .h (.free "bool"), .h (.str "LETTERS" " 0123456789_abcdefghijklmnopqrstuvwxyz"), .h (.int "FRESH" 1000000000), .h (.str "MAIN" "main"), .h (.str "SMALL" "abcdefghijklmnopqrstuvwxyz"), .h (.int "MOST_NAME" 8), .h (.int "MOST_LETTERS_state" 80), .h (.int "MOST_LINES_state" 60), .h (.int "MOST_FILES_state" 12), .h (.str "FEED_sheets" "\n"), .h (.str "BLANK_sheets" " "), .h (.str "FILE_sheets" "file"), .h (.str "DIGITS" "0123456789"), .h (.int "MOST_LINES_sheets" 60), .h (.int "MOST_FILES_sheets" 12), .h (.int "ROW_WORDS" 3), .h (.str "BEGUN" "done 0\n"), .h (.glo "NoBranch"), .oex "NoBranch", .xf "NoBranch", .h (.glo "NoVersion"), .oex "NoVersion", .xf "NoVersion", .h (.glo "BadFiles"), .oex "BadFiles", .xf "BadFiles", .mods, .ini "NoBranch" "value" "/claim/cut.py", .ek "NoBranch", .ini "NoVersion" "value" "/claim/cut.py", .ek "NoVersion", .ini "BadFiles" "row" "/claim/cut.py", .ek "BadFiles"]
def fa4 : List Fx := [.kit "BadFiles" "BadFiles" true, .kit "BadFiles" "BadLine" false, .kit "NoBranch" "NoBranch" true, .kit "NoBranch" "NoVersion" false, .kit "NoVersion" "NoBranch" false, .kit "NoVersion" "NoVersion" true, .kitT "BadFiles" "ValueError" true, .h (.exm "NoBranch" "SiftError" true), .h (.exm "NoVersion" "SiftError" true), .h (.exm "BadFiles" "SiftError" true), .h (.glo "SiftError"), .h (.glo "BadLine")]
def fa : List Fx := fa0 ++ (fa1 ++ (fa2 ++ (fa3 ++ (fa4))))
def loose0 : List Str := ["_wall", "__name__", "SiftError", "BadText", "NoLine", "NoVersion", "NoBranch", "NoFile", "NoWatch", "BadName", "BadLine", "BadPlace", "BadCount", "BadFiles", "InUse", "Stale", "TooLong", "TooMany", "NothingToDo", "LETTERS", "BEGIN", "END", "is_text", "check_text", "pairs_in", "pairs_of_all", "FRESH", "MAIN", "SMALL", "MOST_NAME"]
def loose1 : List Str := ["MOST_LETTERS_state", "MOST_LINES_state", "MOST_FILES_state", "State", "is_integer", "is_name", "is_line_text", "check_line_text", "head_of", "known_version", "version_at", "parents_of", "files_of", "file_named", "known_line", "line_text", "texts_of", "lines_in", "texts_there", "next_fresh", "FEED_sheets", "BLANK_sheets", "FILE_sheets", "DIGITS", "MOST_LINES_sheets", "MOST_FILES_sheets", "ROW_WORDS", "show_of", "number_in", "head_in"]
def loose2 : List Str := ["FileReader", "read_files", "TakenLines", "check_block", "pairs_at", "held_versions", "birth_versions", "checked_versions", "standing_lines", "sweep_texts", "forget_of", "FEED_journal", "BLANK_journal", "NOTHING", "DONE", "BEGUN", "VERSION", "FILE_journal", "LINE", "FORGET", "GREATEST", "word_of_part", "row_of", "rows_of", "many_done", "flat", "whole_groups", "whole_text", "Disk", "kept_rows"]
def loose3 : List Str := ["check_watch", "check_count", "new_notices", "notices_of", "numbered", "lay_births", "redo_version", "make_version", "MOST_LETTERS_plans", "named_lines", "changed_text", "planned_rows", "Plan", "plan_of", "MOST_TRIALS", "many_deeds", "Trial", "longest_table", "next_pair", "paired", "check_texts", "Work", "Store", "_law_pot", "_law_draw", "_law_any", "_law_names", "_law_text", "_law_drawn", "_law_written"]
def loose4 : List Str := ["_law_head", "_law_is_text", "_law_due", "_law_heard", "_law_is_right", "_law_spoilt", "_law_value", "_law_refused", "_law_shown_right", "_law_right"]
def loose : List Str := loose0 ++ (loose1 ++ (loose2 ++ (loose3 ++ (loose4))))
def as_ : List Addr := [1, 2, 3, 6, 4, 21, 31, 53, 74, 95, 116, 137, 158, 179, 200, 221, 242, 263, 284, 305, 326, 347, 368, 375, 382, 387, 394, 418, 429, 434, 441, 448, 455, 462, 469, 476, 483, 490, 497, 504, 509, 516, 521, 526, 531, 536, 543, 588, 599, 633, 645, 652, 659, 664, 669, 676, 681, 686, 693, 698, 705, 710, 717, 722, 727, 768, 777, 784, 791, 798, 805, 810, 817, 822, 829, 834, 841, 848, 879, 890, 895, 941, 950, 957, 964, 971, 1119, 1519, 1530, 1537, 1544, 1549, 1554, 1559, 1566, 1571, 1576, 1581, 1588, 1595, 1602, 1609, 1616, 1623, 1628, 1635, 20, 30, 52, 73, 94, 115, 136, 157, 178, 199, 220, 241, 262, 283, 304, 325, 346, 367, 374, 381, 386, 393, 417, 428, 433, 440, 447, 454, 461, 468, 475, 482, 489, 496, 503, 508, 515, 520, 525, 530, 535, 542, 587, 598, 632, 644, 638, 651, 658, 663, 668, 675, 680, 685, 692, 697, 704, 709, 716, 721, 726, 767, 776, 783, 790, 797, 804, 809, 816, 821, 828, 833, 840, 847, 878, 889, 894, 940, 949, 956, 963, 970, 1118, 1518, 1529, 1536, 1543, 1548, 1553, 1558, 1565, 1570, 1575, 1580, 1587, 1594, 1601, 1608, 1615, 1622, 1627, 1634, 29, 32, 50, 51, 71, 72, 92, 93, 113, 114, 134, 135, 155, 156, 176, 177, 197, 198, 218, 219, 239, 240, 260, 261, 281, 282, 302, 303, 323, 324, 344, 345, 365, 366, 408, 415, 416, 419, 420, 557, 564, 571, 578, 585, 586, 589, 590, 613, 620, 625, 630, 631, 634, 635, 742, 750, 758, 765, 766, 769, 770, 862, 869, 876, 877, 880, 881, 909, 917, 924, 931, 938, 939, 942, 943, 985, 992, 997, 1003, 1008, 1015, 1022, 1029, 1036, 1041, 1048, 1053, 1060, 1067, 1075, 1082, 1089, 1094, 1101, 1108, 1116, 1117, 1120, 1121, 1137, 1144, 1152, 1160, 1168, 1176, 1184, 1192, 1200, 1208, 1216, 1223, 1230, 1237, 1244, 1251, 1258, 1265, 1272, 1279, 1286, 1293, 1300, 1305, 1312, 1319, 1327, 1334, 1341, 1348, 1355, 1363, 1371, 1379, 1386, 1393, 1401, 1408, 1416, 1423, 1430, 1437, 1444, 1451, 1458, 1465, 1473, 1480, 1488, 1495, 1502, 1509, 1516, 1517, 1520, 1521, 49, 38, 70, 59, 91, 80, 112, 101, 133, 122, 154, 143, 175, 164, 196, 185, 217, 206, 238, 227, 259, 248, 280, 269, 301, 290, 322, 311, 343, 332, 364, 353, 407, 414, 556, 563, 570, 577, 584, 612, 619, 624, 629, 741, 735, 749, 757, 764, 861, 868, 875, 908, 916, 923, 930, 937, 984, 991, 996, 1002, 1007, 1014, 1021, 1028, 1035, 1040, 1047, 1052, 1059, 1066, 1074, 1068, 1081, 1088, 1093, 1100, 1107, 1115, 1109, 1136, 1143, 1151, 1159, 1167, 1175, 1183, 1191, 1199, 1207, 1215, 1222, 1229, 1236, 1243, 1250, 1257, 1264, 1271, 1278, 1285, 1292, 1299, 1304, 1311, 1318, 1326, 1320, 1333, 1340, 1347, 1354, 1362, 1356, 1370, 1364, 1378, 1372, 1385, 1392, 1400, 1394, 1407, 1415, 1409, 1422, 1429, 1436, 1443, 1450, 1457, 1464, 1472, 1466, 1479, 1487, 1481, 1494, 1501, 1508, 1515, 748, 756, 915, 1001, 1150, 1158, 1166, 1174, 1182, 1190, 1198, 1206, 1214]
end Sk
set_option maxHeartbeats 0
/-! the top's run, looked at in parts -/
namespace Sk
open PySem PySem.W PySem.Calls PyProof.Rows HandSHeadRun
open PySem.W (CodeHd tabObj codeHdIn)
/-- the code object's address of the function object at a -/
def codeAd (K : PySem.W.Frag) (a : Addr) : Addr := match K.lookup a with
  | some ⟨_, _, .func fd, _⟩ => (match fd.code with
    | .ref c => c
    | _ => 0)
  | _ => 0
/-- the table of the code object of the def at a -/
def tabAd (K : PySem.W.Frag) (a : Addr) : Addr := match K.lookup (codeAd K a) with
  | some ⟨_, _, .fields vs, _⟩ => (match (vs[11]? : Option Value) with
    | some (.ref T) => T
    | _ => 0)
  | _ => 0
def emptyTab (o : Option Obj) : Bool := match o with
  | some ⟨.none, none, .fields vs, sl⟩ => vs.isEmpty && sl.isEmpty
  | _ => false
def tabB (K : PySem.W.Frag) (g : Addr → Option Obj) (a : Addr) : Bool := codeHdIn K (codeAd K a) (tabAd K a) && (emptyTab (g (tabAd K a)) && (K.lookup (tabAd K a)).isNone)
abbrev RR : OpenRow := OpenLaw.row PySem.Challenge.rw_siftstore_k93_texts_of_files
abbrev viewQ : Program := view RR.prog [146]
theorem run1 (w : World) (os : OsState) : (endF (stepQ (denQ tabQ) RR.prog w) 12600 RR.prog w os).map (fun s => looksF RR.prog (boot_heap w.params) s.abs) = some true := by kernel_rfl
theorem run2 (w : World) (os : OsState) : (endF (stepQ (denQ tabQ) RR.prog w) 12600 RR.prog w os).map (fun s => HandSHeadRun.seenQ viewQ loose (importedModules RR.prog.main.body) (fun s => xlAt viewQ [] s && recOk RR.toRowW.records s) s.abs) = some (openGood viewQ loose) := by kernel_rfl
theorem run3a1 (w : World) (os : OsState) : (endF (stepQ (denQ tabQ) RR.prog w) 12600 RR.prog w os).map (fun s => (fa0 ++ fa1).all fun f => f.ok (He.frG (getT s) as_)) = some true := by kernel_rfl
theorem run3a2 (w : World) (os : OsState) : (endF (stepQ (denQ tabQ) RR.prog w) 12600 RR.prog w os).map (fun s => (fa2 ++ (fa3 ++ fa4)).all fun f => f.ok (He.frG (getT s) as_)) = some true := by kernel_rfl
theorem run3b1 (w : World) (os : OsState) : (endF (stepQ (denQ tabQ) RR.prog w) 12600 RR.prog w os).map (fun s => fn0.all fun d => d.ok (He.frG (getT s) as_)) = some true := by kernel_rfl
theorem run3b2 (w : World) (os : OsState) : (endF (stepQ (denQ tabQ) RR.prog w) 12600 RR.prog w os).map (fun s => fn1.all fun d => d.ok (He.frG (getT s) as_)) = some true := by kernel_rfl
theorem run3c (w : World) (os : OsState) : (endF (stepQ (denQ tabQ) RR.prog w) 12600 RR.prog w os).map (fun s => Sk.fn.map fun d => fnA (He.frG (getT s) as_) (pAd (He.frG (getT s) as_) d.at_)) = some (Sk.fn.map DX.val) := by kernel_rfl
theorem run3d (w : World) (os : OsState) : (endF (stepQ (denQ tabQ) RR.prog w) 12600 RR.prog w os).map (fun s => tabB (He.frG (getT s) as_) (getT s) (pAd (He.frG (getT s) as_) d_law_shown_right.at_)) = some true := by kernel_rfl
end Sk
set_option maxHeartbeats 4000000
/-! SkBase: short words over the hand layer: a def by its datum, its calls, heaps. -/
namespace Sk
open PySem PySem.Spec PyProof.Rows L2
/-- a def keeps a promise: at level k, bound by position, ds the defaults that fill up -/
structure Def (P : Program) (w : World) (K : PySem.W.Frag) (mg : Str → Option Value) (base : Heap) (k : Nat) (d : DX) (ps : List Str) (sp : Sp) : Prop where
  ex : ∃ fd, FnOk P w K mg base (L2.CX P w) k (pAd K d.at_) fd ps sp ∧ Binds K fd ps []
  kp : PySem.W.keepIn K (.ref (pAd K d.at_)) = true
section
variable {P : Program} {w : World} {K : PySem.W.Frag} {mg : Str → Option Value} {base : Heap} {d : DX} {N ps : List Str} {k : Nat} {sp : Sp}
theorem Def.mono (D : Def P w K mg base k d ps sp) {j : Nat} (h : k ≤ j) : Def P w K mg base j d ps sp := by
  obtain ⟨fd, F, b⟩ := D.ex
  exact ⟨⟨fd, F.mono h, b⟩, D.kp⟩
theorem Def.imp (D : Def P w K mg base k d ps sp) {sp' : Sp} (h : ∀ vs H Q E, sp' vs H Q E → sp vs H Q E) : Def P w K mg base k d ps sp' := by
  obtain ⟨fd, F, b⟩ := D.ex
  exact ⟨⟨fd, F.imp h, b⟩, D.kp⟩
/-- a def that lets nothing out -/
theorem mk_def (F : ∃ fd, FnX K d fd) (hd : d.dfl = []) (S : FnScope N ps (defScope d.st)) (len : ∀ vs H Q E, sp vs H Q E → vs.length = ps.length)
    (hb : ∀ (kV doc pm : Value) (an : Option Addr) (cdv ct : Value) (us : List Value), us.length = ps.length → bindArgs (PySem.W.fnOf d.nm d.qual (defArgs d.st) (defBody d.st) (defScope d.st) .none kV doc pm an cdv ct) ⟨us, []⟩ = pure (ps.zip us))
    (hbody : ∀ (cdv : Value) (A : Around) (outer : List Env) (s : Shared) (H : Hp) (vs : List V) (Q : VK) (E : XK), Room k (A.deeper (envOfC d.qual (defScope d.st) s.heap.objs.size (pAd K d.at_) cdv)) → sp vs H Q E →
      ∃ t, PSs (cxOf (L2.CX P w) P w K mg base N d.qual (defScope d.st) (pAd K d.at_) cdv A outer s H E).nox (defBody d.st) t ∧ t { nx := fun _ H' => Q .non H', rt := Q } (start N vs) H) : Def P w K mg base (k + 1) d ps sp := by
  obtain ⟨fd, F⟩ := F
  have F' : FunD K d.nm d.qual (defArgs d.st) (defBody d.st) (defScope d.st) [] [] (pAd K d.at_) fd := by
    have z := F
    unfold FnX DX.dvs at z
    rw [hd] at z
    exact z
  refine ⟨⟨fd, F.ok S len fun cdv A outer s H vs Q E hr hs => ?_, F'.bindsN hb⟩, F.kp⟩
  obtain ⟨t, h1, h2⟩ := hbody cdv A outer s H vs Q E hr hs
  exact ⟨t, h1.nox, h2⟩
/-- a def that may raise -/
theorem mk_defX (F : ∃ fd, FnX K d fd) (hd : d.dfl = []) (S : FnScope N ps (defScope d.st)) (len : ∀ vs H Q E, sp vs H Q E → vs.length = ps.length)
    (hb : ∀ (kV doc pm : Value) (an : Option Addr) (cdv ct : Value) (us : List Value), us.length = ps.length → bindArgs (PySem.W.fnOf d.nm d.qual (defArgs d.st) (defBody d.st) (defScope d.st) .none kV doc pm an cdv ct) ⟨us, []⟩ = pure (ps.zip us))
    (hbody : ∀ (cdv : Value) (A : Around) (outer : List Env) (s : Shared) (H : Hp) (vs : List V) (Q : VK) (E : XK), Room k (A.deeper (envOfC d.qual (defScope d.st) s.heap.objs.size (pAd K d.at_) cdv)) → sp vs H Q E →
      ∃ t, PSs (cxOf (L2.CX P w) P w K mg base N d.qual (defScope d.st) (pAd K d.at_) cdv A outer s H E) (defBody d.st) t ∧ t { nx := fun _ H' => Q .non H', rt := Q } (start N vs) H) : Def P w K mg base (k + 1) d ps sp := by
  obtain ⟨fd, F⟩ := F
  have F' : FunD K d.nm d.qual (defArgs d.st) (defBody d.st) (defScope d.st) [] [] (pAd K d.at_) fd := by
    have z := F
    unfold FnX DX.dvs at z
    rw [hd] at z
    exact z
  exact ⟨⟨fd, F.ok S len hbody, F'.bindsN hb⟩, F.kp⟩
end
section
variable {X : Cx} {d : DX} {ps : List Str} {k : Nat} {sp : Sp} {x : Str} {p pos apos : Pos} {o e : Expr} {es : List Expr} {t : TA} {ta : TE} {E : XK} {C f : Addr} {m : Str}
/-- f(e, ..) -/
theorem pcall (D : Def X.prog X.w X.K X.mg X.base k d ps sp) (hr : Room k X.A) (hg : Gl X x) (hm : X.mg x = some (.ref (pAd X.K d.at_))) (hx : Passes (L2.CX X.prog X.w) X E) (ha : PA X (e :: es) t) (hdb : (x == ("__debug__" : Str)) = false := by decide)
    (he : starEach (e :: es) X.env = (false, eval e X.env) :: starEach es X.env := by rfl) (hpl : (backTo pos (starEach es X.env)).any (·.1) = false := by rfl) :
    PE X (.Call (.Name x p) (e :: es) [] pos) (tCall sp [] E t) := by
  obtain ⟨fd, F, b⟩ := D.ex
  exact pe_call F hr hg hm D.kp b .nil hx ha hdb he hpl
/-- o.m(e, ..) -/
theorem pmeth {pl : Sem Bool} (he : PE X o ta) (c : Cls X.K C) (hm : Meth X.K C m f) (D : Def X.prog X.w X.K X.mg X.base k d ps sp) (ef : pAd X.K d.at_ = f) (hr : Room k X.A) (hx : Passes (L2.CX X.prog X.w) X E) (ha : PA X (e :: es) t)
    (hst : starEach (e :: es) X.env = (false, eval e X.env) :: starEach es X.env := by rfl) (hpl : (backTo pos (starEach es X.env)).any (·.1) = false := by rfl)
    (ht : eval (.Call (.Attribute o m apos) (e :: es) [] pos) X.env = (do
      let ov ← eval o X.env
      standAt apos.atName
      let (f, first) ← holding [ov] (getMethod ov m pl)
      callWith pos f first (backTo pos (starEach (e :: es) X.env)) (backToKw pos (keywordEach [] X.env))) := by rfl) :
    PE X (.Call (.Attribute o m apos) (e :: es) [] pos) (tMeth C m sp [] E ta t) := by
  subst ef
  obtain ⟨fd, F, b⟩ := D.ex
  exact pe_meth he c hm F hr b .nil hx ha hst hpl ht
/-- o.m() -/
theorem pmeth0 {pl : Sem Bool} (he : PE X o ta) (c : Cls X.K C) (hm : Meth X.K C m f) (D : Def X.prog X.w X.K X.mg X.base k d ps sp) (ef : pAd X.K d.at_ = f) (hr : Room k X.A) (hx : Passes (L2.CX X.prog X.w) X E)
    (ht : eval (.Call (.Attribute o m apos) [] [] pos) X.env = (do
      let ov ← eval o X.env
      standAt apos.atName
      let (f, first) ← holding [ov] (getMethod ov m pl)
      callWith pos f first (backTo pos (starEach [] X.env)) (backToKw pos (keywordEach [] X.env))) := by rfl) :
    PE X (.Call (.Attribute o m apos) [] [] pos) (tMeth C m sp [] E ta tNil) := by
  subst ef
  obtain ⟨fd, F, b⟩ := D.ex
  exact pe_meth0 he c hm F hr b .nil hx ht
/-- C(e, ..) -/
theorem pmake (M : Mk X.K C f) (D : Def X.prog X.w X.K X.mg X.base k d ps sp) (ef : pAd X.K d.at_ = f) (hr : Room (k + 1) X.A) (hg : Gl X x) (hm : X.mg x = some (.ref C)) (hx : Passes (L2.CX X.prog X.w) X E)
    (ha : PA X (e :: es) t) (hdb : (x == ("__debug__" : Str)) = false := by decide) (he : starEach (e :: es) X.env = (false, eval e X.env) :: starEach es X.env := by rfl) (hpl : (backTo pos (starEach es X.env)).any (·.1) = false := by rfl) :
    PE X (.Call (.Name x p) (e :: es) [] pos) (tMake C sp [] E t) := by
  subst ef
  obtain ⟨fd, F, b⟩ := D.ex
  exact pe_make M F hr hg hm b .nil hx ha hdb he hpl
/-- C() -/
theorem pmake0 (M : Mk X.K C f) (D : Def X.prog X.w X.K X.mg X.base k d ps sp) (ef : pAd X.K d.at_ = f) (hr : Room (k + 1) X.A) (hg : Gl X x) (hm : X.mg x = some (.ref C)) (hx : Passes (L2.CX X.prog X.w) X E)
    (hdb : (x == ("__debug__" : Str)) = false := by decide) : PE X (.Call (.Name x p) [] [] pos) (tMake C sp [] E tNil) := by
  subst ef
  obtain ⟨fd, F, b⟩ := D.ex
  exact pe_make0 M F hr hg hm b .nil hx hdb
/-- o.f, a property -/
theorem pprop {pr : Addr} (he : PE X o ta) (c : Cls X.K C) (hp : PropOf X.K C m pr f) (D : Def X.prog X.w X.K X.mg X.base k d ps sp) (ef : pAd X.K d.at_ = f) (hr : Room (k + 1) X.A) (hx : Passes (L2.CX X.prog X.w) X.nox E)
    (hab : attributeBase o m X.env (eval o X.env) = eval o X.env := by rfl) : PE X (.Attribute o m pos) (tProp C sp [] E ta) := by
  subst ef
  obtain ⟨fd, F, b⟩ := D.ex
  exact pe_prop he c hp F hr b .nil hx hab
/-- a module's whole number, text -/
theorem pgi {i : Int} (hm : ∃ tk, X.mg x = some (.int i tk)) (hg : Gl X x := by rfl) (hd : (x == ("__debug__" : Str)) = false := by decide) : PE X (.Name x pos) (tC (.int i)) := by
  obtain ⟨tk, h⟩ := hm
  exact pe_glob hg h ⟨tk, rfl⟩ hd
theorem pgs {z : Str} (hm : ∃ tk, X.mg x = some (.str z tk)) (hg : Gl X x := by rfl) (hd : (x == ("__debug__" : Str)) = false := by decide) : PE X (.Name x pos) (tC (.str z)) := by
  obtain ⟨tk, h⟩ := hm
  exact pe_glob hg h ⟨tk, rfl⟩ hd
end
/-! ### comprehensions over a text -/
theorem wipe1 {σ : L2.St} {j : Nat} {v : Option V} : wipe ((wipe σ [j]).set j v) [j] = wipe σ [j] := by
  simp [wipe, List.set_set]
/-- all([TEST for c in s]): reading -/
theorem all_str {K : PySem.W.Frag} {ts te : TE} {j : Nat} {σ : L2.St} {H : Hp} {Q : VK} {x : Str} (p : Nat → Bool)
    (hs : ∀ R : VK, R (.str x) H → ts σ H R) (hz : x.length < sizeLine)
    (he : ∀ (c : Nat) (H' : Hp) (R : VK), c ∈ x.cps.toList → R (.bl (p c)) H' → te ((wipe σ [j]).set j (some (.str ⟨#[c]⟩))) H' R)
    (hq : ∀ H', Same H H' → Q (.bl (x.cps.toList.all p)) H') : tCB (rAll K) (tCons (tLc (iStr ts) (gName j) tYes te [j]) tNil) σ H Q := by
  refine hs _ ⟨x, rfl, fun D hD => ?_⟩
  have hlen : x.cps.toList.length = x.cps.size := by simp
  refine lc_it (walk_str (z := x)) (fun i H' => Same H H' ∧ H' D = some (.lst ((x.cps.toList.take i).map fun c => V.bl (p c)))) ?_ (fun _ _ _ _ => trivial) (fun i v H1 H2 hi hp hy => ?_) (fun H' hp => ?_)
  · refine ⟨fun b o e => ?_, upd_same⟩
    rw [upd_ne (ne_of_none e hD)]
    exact e
  · obtain ⟨rfl, c, hc, rfl⟩ := hy
    obtain ⟨hS, hl⟩ := hp
    have hcm : x.cps.toList[i]? = some c := by simpa using hc
    refine ⟨wipe1, ?_⟩
    refine he c H2 _ (List.mem_of_getElem? hcm) ⟨_, hl, ?_, fun b o e => ?_, ?_⟩
    · have h1 := List.length_take_le i x.cps.toList
      rw [List.length_map]
      have h2 : x.length = x.cps.size := rfl
      omega
    · rw [upd_ne (ne_of_none e hD)]
      exact hS b o e
    · rw [upd_same, List.take_add_one, hcm]
      simp
  · obtain ⟨hS, hl⟩ := hp
    refine ⟨D, x.cps.toList.map p, rfl, .inl (.inl ?_), ?_⟩
    · rw [hl, ← hlen, List.take_length, List.map_map]
      rfl
    · have e : (x.cps.toList.map p).all id = x.cps.toList.all p := by simp [List.all_map]
      rw [e]
      exact hq H' hS
/-! ### tests whose answer is a decision -/
theorem itd {p A B : Prop} [Decidable p] (h1 : p → A) (h2 : ¬ p → B) : if decide p = true then A else B := by
  by_cases h : p
  · rw [if_pos (decide_eq_true h)]
    exact h1 h
  · rw [if_neg (by rw [decide_eq_false h]; decide)]
    exact h2 h
theorem itn {p A B : Prop} [Decidable p] (h1 : p → B) (h2 : ¬ p → A) : if (!decide p) = true then A else B := by
  by_cases h : p
  · rw [if_neg (by rw [decide_eq_true h]; decide)]
    exact h1 h
  · rw [if_pos (by rw [decide_eq_false h]; decide)]
    exact h2 h
theorem itb {b : Bool} {A B : Prop} (h1 : b = true → A) (h2 : b = false → B) : if b = true then A else B := by
  cases b with
  | true => exact h1 rfl
  | false => exact h2 rfl
theorem itnb {b : Bool} {A B : Prop} (h1 : b = true → B) (h2 : b = false → A) : if (!b) = true then A else B := by
  cases b with
  | true => exact h1 rfl
  | false => exact h2 rfl
theorem qb {Q : VK} {H : Hp} {b c : Bool} (h : Q (.bl b) H) (e : b = c) : Q (.bl c) H := by
  rw [← e]
  exact h
theorem qv {Q : VK} {H : Hp} {v u : V} (h : Q v H) (e : v = u) : Q u H := by
  rw [← e]
  exact h
/-! ### a statement at a time -/
theorem ret_ {te : TE} {D : Ends} {σ : L2.St} {H : Hp} (h : te σ H D.rt) : tRet te D σ H := h
theorem nxt_ {nx bk ct : L2.St → Hp → Prop} {rt : VK} {σ : L2.St} {H : Hp} (h : nx σ H) : tNext { nx := nx, rt := rt, bk := bk, ct := ct } σ H := h
theorem set_ {i : Nat} {v : V} {nx bk ct : L2.St → Hp → Prop} {rt : VK} {σ : L2.St} {H : Hp} (h : nx (σ.set i (some v)) H) : gName i v σ H (Ends.mk nx rt bk ct).nx := h
end Sk
/-! SkRules: rules that the layer lacks. -/
namespace Sk
open PySem PySem.Spec PyProof.Rows L2
section
variable {X : Cx}
/-! ### numbers -/
theorem op_powW : OpR X (binaryOp .Pow) (rI (fun i j => 0 ≤ j ∧ (Builtin.Int.intBits i : Int) * j ≤ 2 ^ 27) fun i j => .int (i ^ j.toNat)) :=
  opI fun _ _ _ _ _ _ _ hc q => pow_int hc.1 hc.2 q
theorem call_str_int : CallR X (.type "str") (fun xs H Q => ∃ i : Int, xs = [.int i] ∧ i.natAbs.log2 < 1920 ∧ Q (.str (Str.ofString (toString i))) H) := by
  intro pins s σ H xs us Q I r h
  obtain ⟨i, rfl, hi, q⟩ := h
  obtain ⟨u, rfl, ⟨t, rfl⟩⟩ := vals1 r
  exact PySem.P.str_of_int hi ⟨.str _, H, I.tok _, ⟨_, rfl⟩, q⟩
/-- a text some times -/
def repS (x : Str) (n : Int) : Str := ⟨(List.replicate n.toNat x.cps).foldl (· ++ ·) #[]⟩
theorem op_mul_si : OpR X (binaryOp .Mult) (fun x y H Q => ∃ z n, x = .str z ∧ y = .int n ∧ 1 < n ∧ n ≤ 1000 ∧ 0 < z.length ∧ z.length ≤ 1000 ∧ (repS z n).length ≤ sizeLine ∧ Q (.str (repS z n)) H) := by
  intro pins s σ H x y v u Q I rx ry h
  obtain ⟨z, n, rfl, rfl, h1, h2, h3, h4, h5, q⟩ := h
  obtain ⟨t, rfl⟩ := rx
  obtain ⟨t', rfl⟩ := ry
  have hne : (n == 1 || z.length == 0) = false := by
    have e1 : (n == 1) = false := beq_eq_false_iff_ne.mpr (by omega)
    have e2 : (z.length == 0) = false := beq_eq_false_iff_ne.mpr (by omega)
    rw [e1, e2]
    rfl
  refine PySem.P.mul_str ?_ (fun _ _ hgt => ?_) (fun _ _ => ?_) ?_
  · rw [decide_eq_false (by omega : ¬ n < -(2 ^ 63 : Int)), decide_eq_false (by omega : ¬ n ≥ 2 ^ 63)]
    rfl
  · have hm : (z.length : Int) * n ≤ 2 ^ 63 - 1 := by
      have : (z.length : Int) * n ≤ 1000 * 1000 := Int.mul_le_mul (by omega) h2 (by omega) (by omega)
      omega
    have := (Int.le_ediv_iff_mul_le (by omega : 0 < n)).mpr hm
    omega
  · have hm : z.length * n.toNat ≤ 1000 * 1000 := Nat.mul_le_mul h4 (by omega)
    unfold Builtin.Str.tooLong
    simp only [decide_eq_false_iff_not]
    rw [sizeLine_eq]
    omega
  · rw [if_neg (by omega), hne, if_neg Bool.false_ne_true]
    exact ⟨h5, .str _, H, I.tok _, ⟨_, rfl⟩, q⟩
/-! ### kinds of values -/
theorem pty {x : Str} {n : String} {pos : Pos} (hm : X.mg x = none) (hv : bootBuiltins x = some (.type n)) (hg : Gl X x := by rfl) (hn : x ≠ "__name__" := by decide) (hd : (x == ("__debug__" : Str)) = false := by decide) : PE X (.Name x pos) (tC (.ty n)) :=
  pe_bltn hg hm hv rfl hn hd
/-- isinstance(x, T), the answer known -/
theorem isi_is {K : PySem.W.Frag} {H : Hp} {Q : VK} {x : V} {n : String} {t : Value} (b : Bool) (ty : TyX K H x t) (e : PySem.W.kitOne K t (.type n) = some b) (q : Q (.bl b) H) : rIsi K [x, .ty n] H Q :=
  ⟨x, .ty n, t, .type n, b, rfl, .ty n, ty, e, q⟩
/-! ### o.f as one of several targets -/
def gFld (K : PySem.W.Frag) (to : TE) (f : Str) : TG := fun v σ H Q => to σ H fun x H1 => ∃ a C dx fs, x = .ref a ∧ H1 a = some (.ins C dx fs) ∧ Cls K C ∧ NoAttr K C f ∧ fs.length < 1000 ∧ Q σ (upd H1 a (.ins C dx (putF f v fs)))
theorem pg_fld {o : Expr} {f : Str} {pos : Pos} {to : TE} (ho : PE X o to)
    (ha : ∀ v, assign (.Attribute o f pos) X.env v = (do
      let ov ← holding [v] (eval o X.env)
      standAt pos.atName
      holding [v, ov] (setAttr ov f v)
      release [v, ov] []) := by intro _; rfl) : PG X (.Attribute o f pos) (gFld X.K to f) := by
  refine ⟨fun pins s σ H v u Q I r h => ?_⟩
  rw [ha]
  refine wpAny_bind (wpAny_holding (thn (ho.run pins s σ H _ I h) fun ov s1 ⟨x, H1, I1, rx, a, C, dx, fs, ex, ea, c, n, l, q⟩ => ?_))
  subst ex
  obtain rfl : ov = Value.ref a := rx
  refine wpAny_bind (wpAny_standAt (wpAny_bind (wpAny_holding (setattr_ok I1 ea c n l r fun s3 I3 => ?_))))
  exact wpAny_release ⟨σ, _, I3, q⟩
end
end Sk
/-! SkMore: rules whose promise names the frame's facts by a word of its own (for the insides of comprehensions). -/
namespace Sk
open PySem PySem.Spec PyProof.Rows L2
theorem nw {H H' : Hp} {b : Addr} {o : HO} (s : L2.Same H H') (h : H' b = none) : L2.Same H (upd H' b o) := fun q u e => by
  have z := s q u e
  rw [upd_ne (ne_of_none z h)]
  exact z
def rTupOf (K : PySem.W.Frag) : List V → Hp → VK → Prop := fun xs H Q => ∃ p ys, xs = [.ref p] ∧ ((SqL K H p ys ∧ ∀ l, H l = none → Q (.ref l) (upd H l (.tup ys))) ∨ (SqT K H p ys ∧ Q (.ref p) H))
def rLenOf (K : PySem.W.Frag) : List V → Hp → VK → Prop := fun xs H Q => ∃ p ys, xs = [.ref p] ∧ (SqL K H p ys ∨ SqT K H p ys) ∧ Q (.int ys.length) H
section
variable {X : Cx} {K : PySem.W.Frag}
theorem call_tuple_ofK (hK : X.K = K := by rfl) : CallR X (.type "tuple") (rTupOf K) := by
  subst hK
  exact call_tuple_of
theorem call_len_seqK (hK : X.K = K := by rfl) : CallR X (.builtin "len") (rLenOf K) := by
  subst hK
  exact call_len_seq
theorem ix_listK (hK : X.K = K := by rfl) : IxR X (rIxL K) := by
  subst hK
  exact ix_list
theorem ix_tupK (hK : X.K = K := by rfl) : IxR X (rIxT K) := by
  subst hK
  exact ix_tup
theorem pi_listK {tg l : Expr} {tl : TE} (hl : PE X l tl) (hK : X.K = K := by rfl) : PI X tg l (iList K tl) := by
  subst hK
  exact pi_list hl
theorem pi_tupK {tg l : Expr} {tl : TE} (hl : PE X l tl) (hK : X.K = K := by rfl) : PI X tg l (iTup K tl) := by
  subst hK
  exact pi_tup hl
theorem pg_tupK {es : List Expr} {k : Nat} {t : TGs} {n : Nat} {pos : Pos} (hc : X.calm = true) (h : PGs X es t) (hK : X.K = K := by rfl)
    (hn : (assignEach es X.env).length = n := by rfl) (hst : (assignEach es X.env).findIdx? (·.1) = none := by rfl) : PG X (.Tuple es k pos) (gTup K n t) := by
  subst hK
  exact pg_tup hc h hn hst
end
end Sk
/-! SkText: texts cut at one sign and joined again. -/
namespace Sk
open PySem
def cl (x : Str) : List Nat := x.cps.toList
theorem cl_app (x y : Str) : cl (x ++ y) = cl x ++ cl y := Array.toList_append
theorem cl_inj {x y : Str} (h : cl x = cl y) : x = y := by
  obtain ⟨a⟩ := x
  obtain ⟨b⟩ := y
  exact congrArg Str.mk (Array.toList_inj.mp h)
theorem cl_len (x : Str) : (cl x).length = x.length := by
  show x.cps.toList.length = x.cps.size
  simp
theorem len_app (x y : Str) : (x ++ y).length = x.length + y.length := by
  rw [← cl_len, ← cl_len, ← cl_len, cl_app, List.length_append]
/-- the pieces of a joined text are no longer than it -/
theorem join_ge (sep : Str) : ∀ (ps : List Str) (p : Str), p ∈ ps → p.length ≤ (Str.join sep ps).length
  | [], _, h => by cases h
  | [x], p, h => by
    have e : p = x := by simpa using h
    rw [e]
    exact Nat.le_refl _
  | x :: y :: r, p, h => by
    have e : Str.join sep (x :: y :: r) = x ++ sep ++ Str.join sep (y :: r) := rfl
    rw [e, len_app, len_app]
    rcases List.mem_cons.mp h with h | h
    · rw [h]; omega
    · have := join_ge sep (y :: r) p h
      omega
theorem split_piece {x p sep : Str} (h : p ∈ Txt.split x sep) : p.length ≤ x.length := by
  have e := StrLaws.join_split x sep
  have := join_ge sep _ p h
  rw [e] at this
  exact this
theorem split_ne (x sep : Str) : Txt.split x sep ≠ [] := fun h => by
  have := StrLaws.join_split x sep
  have l := PyProof.Rows.split_pos x sep
  rw [h] at l
  simp at l
/-- two lists without a sign, cut off at it -/
theorem cut_at {c : Nat} : ∀ {a b r s : List Nat}, c ∉ a → c ∉ b → a ++ c :: r = b ++ c :: s → a = b ∧ r = s
  | [], [], r, s, _, _, h => by
    injection h with _ h
    exact ⟨rfl, h⟩
  | [], y :: b, r, s, _, hb, h => by
    injection h with h _
    exact absurd (by rw [h]; exact List.mem_cons_self) hb
  | x :: a, [], r, s, ha, _, h => by
    injection h with h _
    exact absurd (by rw [← h]; exact List.mem_cons_self) ha
  | x :: a, y :: b, r, s, ha, hb, h => by
    injection h with h1 h2
    obtain ⟨e1, e2⟩ := cut_at (fun z => ha (List.mem_cons_of_mem _ z)) (fun z => hb (List.mem_cons_of_mem _ z)) h2
    exact ⟨by rw [h1, e1], e2⟩
theorem join_cons (sep x y : Str) (r : List Str) : cl (Str.join sep (x :: y :: r)) = cl x ++ (cl sep ++ cl (Str.join sep (y :: r))) := by
  have e : Str.join sep (x :: y :: r) = x ++ sep ++ Str.join sep (y :: r) := rfl
  rw [e, cl_app, cl_app, List.append_assoc]
theorem join_inj {c : Nat} : ∀ {ps qs : List Str}, ps ≠ [] → qs ≠ [] → (∀ p ∈ ps, c ∉ cl p) → (∀ p ∈ qs, c ∉ cl p) → Str.join ⟨#[c]⟩ ps = Str.join ⟨#[c]⟩ qs → ps = qs
  | [], _, h, _, _, _, _ => absurd rfl h
  | _, [], _, h, _, _, _ => absurd rfl h
  | [x], [y], _, _, _, _, h => by
    have e : x = y := h
    rw [e]
  | [x], y :: y2 :: s, _, _, h1, h2, h => by
    have z := congrArg cl h
    rw [join_cons] at z
    have z1 : cl x = cl y ++ (cl (⟨#[c]⟩ : Str) ++ cl (Str.join ⟨#[c]⟩ (y2 :: s))) := z
    exact absurd (by rw [z1]; simp [cl]) (h1 x (by simp))
  | x :: x2 :: r, [y], _, _, h1, h2, h => by
    have z := congrArg cl h
    rw [join_cons] at z
    have z1 : cl x ++ (cl (⟨#[c]⟩ : Str) ++ cl (Str.join ⟨#[c]⟩ (x2 :: r))) = cl y := z
    exact absurd (by rw [← z1]; simp [cl]) (h2 y (by simp))
  | x :: x2 :: r, y :: y2 :: s, _, _, h1, h2, h => by
    have z := congrArg cl h
    rw [join_cons, join_cons] at z
    have z1 : cl x ++ c :: cl (Str.join ⟨#[c]⟩ (x2 :: r)) = cl y ++ c :: cl (Str.join ⟨#[c]⟩ (y2 :: s)) := z
    obtain ⟨e1, e2⟩ := cut_at (h1 x (by simp)) (h2 y (by simp)) z1
    have e3 := join_inj (ps := x2 :: r) (qs := y2 :: s) (by simp) (by simp) (fun p hp => h1 p (List.mem_cons_of_mem _ hp)) (fun p hp => h2 p (List.mem_cons_of_mem _ hp)) (cl_inj e2)
    rw [cl_inj e1, e3]
/-- joined and cut again -/
theorem split_join {c : Nat} {ps : List Str} (h0 : ps ≠ []) (h : ∀ p ∈ ps, c ∉ cl p) : Txt.split (Str.join ⟨#[c]⟩ ps) ⟨#[c]⟩ = ps :=
  join_inj (split_ne _ _) h0 (fun p hp => StrLaws.split_free _ _ p hp) h (StrLaws.join_split _ _)
end Sk
namespace Sk
open PySem
theorem tjoin (y : Str) (parts : List Str) : Txt.join y parts = Str.join y parts := StrLaws.glued_eq_join y parts
end Sk
/-! SkExc: an error of a program's own whose start asks super() and keeps one field; a caught error that outlives its clause. -/
namespace Sk
open PySem PySem.Spec PyProof.Rows L2
open PySem.W (fnX codeIn codeRec_of clsIn nsIn subIn looks_subIn ks_superIn looks_opaque looks_clsIn kxs_mw KxsAt)
/-! ### super().__init__(x); self.x = x -/
/-- what the written part says of such a start: the def at f, its cell, its code object -/
structure IniC (K : PySem.W.Frag) (P : Program) (C f : Addr) (x : Str) (params : Arguments) (body : List Stmt) (scope : Scope) : Prop where
  at_ : ∃ (name qual : Str) (od : Option Addr) (kV doc pm ct : Value) (an : Option Addr) (osl : Array (Option Value)) (cell c : Addr), K.lookup f = some ⟨.type "function", od, .func (fnX name qual params body scope [("__class__", cell)] .none kV doc pm an (.ref c) ct), osl⟩ ∧
    (∃ oc ocd osc, K.lookup cell = some ⟨oc, ocd, .cell (some (.ref C)), osc⟩) ∧ codeIn K (.ref c) qual = true ∧
    (∃ (oc : Obj) (vs : Array Value) (file : Str) (tf : Tok), K.lookup c = some oc ∧ oc.data = .fields vs ∧ vs[2]? = some (.str file tf) ∧ ((P.main.file : Str) == file) = true)
  top : (P.main.scope.names.lookup ("super" : Str)).isSome = false
  ox : OexC K C
  cc : subIn K (.ref C) (.ref C) = some true
  ve : subIn K (.ref C) (.type "ValueError") = some true
  su : ks_superIn K C C "__init__" = some (some (.builtin "ValueError.__init__"))
  op : nsIn K cStatics "thirdparty.any" = some none
  no : PySem.W.findIn K (.ref C) x = some none
def spIni (C : Addr) (x : Str) : Sp := fun vs H Q _ => ∃ (a : Addr) (v : V), vs = [.ref a, v] ∧ H a = some (exo a C none) ∧ ∀ dx, H dx = none → dx ≠ a → Q .non (upd (upd H dx (exd dx [(x, v)])) a (exo a C (some dx)))
section
open PySem.Calls
variable {prog : Program} {w : World} {A : Around} {E : Value → Shared → Prop} {h : Heap} {g : Array GenState} {d : Drawn} {t : Nat} {os : OsState}
variable {nm q : Str} {C N : Addr} {bs bm : List Value} {hdct : Bool} {sn : List Str} {sub : List Value} {ab : Bool} {col : Option Bool} {dd : Option Addr} {k0 k1 k2 k3 k5 : Option Value}
theorem call_wrap {u e t0 : Addr} {rest : List Value} {Q : Value → Shared → Prop} (hbm : PySem.HandSPX.refsVE bm = true)
    (hC : h.get? C = some (excClassObj nm q C N bs bm hdct sn sub ab col dd k0 k1 k2 k3 k5 "ValueError.__new__")) (he : h.get? e = some (HandSPX.excO C t0)) (hu : h.get? u = some (kxs_mw "ValueError.__init__" e)) (hrest : rest.length ≤ sizeLine)
    (hq : ∀ h' t1, (∀ b o, b ≠ e → h.get? b = some o → h'.get? b = some o) → h'.get? e = some (HandSPX.excO C t1) → Q .none ⟨h', g, d, t, os⟩) :
    wpAny (model prog w) A (call (.ref u) rest) Q E ⟨h, g, d, t, os⟩ := by
  refine wpAny_call (codeAny_of_tree ?_)
  show wpAny _ A.in1 (callAny (.ref u) ⟨rest, []⟩) _ _ _
  simp only [callAny]
  refine wpAny_bind (wpAny_load hu ?_)
  simp only [kxs_mw, show (Value.type "method-wrapper" == Value.type "method" || Value.type "method-wrapper" == Value.type "builtin_function_or_method" || Value.type "method-wrapper" == Value.type "method-wrapper") = true by decide, if_true]
  refine PySem.W.KFB.if_so (by decide) ?_
  refine wpAny_bind (PySem.ESX.check_bound F.excBase_ValueError hC he rfl ?_)
  refine wpAny_bind (wpAny_pure (wpAny_pure ?_))
  refine ⟨Code.quiet_builtin _ (by decide +kernel), codeAny_builtin F.excBase_ValueError.initEntry ?_⟩
  rw [Around.under_plainId F.excBase_ValueError.init.plain _]
  wp_walk
  refine hq _ h.objs.size (fun b o hb ho => ?_) ?_
  · rw [Heap.get?_update_other _ _ (Ne.symm hb)]
    exact Heap.get?_push_of_some _ ho
  · rw [Heap.get?_update_self _ (Heap.get?_push_of_some _ he) rfl]
    rfl
end
abbrev iniE (f : Addr) (scope : Scope) (qual : Str) (c cell L : Addr) : Env := PySem.W.envX qual scope L f (.ref c) [("__class__", cell)]
/-- how its two statements are read -/
structure IniS (f : Addr) (scope : Scope) (x : Str) (p0 p1 p2 p3 p4 p5 p6 p7 p8 p9 : Pos) : Prop where
  ev : ∀ (qual : Str) (c cell L : Addr), ∃ pl : Sem Bool, eval (.Call (.Attribute (.Call (.Name "super" p0) [] [] p1) "__init__" p2) [.Name x p3] [] p4) (iniE f scope qual c cell L) = (do
      let ov ← attributeBase (.Call (.Name "super" p0) [] [] p1) "__init__" (iniE f scope qual c cell L) (eval (.Call (.Name "super" p0) [] [] p1) (iniE f scope qual c cell L))
      standAt p2.atName
      let (f2, first) ← holding [ov] (getMethod ov "__init__" pl)
      callWith p4 f2 first (backTo p4 (starEach [.Name x p3] (iniE f scope qual c cell L))) [])
  ia : ∀ (qual : Str) (c cell L : Addr), interactive (iniE f scope qual c cell L) = false
  s1 : ∀ (qual : Str) (c cell L : Addr), swapsWith (.Call (.Attribute (.Call (.Name "super" p0) [] [] p1) "__init__" p2) [.Name x p3] [] p4) none p5.line (iniE f scope qual c cell L) = pure false
  s2 : ∀ (qual : Str) (c cell L : Addr), swapsWith (.Name x p8) (some (.Attribute (.Name "self" p6) x p7)) p9.line (iniE f scope qual c cell L) = pure false
  st : ∀ (qual : Str) (c cell L : Addr), starEach [.Name x p3] (iniE f scope qual c cell L) = (false, eval (.Name x p3) (iniE f scope qual c cell L)) :: starEach [] (iniE f scope qual c cell L)
  bk : ∀ (qual : Str) (c cell L : Addr), backTo p4 (starEach [] (iniE f scope qual c cell L)) = []
section
variable {P : Program} {w : World} {K : PySem.W.Frag} {mg : Str → Option Value} {base : Heap} {C f : Addr} {x : Str} {params : Arguments} {body : List Stmt} {scope : Scope} {p0 p1 p2 p3 p4 p5 p6 p7 p8 p9 : Pos}
theorem ini_ok (T : IniC K P C f x params body scope) (S : NdefX.NScope ["self", x, "__class__"] ["self", x] ["__class__"] scope) (hsup : scope.names.lookup ("super" : Str) = some .globalImplicit) (hm : mg "super" = none) (Y : IniS f scope x p0 p1 p2 p3 p4 p5 p6 p7 p8 p9)
    (hb0 : body = [.Expr (.Call (.Attribute (.Call (.Name "super" p0) [] [] p1) "__init__" p2) [.Name x p3] [] p4) p5, .Assign [.Attribute (.Name "self" p6) x p7] (.Name x p8) p9])
    (hbd : ∀ (name qual : Str) (body : List Stmt) (cl : List (Str × Addr)) (kV doc pm ct cdv : Value) (an : Option Addr) (us : List Value), us.length = 2 → bindArgs (fnX name qual params body scope cl .none kV doc pm an cdv ct) ⟨us, []⟩ = pure ((["self", x] : List Str).zip us))
    (hpar : ∃ ar : Arg, (params.posonlyargs ++ params.args).head? = some ar ∧ ar.arg = "self") (hx1 : (x == ("__debug__" : Str)) = false) (hx2 : (x == ("__classdict__" : Str)) = false) :
    ∃ fd, FnOk P w K mg base (L2.CX P w) 1 f fd ["self", x] (spIni C x) ∧ Binds K fd ["self", x] [] := by
  obtain ⟨name, qual, od, kV, doc, pm, ct, an, osl, cell, c, lk, ⟨occ, ocd, osc, lcell⟩, hcd, oc, cvs, file, tf, lc, hcv, hfile, hfe⟩ := T.at_
  refine ⟨fnX name qual params body scope [("__class__", cell)] .none kV doc pm an (.ref c) ct, ⟨fun vs H Q E h => ?_, fun A outer s H args us vs Q E hr e0 hb r hsp => ?_⟩, .all fun us hl => hbd _ _ _ _ _ _ _ _ _ _ us hl⟩
  · obtain ⟨a, v, rfl, _⟩ := h
    rfl
  · obtain ⟨a, v, rfl, ha, q⟩ := hsp
    have KX : K.In s.heap := e0.mod.kin.keeps fun b o e => (e0.bs b o e).1
    have lim : s.heap.NoLimit := e0.mod.nolimit.keeps fun b o e => (e0.bs b o e).1
    refine codeAny_call_function hr.depth (KX _ _ lk) rfl S.co S.gen rfl (codeRec_of KX hcd) (hb _ _ _ _ ?_)
    refine wpAny_newFunctionEnv S.nocell (fun ⟨n, _⟩ hy => S.par n (List.of_mem_zip hy).1) (fun h₁ hns hsb => ⟨lim.fresh _ hsb, ?_⟩) S.kind
    have kp : ∀ b o, s.heap.get? b = some o → h₁.get? b = some o := fun b o e => hsb.extBut b o (Nat.ne_of_lt (Heap.lt_size e)) (Heap.get?_push_of_some _ e)
    let F : NdefX.NF := ⟨name, qual, params, body, scope, [("__class__", cell)], c⟩
    show codeAny _ _ (.func F.body (NdefX.envF F f s.heap.objs.size)) _ _
    have cel : s.heap.IsCell cell (some (.ref C)) := ⟨_, KX _ _ lcell, rfl⟩
    have hcellH : H cell = none := by
      have z := e0.mod.kin _ _ lcell
      exact (e0.bs _ _ z).2
    have clk : ∀ {y : Str} {c' : Addr}, ([("__class__", cell)] : List (Str × Addr)).lookup y = some c' → y = "__class__" ∧ c' = cell := fun {y c'} e => by
      by_cases h : y = "__class__"
      · subst h
        have z : some cell = some c' := by simpa [List.lookup] using e
        exact ⟨rfl, (Option.some.inj z).symm⟩
      · have z : (y == ("__class__" : Str)) = false := by simpa using h
        simp [List.lookup, z] at e
    have CA : NdefX.CellsAt F.cl ["__class__"] [some (.ref C)] s.heap H := by
      refine ⟨rfl, fun y c' e => ?_, fun x' y c' e1 e2 => ?_, fun i y e => ?_⟩
      · obtain ⟨_, rfl⟩ := clk e
        exact ⟨hcellH, _, cel⟩
      · rw [(clk e1).1, (clk e2).1]
      · cases i with
        | zero =>
          have e' : ("__class__" : Str) = y := by simpa using e
          subst e'
          refine ⟨cell, by simp [F, List.lookup], fun v hv => ?_⟩
          have hv' : V.ref C = v := by simpa using hv
          subst hv'
          exact ⟨.ref C, rfl, cel⟩
        | succ i => simp at e
    have hN2 : (["self", x] : List Str).Nodup := by
      have z := S.nd.sublist (List.take_sublist 2 (["self", x, "__class__"] : List Str))
      exact z
    obtain ⟨u0, u1, rfl, ru0, ru1⟩ := vals2 r
    obtain rfl : u0 = Value.ref a := ru0
    obtain ⟨nm, qn, N0, bs, bm, sn, sub, ab, col, dd, k0, k1, k2, k3, k5, hC, hbm⟩ := T.ox.cls
    have hcl : clsIn K C = some { name := nm, bases := bs, mro := .ref C :: bm, ns := N0, qualname := qn, hasDict := true, slotNames := sn, subclasses := sub, abstract := ab, collection := col, hasDel := false } := by unfold clsIn; rw [hC] <;> rfl
    obtain ⟨t1, ho⟩ := exo_at e0.hok ha
    have aC : a ≠ C := fun z => by
      have z2 := KX _ _ hC
      rw [← z, ho] at z2
      cases z2
    have I := NdefX.inv_startN (CX := L2.CX P w) (E := E) (tk := s.toks + ((["self", x] : List Str).zip [Value.ref a, u1]).length) (F := F) (f := f) S hr.hd e0 rfl r CA hns kp
    refine ks_codeAny_funcAt ?_
    show PySem.wpAt _ _ _ (execs body _) _ _ _
    rw [hb0]
    obtain ⟨pl, hev⟩ := Y.ev qual c cell s.heap.objs.size
    refine ks_wpAt_execs_cons (ks_wpAt_Expr_any (ks_wpAt_MethodCall ?_ hev) (Y.ia qual c cell s.heap.objs.size) (Y.s1 qual c cell s.heap.objs.size))
    obtain ⟨ar, har, hself⟩ := hpar
    refine ks_wpAt_super_base (f := f) (ar := ar) hsup (S.frk _ (by simp)) (by decide) rfl (kp _ _ (KX _ _ lk)) rfl har rfl (kp _ _ (KX _ _ lc)) hcv hfile hfe T.top ?_
    rw [hself]
    have hgl : (NdefX.envF F f s.heap.objs.size).kindOf "super" = some .globalImplicit := hsup
    have X1 : K.In h₁ := KX.keeps kp
    obtain ⟨mb, hb1, hb2⟩ := e0.mod.blt
    have hsv : mb "super" = some (.type "super") := (hb2 "super" (by decide)).trans (by kernel_rfl)
    have lsup : ∀ {Q' : Value → Shared → Prop} {E' : Value → Shared → Prop}, Q' (.type "super") { s with heap := h₁, toks := s.toks + ((["self", x] : List Str).zip [Value.ref a, u1]).length } → wpAny (model P w) (A.deeper (NdefX.envF F f s.heap.objs.size)) (loadName (NdefX.envF F f s.heap.objs.size) "super") Q' E' { s with heap := h₁, toks := s.toks + ((["self", x] : List Str).zip [Value.ref a, u1]).length } := fun {Q' E'} k => by
      have hk2 : F.scope.kind = .function := S.kind
      unfold loadName
      simp only [Env.blockKind, hk2, hgl, ScopeKind.isAnnotationScope, Bool.false_and, Bool.false_eq_true, if_false]
      exact PySem.Calls.loadGlobal_builtin (I.mod.glob.keeps I.bk) hm (hb1.keeps I.bk) hsv k
    refine lsup ⟨rfl, ?_⟩
    refine wpAny_loadName_free (c := cell) S.kind (S.frk _ (by simp)) (by simp [F, List.lookup]) ⟨_, kp _ _ (KX _ _ lcell), rfl⟩ ?_
    refine wpAny_loadName_local S.kind (S.par _ (by simp)) hns (NdefX.zip_look (i := 0) hN2 rfl rfl) ?_
    refine ks_wpAny_isType_cls (kp _ _ (KX _ _ hC)) rfl ⟨rfl, ?_⟩
    refine ks_wpAny_call_super (kp _ _ (KX _ _ hC)) rfl (kp _ _ ho) rfl (fun c' z => by cases z) (looks_subIn X1 T.cc) fun h2 hso kp2 => ?_
    have X2 : K.In h2 := X1.keeps kp2
    have ho2 := kp2 _ _ (kp _ _ ho)
    have J2 : PySem.W.InstAt h2 a _ C none := ⟨ho2, rfl, rfl, trivial⟩
    have halong : PySem.W.alongIn K "__init__" (((Value.ref C :: bm).dropWhile (· != .ref C)).drop 1) = some (some (.builtin "ValueError.__init__")) := by
      have z := T.su
      unfold ks_superIn at z
      rw [hcl] at z
      exact z
    refine PySem.W.kxs_getMethod PySem.W.kxs_ValueError hso (looks_opaque X2 T.op) ((looks_clsIn X2 hcl).andThen .now) rfl X2 halong (J2.type.andThen (looks_subIn X2 T.ve)) aC (by decide) ?_
    have kp3 : ∀ b o, h₁.get? b = some o → (h2.push (kxs_mw "ValueError.__init__" a)).get? b = some o := fun b o e => Heap.get?_push_of_some _ (kp2 b o e)
    have hu : (h2.push (kxs_mw "ValueError.__init__" a)).get? h2.objs.size = some (kxs_mw "ValueError.__init__" a) := Heap.get?_push_at rfl rfl
    have I3 := I.kept (t' := s.toks + ((["self", x] : List Str).zip [Value.ref a, u1]).length + 1) (h' := h2.push (kxs_mw "ValueError.__init__" a)) kp3
    show wpAny _ _ (callWith p4 (.ref h2.objs.size) [] (backTo p4 (starEach [.Name x p3] (iniE f scope qual c cell s.heap.objs.size))) []) _ _ _
    have hst := Y.st qual c cell s.heap.objs.size
    have hbk := Y.bk qual c cell s.heap.objs.size
    have pvx : ∀ {pos : Pos}, PE (NdefX.ncx (L2.CX P w) P w K mg base ["self", x, "__class__"] F f A outer s H E) (.Name x pos) (tVar 1) := pe_var rfl (.inl (S.par _ (by simp))) hx1 hx2
    have pvs : ∀ {pos : Pos}, PE (NdefX.ncx (L2.CX P w) P w K mg base ["self", x, "__class__"] F f A outer s H E) (.Name "self" pos) (tVar 0) := pe_var rfl (.inl (S.par _ (by simp)))
    rw [hst]
    have ebk : backTo p4 ((false, eval (.Name x p3) (iniE f scope qual c cell s.heap.objs.size)) :: starEach [] (iniE f scope qual c cell s.heap.objs.size)) = [(false, eval (.Name x p3) (iniE f scope qual c cell s.heap.objs.size))] := by
      show (false, eval (.Name x p3) (iniE f scope qual c cell s.heap.objs.size)) :: backTo p4 (starEach [] (iniE f scope qual c cell s.heap.objs.size)) = _
      rw [hbk]
    rw [ebk]
    refine PySem.W.kxs_callWith (i := "ValueError.__init__") (x := a) rfl ?_
    refine PySem.Calls.evalArgs_plain (PySem.Calls.spliced_cons (wpAny_Name (wpAny_loadName_local S.kind (S.par _ (by simp)) (hns.keeps kp3) (NdefX.zip_look (i := 1) hN2 rfl rfl) (PySem.Calls.spliced_nil ⟨hu, ?_⟩)) hx1))
    have hC3 := kp3 _ _ (kp _ _ (KX _ _ hC))
    refine call_wrap hbm hC3 (kp3 _ _ (kp _ _ ho)) hu (by show (1 : Nat) ≤ sizeLine; decide) fun h4 t4 k4 hx4 => ?_
    have J := I3.write (t' := s.toks + ((["self", x] : List Str).zip [Value.ref a, u1]).length + 1) (x := a) (e := a) (o := exo a C none) (h' := h4) (by rw [ha]; exact True.intro) (.inl rfl) k4 ⟨_, hx4⟩ (exo_ok hx4)
    have eu : upd H a (exo a C none) = H := by
      funext b
      by_cases hb : b = a
      · rw [hb, upd_same, ha]
      · rw [upd_ne hb]
    rw [eu] at J
    have ht := (pss_one (ps_ost pvs pvx (Y.s2 qual c cell s.heap.objs.size)))
    refine PySem.wpAt_of_wpAny ?_
    refine wpAny_mono (ht.run [] _ _ H { nx := fun _ H' => Q .non H', rt := Q } J ?_) (fun fl s' hs => ?_) fun e s' hs => hs
    · exact ⟨_, rfl, _, rfl, a, C, rfl, T.ox, T.no, .inl ⟨ha, fun dx n ne => q dx n ne⟩⟩
    · have fin : ∀ {σ' : L2.St} {H' : Hp} {v : V} {u : Value}, Inv (NdefX.ncx (L2.CX P w) P w K mg base ["self", x, "__class__"] F f A outer s H E) [] σ' H' s' → L2.RelV v u → Q v H' → CE outer P w H s Q u s' :=
        fun {σ' H' v u} J rv q => ⟨v, H', J.os, J.bare, J.base, J.hok, rv, q⟩
      cases fl with
      | ret u =>
        obtain ⟨v, σ', H', J, rv, q⟩ := hs
        exact fin J rv q
      | next =>
        obtain ⟨σ', H', J, q⟩ := hs
        exact fin (v := V.non) (u := Value.none) J rfl q
      | brk =>
        obtain ⟨_, _, _, q⟩ := hs
        exact False.elim q
      | cont =>
        obtain ⟨_, _, _, q⟩ := hs
        exact False.elim q
end
/-- the program's own words that the facts speak of -/
structure PgOk (P : Program) : Prop where
  file : ((P.main.file : Str) == ("/claim/cut.py" : Str)) = true
  top : (P.main.scope.names.lookup ("super" : Str)).isSome = false
theorem ini_of {K : PySem.W.Frag} {P : Program} {x f : Str} {d : DX} (G : PgOk P) (e : fnA K (He.ma K (He.ga K x) "__init__") = d.val) (hclo : d.clo = (["__class__"] : List Str)) (b : iniB K (He.ga K x) f "/claim/cut.py" = true) (ox : OexC K (He.ga K x)) :
    IniC K P (He.ga K x) (He.ma K (He.ga K x) "__init__") f (defArgs d.st) (defBody d.st) (defScope d.st) := by
  obtain ⟨b0, h⟩ := He.ba b
  obtain ⟨b1, h⟩ := He.ba h
  obtain ⟨b2, h⟩ := He.ba h
  obtain ⟨b3, h⟩ := He.ba h
  obtain ⟨b4, h⟩ := He.ba h
  obtain ⟨b5, _⟩ := He.ba h
  refine ⟨?_, G.top, ox, of_decide_eq_true b1, of_decide_eq_true b2, He.eqO_ok b3, He.eqO_ok b4, He.eqO_ok b5⟩
  cases q : K.lookup (He.ma K (He.ga K x) "__init__") with
  | none => rw [q] at b0; cases b0
  | some o =>
    obtain ⟨oc, od, dt, osl⟩ := o
    unfold fnA at e
    rw [q] at b0 e
    cases oc with
    | type t =>
      cases dt with
      | func fd =>
        obtain ⟨n1, n2, n3, n4, n5, n6, n7, n8, n9, n10, n11, n12, n13, n14, n15⟩ := fd
        obtain ⟨c1, h⟩ := He.ba b0
        obtain ⟨c2, h⟩ := He.ba h
        obtain ⟨c3, c4⟩ := He.ba h
        have et : t = "function" := of_decide_eq_true c1
        subst et
        have e2 : (some (n1, n2, n3, n4, n5, n6, n7.map (·.1), n15) : FnV) = some (d.nm, d.qual, defArgs d.st, .stmts (defBody d.st), defScope d.st, mainGlobals, d.clo, builtinsNs) := e
        rw [hclo] at e2
        simp only [Option.some.injEq, Prod.mk.injEq] at e2
        obtain ⟨rfl, rfl, rfl, rfl, rfl, rfl, e7, rfl⟩ := e2
        match n7, e7, c2 with
        | [(y, cell)], e7, c2 =>
          have ey : y = ("__class__" : Str) := by
            have z : [y] = (["__class__"] : List Str) := e7
            exact (List.cons.inj z).1
          subst ey
          have hcell : ∃ oc ocd osc, K.lookup cell = some ⟨oc, ocd, .cell (some (.ref (He.ga K x))), osc⟩ := by
            have z : cellB K cell (He.ga K x) = true := c2
            unfold cellB at z
            split at z
            · rename_i D sl h
              have eD : D = He.ga K x := of_decide_eq_true z
              rw [eD] at h
              exact ⟨_, _, _, h⟩
            · cases z
          have hd : n8 = .none := by
            cases n8 <;> first | rfl | cases c3
          subst hd
          cases n13 with
          | ref c =>
            obtain ⟨k1, k2⟩ := He.ba (show (codeIn K (.ref c) d.qual && fileB K c "/claim/cut.py") = true from c4)
            refine ⟨d.nm, d.qual, od, n9, n10, n11, n14, n12, osl, cell, c, rfl, hcell, k1, ?_⟩
            unfold fileB at k2
            split at k2
            · rename_i cl dct vs sl hlk
              split at k2
              · rename_i v0 v1 z tz rest hvs
                have ez : z = ("/claim/cut.py" : Str) := of_decide_eq_true k2
                subst ez
                refine ⟨_, vs, _, tz, hlk, rfl, ?_, G.file⟩
                rw [← Array.getElem?_toList, hvs]
                rfl
              · cases k2
            · cases k2
          | _ => cases c4
      | _ => cases b0
    | _ => cases dt <;> cases b0
theorem ek_of {K : PySem.W.Frag} {D : Addr} (b : ekB K D = true) : (PySem.W.clsIn K D).isSome = true ∧ PySem.W.findIn K (.ref D) "__getattribute__" = some (some (.builtin "BaseException.__getattribute__")) ∧ PySem.W.findIn K (.ref D) "__getattr__" = some none ∧
    PySem.W.subIn K (.ref D) (.type "BaseException") = some true ∧ PySem.W.findIn K (.ref D) "__class__" = some (some (.builtin "object.__class__")) ∧ PySem.W.specialIn K (.builtin "object.__class__") "__get__" = some (some (.builtin "getset_descriptor.__get__")) ∧
    PySem.W.takesIn K (.builtin "object.__class__") = some true ∧ PySem.W.mroIn K D (.type "object") = some true := by
  obtain ⟨b0, h⟩ := He.ba b
  obtain ⟨b1, h⟩ := He.ba h
  obtain ⟨b2, h⟩ := He.ba h
  obtain ⟨b3, h⟩ := He.ba h
  obtain ⟨b4, h⟩ := He.ba h
  obtain ⟨b5, h⟩ := He.ba h
  obtain ⟨b6, b7⟩ := He.ba h
  exact ⟨b0, He.eqO_ok b1, He.eqO_ok b2, of_decide_eq_true b3, He.eqO_ok b4, He.eqO_ok b5, of_decide_eq_true b6, of_decide_eq_true b7⟩
structure RaC (P : Program) (w : World) (K : PySem.W.Frag) (mg : Str → Option Value) (base : Heap) (x f : Str) : Prop where
  gl : mg x = some (.ref (He.ga K x))
  ox : OexC K (He.ga K x)
  fi : PySem.W.findIn K (.ref (He.ga K x)) "__init__" = some (some (.ref (He.ma K (He.ga K x) "__init__")))
  ty : PySem.W.typeIn K (.ref (He.ma K (He.ga K x) "__init__")) = some (.type "function")
  fn : ∃ fd, FnOk P w K mg base (L2.CX P w) 1 (He.ma K (He.ga K x) "__init__") fd ["self", f] (spIni (He.ga K x) f) ∧ Binds K fd ["self", f] []
theorem no_passes {X : Cx} : Passes (L2.CX X.prog X.w) X (fun _ _ _ => False) := fun _ _ _ _ _ _ _ ⟨_, _, _, _, _, _, _, _, _, _, _, _, z⟩ => z.elim
section
variable {X : Cx} {x f : Str} {e : Expr} {ta : TA} {p pos : Pos}
theorem pmk_err (R : RaC X.prog X.w X.K X.mg X.base x f) (hr : Room 2 X.A) (hg : Gl X x) (ha : PA X [e] ta) (hdb : (x == ("__debug__" : Str)) = false := by decide) (he : starEach (e :: []) X.env = (false, eval e X.env) :: starEach [] X.env := by rfl)
    (hpl : (backTo pos (starEach [] X.env)).any (·.1) = false := by rfl) : PMk X (.Call (.Name x p) [e] [] pos) (tMkO (He.ga X.K x) (spIni (He.ga X.K x) f) [] ta) := by
  obtain ⟨fd, F, b⟩ := R.fn
  exact pmk_oex (p := p) (pos := pos) (CX := L2.CX X.prog X.w) (ds := []) (dvs := []) R.ox R.fi R.ty F hr b .nil no_passes hg R.gl ha hdb he hpl
end
/-- what is asked behind the arguments of such an error -/
theorem err_ {C : Addr} {f : Str} {v : V} {H1 : Hp} {Q : XK} (h : ∀ d, H1 d = none → Q (.ref C) (some d) (upd H1 d (.xd [(f, v)]))) :
    [v].length ≤ 1000 ∧ ∀ a, H1 a = none → spIni C f (.ref a :: ([v] ++ [])) (upd H1 a (exo a C none))
      (fun u H2 => u = .non ∧ ∃ (d : Addr) (fs : List (Str × V)), H2 a = some (exo a C (some d)) ∧ H2 d = some (exd d fs) ∧ H1 d = none ∧ Q (.ref C) (some d) (upd (del H2 a) d (.xd fs))) (fun _ _ _ => False) := by
  refine ⟨(by show 1 ≤ 1000; decide), fun a ha => ⟨a, v, rfl, upd_same, fun dx hdx hne => ⟨rfl, dx, [(f, v)], upd_same, ?_, ?_, ?_⟩⟩⟩
  · rw [upd_ne hne]
    exact upd_same
  · rw [upd_ne hne] at hdx
    exact hdx
  · have hd1 : H1 dx = none := by
      rw [upd_ne hne] at hdx
      exact hdx
    have e : upd (del (upd (upd (upd H1 a (exo a C none)) dx (exd dx [(f, v)])) a (exo a C (some dx))) a) dx (.xd [(f, v)]) = upd H1 dx (.xd [(f, v)]) := by
      funext b
      by_cases h1 : b = dx
      · rw [h1, upd_same, upd_same]
      · rw [upd_ne h1, upd_ne h1]
        by_cases h2 : b = a
        · rw [h2, del_same, ha]
        · rw [del_ne h2, upd_ne h2, upd_ne h1, upd_ne h2]
    rw [e]
    exact h dx hd1
end Sk
/-! SkTry: try .. except X as n: m = n, where the caught error stays at hand in m; isinstance of it, its fields. -/
namespace Sk
open PySem PySem.Spec PyProof.Rows L2
/-- at a: an error of the class cls, its dict d -/
def exk (a : Addr) (cls : Value) (d : Option Addr) : HO := .ext fun h => ∃ (o : Obj) (fv : Array Value), h.get? a = some o ∧ Zc cls d o ∧ o.data = .fields fv
theorem exk_ok {P : Program} {w : World} {H : Hp} {h : Heap} {a : Addr} {cls : Value} {d : Option Addr} {o : Obj} {fv : Array Value} (e : h.get? a = some o) (z : Zc cls d o) (f : o.data = .fields fv) : ObjOk P w H h a (exk a cls d) :=
  ⟨⟨o, fv, e, z, f⟩, ⟨o, e⟩, fun _ _ ⟨o', fv', e', z', f'⟩ k => ⟨o', fv', k _ e', z', f'⟩⟩
theorem exk_at {P : Program} {w : World} {H : Hp} {h : Heap} {a : Addr} {cls : Value} {d : Option Addr} (k : HOk P w H h) (e : H a = some (exk a cls d)) : ∃ (o : Obj) (fv : Array Value), h.get? a = some o ∧ Zc cls d o ∧ o.data = .fields fv := by
  have z : ObjOk P w H h a (.ext fun h => ∃ (o : Obj) (fv : Array Value), h.get? a = some o ∧ Zc cls d o ∧ o.data = .fields fv) := k a _ e
  exact z.1
/-- what is wished of an error: caught, it stays at hand -/
def wKeep (K : PySem.W.Frag) (c : Value) (i j : Nat) (D : Ends) : WX := fun cls d σ H =>
  PySem.W.exmOne K cls c = some true ∧ ∀ a, H a = none → D.nx (((σ.set i (some (.ref a))).set j (some (.ref a))).set i none) (upd H a (exk a cls d))
section
variable {X : Cx} {pins : List (Addr × Obj)} {σ : L2.St} {H : Hp} {s : Shared}
/-- an error that is there, unknown to the heap of names, is known from now on -/
theorem Inv.learn {a : Addr} {cls : Value} {d : Option Addr} {o : Obj} {fv : Array Value} (I : Inv X pins σ H s) (na : H a = none) (fr : X.s_0.heap.get? a = none) (e : s.heap.get? a = some o) (z : Zc cls d o) (f : o.data = .fields fv) (nL : a ≠ X.env.locals)
    (np : ∀ p ∈ X.pn ++ pins, p.1 ≠ a) (nc : ∀ y c, X.env.cells.lookup y = some c → c ≠ a) : Inv X pins σ (upd H a (exk a cls d)) s := by
  have off : ∀ {b : Addr} {u : HO}, H b = some u → b ≠ a := fun {b u} q => ne_of_none q na
  have up : ∀ {b : Addr} {u : HO}, H b = some u → upd H a (exk a cls d) b = some u := fun {b u} q => by rw [upd_ne (off q)]; exact q
  have old : ∀ {b : Addr} {u : Obj}, X.s_0.heap.get? b = some u → b ≠ a := fun {b u} q => fun w => by rw [w, fr] at q; cases q
  refine ⟨I.ok, I.os, I.bare, ⟨I.base.keep, I.base.slot, fun b u q n hx => ?_, I.base.there, fun b xs q => up (I.base.tups b xs q), fun b u v q => up (I.base.frzs b u v q), fun b ps q => ?_⟩, I.loc, I.cell, ?_, fun y c q => ?_, fun p hp => ?_, fun b u q => ?_, I.len⟩
  · rw [upd_ne (old q)]
    exact I.base.free b u q n hx
  · obtain ⟨more, q2⟩ := I.base.tbls b ps q
    exact ⟨more, up q2⟩
  · rw [upd_ne (Ne.symm nL)]
    exact I.free
  · rw [upd_ne (nc y c q)]
    exact I.freeC y c q
  · obtain ⟨p1, p2, p3⟩ := I.pin p hp
    exact ⟨p1, by rw [upd_ne (np p hp)]; exact p2, p3⟩
  · by_cases hb : b = a
    · subst hb
      rw [upd_same] at q
      cases q
      exact exk_ok e z f
    · rw [upd_ne hb] at q
      exact (I.hok b u q).stay (fun c v _ k => k) (fun c k => up k) fun c xs k => up k
end
section
variable {X : Cx} {x n m : Str} {c : Value} {i j : Nat} {body : List Stmt} {np q1 q2 q3 pos pos' : Pos} {tb : WX → TS}
theorem ps_try_keep (hs : X.stack = X.env :: X.outer) (hf : X.env.frame = some X.env.locals) (hex : X.ex = []) (hN : X.N.Nodup) (hi : X.N[i]? = some n) (hln : X.env.kindOf n = some .local) (hj : X.N[j]? = some m) (hlm : X.env.kindOf m = some .local) (hc : Names X x c)
    (hb : ∀ (W : WX) (pn : List (Addr × Obj)) (xe : Value → Shared → Prop), Takes (X.tr pn xe) W → PassesOwn (model X.prog X.w) X.A X.env xe → PSs (X.tr pn xe) body (tb W))
    (hnd : (n == ("__debug__" : Str)) = false) (hncd : (n == ("__classdict__" : Str)) = false) (hsw : swapsWith (.Name n q2) (some (.Name m q1)) q3.line X.env = pure false := by rfl) :
    PS X (.Try body [.ExceptHandler (some (.Name x np)) (some n) [.Assign [.Name m q1] (.Name n q2) q3] pos'] [] [] pos) (fun D σ H => tb (wKeep X.K c i j D) D σ H) := by
  refine ⟨fun pins s σ H D I h => ?_⟩
  have ok := I.ok
  have frames : X.A.frames = some (X.env :: X.outer) := ok.frames.trans (by rw [hs])
  refine wpAny_Try_except ?_
  have taken : Takes (X.tr (X.pn ++ pins) (fun e s₁ => wpAny (model X.prog X.w) X.A (noteFrame e X.env) (fun _ s₂ => wpAny (model X.prog X.w) X.A (setFlight e none)
      (fun _ s₃ => wpAny (model X.prog X.w) X.A (handleBy e X.env [.ExceptHandler (some (.Name x np)) (some n) [.Assign [.Name m q1] (.Name n q2) q3] pos']) (SP X pins D) X.xe s₃) X.xe s₂) X.xe s₁)) (wKeep X.K c i j D) := by
    rintro u s' ⟨a, B, sI, pinsI, σI, HI, cls, d, rfl, JI, nb, up, sky, na, os, ag, hm1, hyes⟩
    have J : Inv X pins σI HI sI := JI.ofTry ok
    rw [show (X.tr (X.pn ++ pins) _).stack = X.env :: X.outer from hs] at sky
    show wpAny (model X.prog X.w) X.A (noteFrame (.ref a) X.env) _ _ _
    refine Sky.land Zc.steady frames hf sky fun h3 fly up3 => ?_
    have J3 : Inv X pins σI HI { s' with heap := h3 } := J.landed nb fly.1 (up.trans up3) os ag
    obtain ⟨oe, fv, he, hz, hd⟩ := fly.there
    have nfr : a ∉ frs (X.env :: X.outer) := fun hm => by
      obtain ⟨_, o', e', hnf⟩ := fly.2.2.1.mem hm
      have z := Option.some.inj (e'.symm.trans he)
      subst z
      exact hnf _ hd
    have nL : a ≠ X.env.locals := fun z => nfr (List.mem_filterMap.mpr ⟨X.env, List.mem_cons_self, by rw [z]; exact hf⟩)
    have nF : a ∉ X.fs := fun hm => by
      obtain ⟨e, h1, h2⟩ := List.mem_filterMap.mp hm
      exact nfr (List.mem_filterMap.mpr ⟨e, List.mem_cons_of_mem _ h1, h2⟩)
    have noI : sI.heap.get? a = none := by
      cases q : sI.heap.get? a with
      | none => rfl
      | some o =>
        have z := nb a o q (by rw [show (X.tr (X.pn ++ pins) _).stack = X.env :: X.outer from hs]; exact nfr)
        rw [fly.2.1] at z
        cases z
    have no0 : X.s_0.heap.get? a = none := by
      cases q : X.s_0.heap.get? a with
      | none => rfl
      | some o =>
        obtain ⟨o', z⟩ := J.base.there a o q (by rw [hex]; simp)
        rw [noI] at z
        cases z
    have nops : ∀ p ∈ X.pn ++ pins, p.1 ≠ a := fun p hp z => by
      have w := (J.pin p hp).1
      rw [z, noI] at w
      cases w
    have nc : ∀ y c', X.env.cells.lookup y = some c' → c' ≠ a := fun y c' e z => by
      obtain ⟨v, o, w, _⟩ := J.cell y c' e
      rw [z, noI] at w
      cases w
    have S3 := J3.suite he hd na nL nF
    refine wpAny_handleBy_cons (codeAny_handlers_test ?_) (by intro q; cases q)
    have lt : PySem.W.Looks (model X.prog X.w) h3 (typeOf (.ref a)) cls := fun A Q E s k q => wpAny_typeOf_ref (k _ _ he) (by rw [hz.1]; exact q)
    have lm := PySem.W.exm_one (M := model X.prog X.w) J3.kIn lt hm1
    have named : ∀ {Q : Value → Shared → Prop} {E : Value → Shared → Prop}, Q c { s' with heap := h3 } → wpAny (model X.prog X.w) (X.A.mark (some (.ref a))) (eval (.Name x np) X.env) Q E { s' with heap := h3 } := fun {Q E} q => by
      obtain ⟨g1, g2, g3 | ⟨g3, g4, g5⟩⟩ := hc
      · exact ld_glob (X := X.suite a ((a, oe) :: (X.pn ++ pins))) S3 g1 g3 q g2
      · exact ld_blt (X := X.suite a ((a, oe) :: (X.pn ++ pins))) S3 g1 g3 g4 q g5 g2
    refine named (lm.here ?_)
    refine codeAny_handlers_suite_as (HandSPX.lands_againZ fly fun h4 fly4 up4 => ?_)
    have J4 : Inv X pins σI HI { s' with heap := h4 } := J.landed nb fly4.1 ((up.trans up3).trans up4) os ag
    obtain ⟨o4, v4, he4, hz4, hd4⟩ := fly4.there
    have S4 := J4.suite he4 hd4 na nL nF
    refine store_ok (X := X.suite a ((a, o4) :: (X.pn ++ pins))) (v := .ref a) S4 hN hi (.inl hln) rfl (fun s5 S5 => ?_) (.inr hln)
    have ps := pss_one (ps_set (X := X.suite a ((a, o4) :: (X.pn ++ pins))) (i := j) (pos := q3) (pos' := q1) hN hj (.inl hlm) (pe_var (i := i) (pos := q2) hi (.inl hln) hnd hncd) hsw (.inr hlm))
    have hil : i < σI.length := by
      have z := (List.getElem?_eq_some_iff.mp hi).1
      rw [J.len]
      exact z
    refine wpAny_mono (ps.run [] s5 _ HI { nx := fun σ' H' => σ' = (σI.set i (some (.ref a))).set j (some (.ref a)) ∧ H' = HI, rt := fun _ _ => False } S5 ?_) (fun f s6 hsp => ?_) (fun _ _ z => False.elim z)
    · exact ⟨.ref a, by rw [List.getElem?_set_self hil], rfl, rfl⟩
    · cases f with
      | next =>
        obtain ⟨σ6, H6, S6, e6, e7⟩ := hsp
        subst e6 e7
        refine gone_ok (X := X.suite a ((a, o4) :: (X.pn ++ pins))) S6 hN hi hln fun s7 S7 => ?_
        have pin7 := (S7.pin (a, o4) (List.mem_append_left _ List.mem_cons_self)).1
        exact ⟨_, _, Inv.learn (S7.unsuite ok) na no0 pin7 hz4 hd4 nL nops nc, hyes a na⟩
      | brk =>
        obtain ⟨_, _, _, z⟩ := hsp
        exact z.elim
      | cont =>
        obtain ⟨_, _, _, z⟩ := hsp
        exact z.elim
      | ret u =>
        obtain ⟨_, _, _, _, _, z⟩ := hsp
        exact z.elim
  refine wpAny_mono ((hb _ (X.pn ++ pins) _ taken PassesOwn.looking).run [] s σ H D (I.toTry _) h) (fun f s1 hsp => ?_) (fun e s1 he => he)
  cases f with
  | next =>
    obtain ⟨σ', H', J', q⟩ := hsp
    exact wpAny_execs_nil ⟨σ', H', J'.ofTry ok, q⟩
  | brk => exact ⟨hsp.choose, hsp.choose_spec.choose, hsp.choose_spec.choose_spec.1.ofTry ok, hsp.choose_spec.choose_spec.2⟩
  | cont => exact ⟨hsp.choose, hsp.choose_spec.choose, hsp.choose_spec.choose_spec.1.ofTry ok, hsp.choose_spec.choose_spec.2⟩
  | ret u =>
    obtain ⟨v', σ', H', J', r', q'⟩ := hsp
    exact ⟨v', σ', H', J'.ofTry ok, r', q'⟩
end
/-- what an error's class must say to be asked by isinstance -/
structure EkC (K : PySem.W.Frag) (D : Addr) : Prop where
  cl : (PySem.W.clsIn K D).isSome = true
  ga : PySem.W.findIn K (.ref D) "__getattribute__" = some (some (.builtin "BaseException.__getattribute__"))
  gg : PySem.W.findIn K (.ref D) "__getattr__" = some none
  be : PySem.W.subIn K (.ref D) (.type "BaseException") = some true
  ca : PySem.W.findIn K (.ref D) "__class__" = some (some (.builtin "object.__class__"))
  sg : PySem.W.specialIn K (.builtin "object.__class__") "__get__" = some (some (.builtin "getset_descriptor.__get__"))
  tk : PySem.W.takesIn K (.builtin "object.__class__") = some true
  ob : PySem.W.mroIn K D (.type "object") = some true
/-- isinstance(e, c), e an error at hand -/
def rIsK (K : PySem.W.Frag) : List V → Hp → VK → Prop := fun xs H Q => ∃ (a D dd : Addr) (fs : List (Str × V)) (c : V) (cv : Value) (b : Bool), xs = [.ref a, c] ∧ H a = some (exk a (.ref D) (some dd)) ∧ H dd = some (.xd fs) ∧ EkC K D ∧ (∀ u, RelV c u → u = cv) ∧ PySem.W.kitOne K (.ref D) cv = some b ∧ Q (.bl b) H
/-- e.f, e an error at hand -/
def tXk (K : PySem.W.Frag) (f : Str) (te : TE) : TE := fun σ H Q => te σ H fun x H1 => ∃ (a D dd : Addr) (fs : List (Str × V)) (v : V), x = .ref a ∧ H1 a = some (exk a (.ref D) (some dd)) ∧ H1 dd = some (.xd fs) ∧ XfC K D ∧ PySem.W.findIn K (.ref D) f = some none ∧ fs.lookup f = some v ∧ Q v H1
section
variable {X : Cx}
theorem exk_inst {P : Program} {w : World} {H : Hp} {h : Heap} {a D dd : Addr} {fs : List (Str × V)} (k : HOk P w H h) (e : H a = some (exk a (.ref D) (some dd))) (ed : H dd = some (.xd fs)) :
    ∃ (o : Obj) (od : Obj) (mA : Str → Option Value), PySem.W.InstAt h a o D (some od) ∧ o.dict = some dd ∧ h.get? dd = some od ∧ h.Ns1 dd mA ∧ ∀ f, RelO (fs.lookup f) (mA f) := by
  obtain ⟨o, fv, e1, z, f⟩ := exk_at k e
  have y : ObjOk P w H h dd (.xd fs) := k dd _ ed
  obtain ⟨mA, hns, hr⟩ := y
  obtain ⟨od, es, ep, ho, hd2⟩ := id hns
  exact ⟨o, od, mA, ⟨e1, z.1, by unfold PySem.W.notCls; rw [f] <;> rfl, by rw [z.2]; exact ho⟩, z.2, ho, hns, hr⟩
theorem call_isK : CallR X (.builtin "isinstance") (rIsK X.K) := by
  intro pins s σ H xs us Q I r h
  obtain ⟨a, D, dd, fs, c, cv, b, rfl, ea, ed, C, hcv, e, q⟩ := h
  obtain ⟨u1, u2, rfl, r1, r2⟩ := vals2 r
  obtain rfl : u1 = Value.ref a := r1
  obtain rfl := hcv _ r2
  obtain ⟨o, od, mA, J, _, _, _, _⟩ := exk_inst I.hok ea ed
  exact PySem.W.kia_one (PySem.W.kitx_exc C.cl C.ga C.gg C.be C.ca C.sg C.tk C.ob) I.kIn J e (fun z => nomatch z) fun tk => ⟨.bl b, H, I.kept (t' := tk) fun _ _ z => z, rfl, q⟩
theorem pe_xk {e : Expr} {te : TE} {pos : Pos} {f : Str} (he : PE X e te) (hb : attributeBase e f X.env (eval e X.env) = eval e X.env := by rfl) : PE X (.Attribute e f pos) (tXk X.K f te) := by
  refine ⟨fun pins s σ H Q I h => ?_⟩
  refine attr_of hb (thn (he.run pins s σ H _ I h) fun u s1 hh => ?_)
  obtain ⟨x, H1, I1, rx, a, D, dd, fs, v, ex, ea, ed, T, hno, l, q⟩ := hh
  subst ex
  obtain rfl : u = Value.ref a := rx
  obtain ⟨o, od, mA, J, edct, ho, hns, hr⟩ := exk_inst I1.hok ea ed
  obtain ⟨od', ho', hl⟩ := lookIn_ns hns
  obtain rfl : od = od' := Option.some.inj (ho.symm.trans ho')
  obtain ⟨u, hu, ru⟩ := RelO.some_of (v := v) (o := mA f) (by rw [← l]; exact hr f)
  exact HandSPX.exc_get I1.kIn J T.ga T.gg T.exC (PySem.W.findObj_own T.hdC hno rfl (by rw [hl, hu])) (handed_of ru) ⟨v, H1, I1.tok _, ru, q⟩
end
end Sk
/-! SkG: defs that are called where nothing is being shown (repr of nested data asks that), repr, sorted of data. -/
namespace Sk
open PySem PySem.Spec PyProof.Rows L2
/-- no repr is under way -/
abbrev Calm (A : Around) : Prop := A.guards = some []
/-- a def keeps a promise, called where no repr is under way; nothing is raised out of it -/
structure DefG (P : Program) (w : World) (K : PySem.W.Frag) (mg : Str → Option Value) (base : Heap) (k : Nat) (d : DX) (n : Nat) (sp : Sp) : Prop where
  run : ∀ (A : Around) (outer : List Env) (s : Shared) (H : Hp) (us : List Value) (vs : List V) (Q : VK), Calm A → Room k A → Env0 P w K mg base A outer s H → Vals vs us → sp vs H Q C8.E0 →
    codeAny (model P w) A (.call (.ref (pAd K d.at_)) ⟨us, []⟩) (CR C8.CX0 outer P w H s Q C8.E0) s
  kp : PySem.W.keepIn K (.ref (pAd K d.at_)) = true
theorem code_ref {K : PySem.W.Frag} {cdv : Value} {q : Str} (h : PySem.W.codeIn K cdv q = true) : ∃ c, cdv = .ref c := by
  cases cdv with
  | ref c => exact ⟨c, rfl⟩
  | _ => cases h
section
variable {P : Program} {w : World} {K : PySem.W.Frag} {mg : Str → Option Value} {base : Heap} {d : DX} {N ps : List Str} {k : Nat} {sp : Sp}
theorem DefG.mono (D : DefG P w K mg base k d ps.length sp) {j : Nat} (h : k ≤ j) : DefG P w K mg base j d ps.length sp :=
  ⟨fun A outer s H us vs Q hc hr => D.run A outer s H us vs Q hc (hr.mono h), D.kp⟩
theorem mk_defG (F : ∃ fd, FnX K d fd) (hd : d.dfl = []) (S : FnScope N ps (defScope d.st)) (len : ∀ vs H Q E, sp vs H Q E → vs.length = ps.length)
    (hb : ∀ (kV doc pm : Value) (an : Option Addr) (cdv ct : Value) (us : List Value), us.length = ps.length → bindArgs (PySem.W.fnOf d.nm d.qual (defArgs d.st) (defBody d.st) (defScope d.st) .none kV doc pm an cdv ct) ⟨us, []⟩ = pure (ps.zip us))
    (hbody : ∀ (cdv : Value) (A : Around) (outer : List Env) (s : Shared) (H : Hp) (vs : List V) (Q : VK), cdv = .ref (codeAd K (pAd K d.at_)) → Calm (A.deeper (envOfC d.qual (defScope d.st) s.heap.objs.size (pAd K d.at_) cdv)) →
      Room k (A.deeper (envOfC d.qual (defScope d.st) s.heap.objs.size (pAd K d.at_) cdv)) → sp vs H Q C8.E0 →
      ∃ t, PSs (cxOf C8.CX0 P w K mg base N d.qual (defScope d.st) (pAd K d.at_) cdv A outer s H C8.E0).nox (defBody d.st) t ∧ t { nx := fun _ H' => Q .non H', rt := Q } (L2.start N vs) H) : DefG P w K mg base (k + 1) d ps.length sp := by
  obtain ⟨fd, F⟩ := F
  have G : FunD K d.nm d.qual (defArgs d.st) (defBody d.st) (defScope d.st) [] [] (pAd K d.at_) fd := by
    have z := F
    unfold FnX DX.dvs at z
    rw [hd] at z
    exact z
  have bd := G.bindsN hb
  obtain ⟨oc, od, dV, kV, doc, pm, an, cdv, ct, osl, e, lk, hcd, _, _⟩ := G.ex
  subst e
  obtain ⟨c, ec⟩ := code_ref hcd
  have eC : cdv = .ref (codeAd K (pAd K d.at_)) := by
    subst ec
    unfold codeAd
    rw [lk]
  refine ⟨fun A outer s H us vs Q hc hr e0 r hs => ?_, F.kp⟩
  have hl := len _ _ _ _ hs
  have hul : us.length = ps.length := by rw [← r.length]; exact hl
  have hb2 := bd s us (e0.mod.kin.keeps fun b o q => (e0.bs b o q).1) (by rw [List.append_nil]; exact hul)
  rw [List.append_nil] at hb2
  refine LamX.run_ofS lk hcd S hr e0 hb2 r hl fun hr2 => ?_
  obtain ⟨t, h1, h2⟩ := hbody cdv A outer s H vs Q eC hc hr2 hs
  exact ⟨t, h1.nox, h2⟩
end
section
variable {X : Cx} {d : DX} {n : Nat} {k : Nat} {sp : Sp} {x : Str} {p pos : Pos} {e : Expr} {es : List Expr} {t : TA}
/-- f(e, ..) where no repr is under way -/
theorem pcallG (D : DefG X.prog X.w X.K X.mg X.base k d n sp) (hc : Calm X.A) (hr : Room k X.A) (hg : Gl X x) (hm : X.mg x = some (.ref (pAd X.K d.at_))) (ha : PA X (e :: es) t) (hdb : (x == ("__debug__" : Str)) = false := by decide)
    (he : starEach (e :: es) X.env = (false, eval e X.env) :: starEach es X.env := by rfl) (hpl : (backTo pos (starEach es X.env)).any (·.1) = false := by rfl) : PE X (.Call (.Name x p) (e :: es) [] pos) (tCall sp [] C8.E0 t) := by
  constructor
  intro pins s σ H Q I h
  apply wpAny_Call_Name_kw
  refine ld_glob I hg hm ?_ hdb
  refine PySem.W.callWith_K (h₀ := X.base) I.ok.mod.kin D.kp (thn (ha.run pos pins s σ H _ I h) fun us s1 ⟨vs, H1, I1, r, q⟩ => ⟨I1.kIn, ?_⟩) he hpl
  have q2 : sp vs H1 Q C8.E0 := by
    have z : sp (vs ++ []) H1 Q C8.E0 := q
    rw [List.append_nil] at z
    exact z
  refine wpAny_call (codeAny_mono (D.run X.A X.stack s1 H1 us vs Q hc hr I1.env0 r q2) fun r s2 hq => ?_)
  match r, hq with
  | .error _, hq => exact (show False from hq).elim
  | .ok (.ret u), hq => exact I1.after hq
  | .ok .next, hq => exact hq.elim
  | .ok .brk, hq => exact hq.elim
  | .ok .cont, hq => exact hq.elim
end
/-! ### values as data, with dicts of texts -/
mutual
inductive Dr (K : PySem.W.Frag) (H : Hp) : V → PyData → Prop
  | non : Dr K H .non .none
  | bl (b : Bool) : Dr K H (.bl b) (.bool b)
  | int (i : Int) : Dr K H (.int i) (.int i)
  | str (x : Str) : Dr K H (.str x) (.str x)
  | lst {a : Addr} {xs : List V} {ds : List PyData} : H a = some (.lst xs) → DrAll K H xs ds → Dr K H (.ref a) (.list ds)
  | tup {a : Addr} {xs : List V} {ds : List PyData} : SqT K H a xs → DrAll K H xs ds → Dr K H (.ref a) (.tuple ds)
  | dct {a : Addr} {kvs : List (Key × V)} {ds : List (PyData × PyData)} : H a = some (.dK kvs) → DrKv K H kvs ds → Dr K H (.ref a) (.dict ds)
inductive DrAll (K : PySem.W.Frag) (H : Hp) : List V → List PyData → Prop
  | nil : DrAll K H [] []
  | cons {v : V} {vs : List V} {d : PyData} {ds : List PyData} : Dr K H v d → DrAll K H vs ds → DrAll K H (v :: vs) (d :: ds)
inductive DrKv (K : PySem.W.Frag) (H : Hp) : List (Key × V) → List (PyData × PyData) → Prop
  | nil : DrKv K H [] []
  | cons {x : Str} {v : V} {kvs : List (Key × V)} {d : PyData} {ds : List (PyData × PyData)} : Dr K H v d → DrKv K H kvs ds → DrKv K H ((.inr x, v) :: kvs) ((.str x, d) :: ds)
end
theorem same_sqT {K : PySem.W.Frag} {H H' : Hp} {a : Addr} {xs : List V} (s : L2.Same H H') (h : SqT K H a xs) : SqT K H' a xs := by
  rcases h with (h | ⟨o, h⟩) | h
  · exact .inl (.inl (s _ _ h))
  · exact .inl (.inr ⟨o, s _ _ h⟩)
  · exact .inr h
mutual
theorem Dr.keep {K : PySem.W.Frag} {H H' : Hp} (s : L2.Same H H') : ∀ (d : PyData) (v : V), Dr K H v d → Dr K H' v d
  | _, _, .non => .non
  | _, _, .bl b => .bl b
  | _, _, .int i => .int i
  | _, _, .str x => .str x
  | _, _, .lst h r => .lst (s _ _ h) (DrAll.keep s _ _ r)
  | _, _, .tup h r => .tup (same_sqT s h) (DrAll.keep s _ _ r)
  | _, _, .dct h r => .dct (s _ _ h) (DrKv.keep s _ _ r)
theorem DrAll.keep {K : PySem.W.Frag} {H H' : Hp} (s : L2.Same H H') : ∀ (ds : List PyData) (vs : List V), DrAll K H vs ds → DrAll K H' vs ds
  | _, _, .nil => .nil
  | _, _, .cons h r => .cons (Dr.keep s _ _ h) (DrAll.keep s _ _ r)
theorem DrKv.keep {K : PySem.W.Frag} {H H' : Hp} (s : L2.Same H H') : ∀ (ds : List (PyData × PyData)) (kvs : List (Key × V)), DrKv K H kvs ds → DrKv K H' kvs ds
  | _, _, .nil => .nil
  | _, _, .cons h r => .cons (Dr.keep s _ _ h) (DrKv.keep s _ _ r)
end
section
variable {X : Cx} {pins : List (Addr × Obj)} {σ : L2.St} {H : Hp} {s : Shared}
mutual
theorem Dr.reads (I : Inv X pins σ H s) (m : H sysModules = none) : ∀ {d : PyData} {v : V} {u : Value}, Dr X.K H v d → RelV v u → ∃ as, Reads s.heap u d as ∧ sysModules ∉ as
  | _, _, _, .non, r => by
    cases r
    exact ⟨_, .none, by simp⟩
  | _, _, _, .bl b, r => by
    cases r
    exact ⟨_, .bool b, by simp⟩
  | _, _, _, .int i, r => by
    obtain ⟨t, rfl⟩ := r
    exact ⟨_, .int i t, by simp⟩
  | _, _, _, .str x, r => by
    obtain ⟨t, rfl⟩ := r
    exact ⟨_, .str x t, by simp⟩
  | _, _, _, .lst (a := a) h rs, r => by
    cases r
    obtain ⟨_, its, n, rv, e⟩ := I.hok a _ h
    obtain ⟨as, hr, hn⟩ := DrAll.reads I m rs rv
    refine ⟨a :: as, .list e rfl rfl hr, fun z => ?_⟩
    rcases List.mem_cons.mp z with z | z
    · rw [← z, m] at h
      cases h
    · exact hn z
  | _, _, _, .tup h rs, r => by
    cases r
    obtain ⟨its, rv, ⟨o, e, hc, n, hd⟩, _⟩ := I.tuple h
    obtain ⟨as, hr, hn⟩ := DrAll.reads I m rs rv
    exact ⟨as, .tuple e hc hd hr, hn⟩
  | _, _, _, .dct (a := a) h rs, r => by
    cases r
    obtain ⟨_, hs, ks, rv, o, es, ep, e, ⟨hc, _, _⟩, hd, _, hp, _⟩ := I.hok a _ h
    obtain ⟨as, bs, h1, h2, n1, n2⟩ := DrKv.reads I m rs rv hp
    refine ⟨a :: as ++ bs, .dict e hc hd h1 h2, fun z => ?_⟩
    rcases List.mem_append.mp z with z | z
    · rcases List.mem_cons.mp z with z | z
      · rw [← z] at hs
        simp at hs
      · exact n1 z
    · exact n2 z
theorem DrAll.reads (I : Inv X pins σ H s) (m : H sysModules = none) : ∀ {ds : List PyData} {vs : List V} {us : List Value}, DrAll X.K H vs ds → Vals vs us → ∃ as, ReadsAll s.heap us ds as ∧ sysModules ∉ as
  | _, _, _, .nil, r => by
    cases r
    exact ⟨_, .nil, by simp⟩
  | _, _, _, .cons h rs, r => by
    cases r with
    | cons r1 r2 =>
      obtain ⟨as, h1, n1⟩ := Dr.reads I m h r1
      obtain ⟨bs, h2, n2⟩ := DrAll.reads I m rs r2
      refine ⟨_, .cons h1 h2, fun z => ?_⟩
      rcases List.mem_append.mp z with z | z
      · exact n1 z
      · exact n2 z
theorem DrKv.reads (I : Inv X pins σ H s) (m : H sysModules = none) : ∀ {ds : List (PyData × PyData)} {kvs : List (Key × V)} {vs : List (Key × Value)} {es : List DictEntry}, DrKv X.K H kvs ds → KV kvs vs → Pairs (mixKind X.prog X.w) es vs →
    ∃ as bs, ReadsAll s.heap (es.map (·.key)) (ds.map (·.1)) as ∧ ReadsAll s.heap (es.map (·.val)) (ds.map (·.2)) bs ∧ sysModules ∉ as ∧ sysModules ∉ bs
  | _, _, _, _, .nil, rv, hp => by
    cases rv
    cases hp
    exact ⟨_, _, .nil, .nil, by simp, by simp⟩
  | _, _, _, _, .cons (x := x) h rs, rv, hp => by
    cases rv with
    | cons r1 r2 =>
      cases hp with
      | cons hk hv hp2 =>
        obtain ⟨as, bs, h1, h2, n1, n2⟩ := DrKv.reads I m rs r2 hp2
        obtain ⟨e1, rv1⟩ := r1
        obtain ⟨cs, h3, n3⟩ := Dr.reads I m h rv1
        rw [← e1] at hk
        have hk2 : keyIs (Sum.inr x) _ = true := hk
        rcases keyIs_shape hk2 with ⟨i, t, e, _⟩ | ⟨y, t, e, ek⟩
        · cases e
        · have e2 : x = y := Sum.inr.inj e
          subst e2
          refine ⟨[] ++ as, cs ++ bs, ?_, ?_, n1, fun z => ?_⟩
          · show ReadsAll s.heap (_ :: _) (_ :: _) _
            refine .cons ?_ h1
            show Reads s.heap (DictEntry.key _) _ _
            rw [ek]
            exact .str _ t
          · show ReadsAll s.heap (_ :: _) (_ :: _) _
            refine .cons ?_ h2
            show Reads s.heap (DictEntry.val _) _ _
            rw [hv]
            exact h3
          · rcases List.mem_append.mp z with z | z
            · exact n3 z
            · exact n2 z
end
/-- repr(v) of data -/
def rRepr (K : PySem.W.Frag) : List V → Hp → VK → Prop := fun xs H Q => ∃ v d, xs = [v] ∧ Dr K H v d ∧ d.showable = true ∧ d.depth ≤ 64 ∧ d.shown.length ≤ sizeLine ∧ Q (.str d.shown) H
theorem call_reprG (hc : Calm X.A) (hu : X.A.units + 100 < cLine) (hm : (X.K.lookup sysModules).isSome = true) : CallR X (.builtin "repr") (rRepr X.K) := by
  intro pins s σ H xs us Q I r h
  obtain ⟨v, d, rfl, D, hs, hd, hz, q⟩ := h
  obtain ⟨u, rfl, rv⟩ := vals1 r
  have m : H sysModules = none := by
    obtain ⟨o, ho⟩ := Option.isSome_iff_exists.mp hm
    exact (I.bs _ _ (I.ok.mod.kin _ _ ho)).2
  obtain ⟨as, hr, hn⟩ := Dr.reads I m D rv
  have fin : ∀ (h' : Heap) (tk tk2 : Nat), (∀ b o, s.heap.get? b = some o → h'.get? b = some o) → EP X pins σ Q (.str d.shown tk) { s with heap := h', toks := tk2 } := fun h' tk tk2 k => ⟨.str d.shown, H, I.kept k, ⟨tk, rfl⟩, q⟩
  cases hr with
  | none => exact PySem.P.repr_of_none (fin s.heap _ _ fun _ _ e => e)
  | bool b => cases b <;> exact PySem.P.repr_of_bool (fin s.heap _ _ fun _ _ e => e)
  | int i t => exact PySem.P.repr_of_int (by simpa [PyData.showable] using hs) (fin s.heap _ _ fun _ _ e => e)
  | str x t => exact PySem.P.repr_of_str (fin s.heap _ _ fun _ _ e => e) (by simpa only [PyData.shown] using hz)
  | list h1 h2 h3 h4 => exact repr_of_reads' (Reads.list h1 h2 h3 h4) hs (fun _ => hn) hc (by omega) (fun _ _ e => e) (fun h' u tk k => fin h' u tk k) hz
  | tuple h1 h2 h3 h4 => exact repr_of_reads' (Reads.tuple h1 h2 h3 h4) hs (fun _ => hn) hc (by omega) (fun _ _ e => e) (fun h' u tk k => fin h' u tk k) hz
  | dict h1 h2 h3 h4 h5 => exact repr_of_reads' (Reads.dict h1 h2 h3 h4 h5) hs (fun _ => hn) hc (by omega) (fun _ _ e => e) (fun h' u tk k => fin h' u tk k) hz
end
/-! ### sorted of data -/
/-- values in the order of their data -/
def sortD (vs : List V) (ds : List PyData) : List V := ((vs.zip ds).mergeSort (PySem.W.dataLe false fun p : V × PyData => p.2)).map (·.1)
def rSortD (K : PySem.W.Frag) : List V → Hp → VK → Prop := fun xs H Q => ∃ (a : Addr) (vs : List V) (ds : List PyData), xs = [.ref a] ∧ SqL K H a vs ∧ DpAll K H vs ds ∧ PySem.W.AllAlike ds ∧ PySem.W.Sortable ds ∧ (∀ d ∈ ds, d.depth ≤ 64) ∧
  ∀ p, H p = none → Q (.ref p) (upd H p (.lst (sortD vs ds)))
theorem dpAll_len {K : PySem.W.Frag} {H : Hp} : ∀ {vs : List V} {ds : List PyData}, DpAll K H vs ds → vs.length = ds.length
  | _, _, .nil => rfl
  | _, _, .cons _ r => congrArg (· + 1) (dpAll_len r)
section
variable {X : Cx} {pins : List (Addr × Obj)} {σ : L2.St} {H : Hp} {s : Shared}
theorem dp_each (I : Inv X pins σ H s) : ∀ {vs : List V} {ds : List PyData} {us : List Value}, DpAll X.K H vs ds → Vals vs us →
    PySem.W.EachIs (fun (v : Value) (b : V × PyData) => RelV b.1 v) us (vs.zip ds) ∧ PySem.W.EachIs (fun (v : Value) (b : V × PyData) => ∃ as, Reads s.heap v b.2 as) us (vs.zip ds)
  | _, _, _, .nil, .nil => ⟨.nil, .nil⟩
  | _, _, _, .cons h rs, .cons r1 r2 => by
    obtain ⟨a, b⟩ := dp_each I rs r2
    exact ⟨.cons r1 a, .cons (Dp.reads I _ _ _ h r1) b⟩
theorem each_vals : ∀ {us : List Value} {bs : List (V × PyData)}, PySem.W.EachIs (fun (v : Value) (b : V × PyData) => RelV b.1 v) us bs → Vals (bs.map (·.1)) us
  | _, _, .nil => .nil
  | _, _, .cons h r => .cons h (each_vals r)
theorem zip_snd : ∀ {vs : List V} {ds : List PyData}, vs.length = ds.length → (vs.zip ds).map (fun p => p.2) = ds
  | [], [], _ => rfl
  | v :: vs, d :: ds, h => by
    show d :: (vs.zip ds).map (fun p => p.2) = _
    rw [zip_snd (by simpa using h)]
  | [], _ :: _, h => by cases h
  | _ :: _, [], h => by cases h
theorem call_sortedD2 (hu : X.A.units + 100 < cLine) : CallR X (.builtin "sorted") (rSortD X.K) := by
  intro pins s σ H xs us Q I r h
  obtain ⟨a, vs, ds, rfl, hs, hd, hal, hk, hdep, q⟩ := h
  obtain ⟨its, rv, hl, hz⟩ := I.list hs
  rw [Vals.ref1 r]
  have hlen := dpAll_len hd
  obtain ⟨e1, e2⟩ := dp_each I hd rv
  have es := zip_snd hlen
  refine PySem.W.sorted_data (enc := fun p : V × PyData => p.2) (R := fun (v : Value) (b : V × PyData) => RelV b.1 v) hl.isList e1 e2 (by rw [es]; exact hal) (by rw [es]; exact hk) (by rw [List.length_zip]; omega) (fun b hb => ?_) fun out ho eo => ?_
  · have := hdep b.2 (by rw [← es]; exact List.mem_map.mpr ⟨b, hb, rfl⟩)
    omega
  · obtain ⟨ep, he⟩ := PyProof.Rows.sortedAll_at s.heap its out.toArray
    have hq := q (s.heap.objs.size + 1) (I.hok.fresh (Nat.le_succ _))
    have hv : Vals (sortD vs ds) out := each_vals eo
    refine ⟨.ref (s.heap.objs.size + 1), upd H (s.heap.objs.size + 1) (.lst (sortD vs ds)), I.laid (t' := s.toks) (fun _ _ => PyProof.Rows.sortedAll_old) (Nat.le_succ _) ⟨?_, out, ep, hv, he⟩, rfl, hq⟩
    unfold sortD
    rw [List.length_map, List.length_mergeSort, List.length_zip]
    omega
end
end Sk
/-! SkEnd: the law's call behind the top, where no repr is under way and one code object's table is at hand. -/
namespace Sk
open PySem PySem.Spec PyProof.Rows L2
open PySem.W (CodeHd tabObj codeHdIn)
structure TabF (K : PySem.W.Frag) (h : Heap) (a : Addr) : Prop where
  hd : codeHdIn K (codeAd K a) (tabAd K a) = true
  at_ : h.get? (tabAd K a) = some (tabObj #[])
  no : K.lookup (tabAd K a) = none
theorem emptyTab_ok {o : Option Obj} (h : emptyTab o = true) : o = some (tabObj #[]) := by
  cases o with
  | none => cases h
  | some o =>
    obtain ⟨c, d, dt, sl⟩ := o
    cases c with
    | none =>
      cases d with
      | none =>
        cases dt with
        | fields vs =>
          obtain ⟨h1, h2⟩ := He.ba (show (vs.isEmpty && sl.isEmpty) = true from h)
          have e1 := Array.isEmpty_iff.mp h1
          have e2 := Array.isEmpty_iff.mp h2
          rw [e1, e2]
        | _ => cases h
      | some _ => cases dt <;> cases h
    | _ => cases d <;> cases dt <;> cases h
theorem tabB_ok {K : PySem.W.Frag} {h : Heap} {a : Addr} (e : tabB K h.get? a = true) : TabF K h a := by
  obtain ⟨h1, h⟩ := He.ba e
  obtain ⟨h2, h3⟩ := He.ba h
  exact ⟨h1, emptyTab_ok h2, by simpa using h3⟩
def hookT (as : List Addr) (fa : List Fx) (fn : List DX) (d : DX) : PySem.W.Hook where
  α := Bool × Al
  obs := fun s => (tabB (He.frG s.heap.get? as) s.heap.get? (pAd (He.frG s.heap.get? as) d.at_), obsXG as fa fn s.heap.get?)
  val := fun _ => (true, valX fn)
  says := fun _ h => ∃ K : PySem.W.Frag, K.In h ∧ SaysX fa fn K ∧ TabF K h (pAd K d.at_)
  of := fun _ _ e => ⟨_, He.frG_in, congrArg (fun z : Bool × Al => z.2) e, tabB_ok (congrArg (fun z : Bool × Al => z.1) e)⟩
  keeps := fun _ _ _ ⟨K, hK, c, t⟩ k => ⟨K, PySem.W.Frag.In.keeps hK k, c, t.hd, k _ _ t.at_, t.no⟩
/-- what the call leaves -/
abbrev Left (s₁ : Shared) (r : Result) (s' : Shared) : Prop := r = .ok (.ret (.bool true)) ∧ OldK s₁.heap s'.heap ∧ s'.os = s₁.os ∧ AllBare s'.gens
/-- the script and the table tracked -/
def hp0 (K : PySem.W.Frag) (T a : Addr) (o : Obj) (xs : List V) : Hp := fun b => if b = T then some (.tbl #[]) else if b = a ∧ K.lookup a = none then some (.frz o (.lst xs)) else none
section
variable {P : Program} {w : World} {K : PySem.W.Frag} {mg mb : Str → Option Value} {k n : Nat} {d : DX} {sp : Sp} {s₁ : Shared} {vs : List Value} {ns : List Int} {a c T : Addr}
theorem law_callG (KX : K.In s₁.heap) (gN : s₁.heap.Ns mainGlobals mg) (bN : s₁.heap.Ns builtinsNs mb) (bV : ∀ x : Str, x ≠ "__name__" → mb x = bootBuiltins x) (lim : s₁.heap.NoLimit) (gens : s₁.gens = #[])
    (hT : s₁.heap.get? T = some (tabObj #[])) (nT : K.lookup T = none) (hC : CodeHd s₁.heap c T)
    (bm : ∃ (m : Addr) (ob : Obj), mg "__builtins__" = some (.ref m) ∧ m ≠ builtinsNs ∧ s₁.heap.get? m = some ob ∧ ob.cls = .type "module" ∧ ob.dict = some builtinsNs ∧ ob.data = .plain)
    (hA : s₁.heap.get? a = some { cls := .type "list", data := .seq vs.toArray }) (hi : IntsAre vs ns) (hl : ns.length ≤ sizeLine) (hr : Room k callerA)
    (F : ∀ base : Heap, K.In base → base.Ns mainGlobals mg → LamX.TabB base mg c T → DefG P w K mg base k d n sp)
    (hsp : ∀ H : Hp, H T = some (.tbl #[]) → SqL K H a (ns.map V.int) → sp [.ref a] H (fun v _ => v = .bl true) C8.E0) :
    codeAny (model P w) callerA (.call (.ref (pAd K d.at_)) ⟨[.ref a], []⟩) (Left s₁) s₁ := by
  have rv := vals_ints hi
  have nAT : a ≠ T := fun z => by
    rw [z, hT] at hA
    cases hA
  obtain ⟨H, eH⟩ : ∃ H, H = hp0 K T a { cls := .type "list", data := .seq vs.toArray } (ns.map V.int) := ⟨_, rfl⟩
  have HT : H T = some (.tbl #[]) := by
    rw [eH]
    exact if_pos rfl
  -- what is tracked is one of the two
  have two : ∀ {b : Addr} {u : HO}, H b = some u → (b = T ∧ u = .tbl #[]) ∨ (b = a ∧ K.lookup a = none ∧ u = .frz { cls := .type "list", data := .seq vs.toArray } (.lst (ns.map V.int))) := fun {b u} e => by
    rw [eH] at e
    unfold hp0 at e
    by_cases h1 : b = T
    · rw [if_pos h1] at e
      exact .inl ⟨h1, (Option.some.inj e).symm⟩
    · rw [if_neg h1] at e
      by_cases h2 : b = a ∧ K.lookup a = none
      · rw [if_pos h2] at e
        exact .inr ⟨h2.1, h2.2, (Option.some.inj e).symm⟩
      · rw [if_neg h2] at e
        cases e
  have seqA : SqL K H a (ns.map V.int) := by
    cases q : K.lookup a with
    | none =>
      refine .inl (.inr ⟨{ cls := .type "list", data := .seq vs.toArray }, ?_⟩)
      rw [eH]
      unfold hp0
      rw [if_neg nAT, if_pos ⟨rfl, q⟩]
    | some o =>
      have z := KX a o q
      rw [hA] at z
      cases z
      exact .inr ⟨_, vs.toArray, _, q, rfl, rfl, rfl, by rw [List.size_toArray, hi.length]; exact hl, by simpa using rv⟩
  have okH : HOk P w H s₁.heap := fun b u e => by
    rcases two e with ⟨rfl, rfl⟩ | ⟨rfl, _, rfl⟩
    · exact hT
    · exact ⟨hA, by rw [List.length_map]; exact hl, vs, _, rv, hA⟩
  -- objects that are none of the two stand below
  have low : ∀ {b : Addr} {o : Obj}, s₁.heap.get? b = some o → o.cls ≠ .none → o.cls ≠ .type "list" → (hidT s₁.heap H).get? b = some o := fun {b o} e h1 h2 => hidT_get e (by
    cases q : H b with
    | none => rfl
    | some u =>
      rcases two q with ⟨rfl, _⟩ | ⟨rfl, _, _⟩
      · rw [hT] at e
        cases e
        exact absurd rfl h1
      · rw [hA] at e
        cases e
        exact absurd rfl h2)
  have lowD : ∀ {b : Addr} {o : Obj} {es : Array DictEntry} {ep : Nat}, s₁.heap.get? b = some o → o.data = .dict es ep → (hidT s₁.heap H).get? b = some o := fun {b o es ep} e hd => hidT_get e (by
    cases q : H b with
    | none => rfl
    | some u =>
      rcases two q with ⟨rfl, _⟩ | ⟨rfl, _, _⟩
      · rw [hT] at e
        cases e
        cases hd
      · rw [hA] at e
        cases e
        cases hd)
  have lowN : ∀ {b : Addr} {m : Str → Option Value}, s₁.heap.Ns b m → (hidT s₁.heap H).Ns b m := fun {b m} z => by
    obtain ⟨o, es, ep, e, hd, r⟩ := z
    exact ⟨o, es, ep, lowD e hd, hd, r⟩
  have lowK : K.In (hidT s₁.heap H) := fun b o e => hidT_get (KX b o e) (by
    cases q : H b with
    | none => rfl
    | some u =>
      rcases two q with ⟨rfl, _⟩ | ⟨rfl, z, _⟩
      · rw [nT] at e
        cases e
      · rw [z] at e
        cases e)
  have lowL : (hidT s₁.heap H).NoLimit := by
    obtain ⟨mc, h1, h2⟩ := lim
    exact ⟨mc, lowN h1, h2⟩
  have nMT : mainGlobals ≠ T := fun z => by
    obtain ⟨o, es, ep, e, hd, _⟩ := gN
    rw [z, hT] at e
    cases e
    cases hd
  have TB : LamX.TabB (hidT s₁.heap H) mg c T := by
    refine ⟨?_, ?_, nMT⟩
    · obtain ⟨o, us, file, tf, fl, tg, iF, tx, tt, e1, r1, r2⟩ := hC
      refine ⟨o, us, file, tf, fl, tg, iF, tx, tt, low e1 ?_ ?_, r1, r2⟩
      · rw [r1]
        simp
      · rw [r1]
        simp
    · obtain ⟨m, ob, b1, b2, b3, b4, b5, b6⟩ := bm
      refine ⟨m, ob, b1, b2, fun z => ?_, fun z => ?_, low b3 ?_ ?_, b4, b5, b6⟩
      · obtain ⟨o, es, ep, e, hd, _⟩ := gN
        rw [z, e] at b3
        cases b3
        rw [hd] at b6
        cases b6
      · rw [z, hT] at b3
        cases b3
        cases b6
      · rw [b4]
        simp
      · rw [b4]
        simp
  have hM : L2.Mod K mg (hidT s₁.heap H) := ⟨lowK, lowN gN, ⟨mb, lowN bN, bV⟩, lowL⟩
  have D := F _ lowK (lowN gN) TB
  have noF : ∀ b : Addr, b ∉ frs [] := fun b z => by
    have z' : b ∈ ([] : List Addr) := z
    cases z'
  have e0 : Env0 P w K mg (hidT s₁.heap H) callerA [] s₁ H := {
    frames := rfl
    mod := hM
    bs := fun b o e => of_hidT e
    bsz := Nat.le_of_eq (hidT_size _ _)
    funs := trivial
    frf := fun b z => absurd z (noF b)
    hok := okH
    bare := .of_eq gens }
  refine codeAny_mono (D.run callerA [] s₁ H [.ref a] [.ref a] _ rfl hr e0 (.cons rfl .nil) (hsp H HT seqA)) fun r s' h => ?_
  match r, h with
  | .error _, h => exact (show False from h).elim
  | .ok .next, h => exact h.elim
  | .ok .brk, h => exact h.elim
  | .ok .cont, h => exact h.elim
  | .ok (.ret u), h =>
    obtain ⟨v, H', os, bare, un, ok', rv', q⟩ := h
    have ev : v = .bl true := q
    rw [ev] at rv'
    have eu : u = .bool true := rv'
    rw [eu]
    refine ⟨rfl, ?_, os, bare⟩
    have kept : ∀ b o, b ≠ T → s₁.heap.get? b = some o → s'.heap.get? b = some o := fun b o nb e => by
      cases q : H b with
      | none => exact un.keep b o e q (noF b) (by simp)
      | some u' =>
        rcases two q with ⟨z, _⟩ | ⟨rfl, _, rfl⟩
        · exact absurd z nb
        · have z := (ok' _ _ (un.frzs _ _ _ q)).1
          have z2 := (okH _ _ q).1
          rw [e] at z2
          rw [Option.some.inj z2]
          exact z
    obtain ⟨more, ht⟩ : ∃ more : Array Value, s'.heap.get? T = some (tabObj more) := by
      obtain ⟨more, z⟩ := un.tbls T #[] HT
      exact ⟨_, ok' T _ z⟩
    refine ⟨fun b o e => ?_, fun b o e => ?_⟩
    · by_cases hb : b = T
      · rw [hb, hT] at e
        cases e
        rw [hb]
        exact .inr (.inl ⟨(hC.tab hT).isCodeTable, rfl, #[], more, rfl, by rw [Array.empty_append]; exact ht⟩)
      · exact .inl (kept b o hb e)
    · by_cases hb : b = T
      · rw [hb]
        exact ⟨_, ht⟩
      · exact ⟨o, kept b o hb e⟩
end
/-- the law's end -/
theorem walk_G {l : PySem.W.OpenLaw} {m k : Nat} {q : Program} {loose : List Str} {XP : (Str → Option Value) → Heap → Prop} {YP : World → Heap → Prop} {r : DefRec} (hn : l.most = some m) (hm : m ≤ sizeLine) (hdf : r.params.defaults = []) (hr : Room k callerA)
    (F : ∀ (w : World) (mg : Str → Option Value) (fa : Addr) (h : Heap), YP w h → h.Ns mainGlobals mg → mg r.name = some (.ref fa) →
      ∃ (K : PySem.W.Frag) (d : DX) (n : Nat) (sp : Sp) (c T : Addr), K.In h ∧ fa = pAd K d.at_ ∧ CodeHd h c T ∧ h.get? T = some (tabObj #[]) ∧ K.lookup T = none ∧ (∀ base : Heap, K.In base → base.Ns mainGlobals mg → LamX.TabB base mg c T → DefG l.prog w K mg base k d n sp) ∧
        ∀ (H : Hp) (a : Addr) (ns : List Int), ns.length ≤ m → (∀ z ∈ ns, Builtin.Int.intBits z ≤ 1048576) → H T = some (.tbl #[]) → SqL K H a (ns.map V.int) → sp [.ref a] H (fun v _ => v = .bl true) C8.E0) :
    PySem.W.WalkO q loose XP YP l.row.toRowW r [] (fun f vs => PySem.call f vs) := by
  apply Att.attach_callB hn hdf
  intro w s₀ s₁ mg mb fa o pm cd doc a vs ns G Y ho hd hcd hmg hobj hints hlen hbits hg
  obtain ⟨K, d, n, sp, c, T, KX, ef, hC, hT, nT, hF, hsp⟩ := F w mg fa _ Y G.T.g hmg
  rw [ef]
  exact law_callG KX G.T.g G.T.b G.T.builtins G.T.nolimit hg hT nT hC G.T.bmain hobj hints (Nat.le_trans hlen hm) hr hF (fun H h1 h2 => hsp H a ns hlen hbits h1 h2)
end Sk
/-! SkEnum: enumerate of a tuple. -/
namespace Sk
open PySem PySem.Spec PyProof.Rows L2
abbrev titO (t : Addr) : Obj := { cls := .type "tuple_iterator", data := .fields #[.ref t, .int 0 0] }
abbrev enO (it : Addr) : Obj := { cls := .type "enumerate", data := .fields #[.none, .bool false, .ref it, rawInt 0, .none, .none] }
theorem meets_en {v : Value} {o : Obj} {G : Heap → Prop} (B : Begins v o G) :
    Meets (Builtin.«enumerate.__new__» ⟨[.type "enumerate", v], []⟩) (fun _ R s => G s.heap ∧ R (.ok (.ret (.ref (s.heap.push o).objs.size))) { s with heap := (s.heap.push o).push (enO s.heap.objs.size) }) := by
  refine .of_wp fun prog w A R s h => ?_
  obtain ⟨hp, g, d, tk, os⟩ := s
  obtain ⟨h1, h⟩ := h
  have hsub := sub_enumerate
  have st : ∀ {A' : Around} {E : Value → Shared → Prop} {Q : Value → Shared → Prop}, Q (.ref hp.objs.size) ⟨hp.push o, g, d, tk, os⟩ → wpAny (model prog w) A' (pyIter v) Q E ⟨hp, g, d, tk, os⟩ := fun {A' E Q} q => B.iter prog w A' E ⟨hp, g, d, tk, os⟩ Q h1 q
  wp_walk using st
  refine wpAny_stack_any fun stk => wpAny_pure ?_
  split
  · rename_i c _ _ _ _ _
    cases (c == Value.type "enumerate") <;> (wp_walk using st; exact ⟨_, rfl, h⟩)
  · wp_walk using st
    exact ⟨_, rfl, h⟩
theorem call_en {prog : Program} {w : World} {A : Around} {E : Value → Shared → Prop} {s : Shared} {v : Value} {o : Obj} {G : Heap → Prop} {Q : Value → Shared → Prop} (B : Begins v o G) (h1 : G s.heap)
    (q : ∀ h', IsEnum h' (s.heap.objs.size + 1) s.heap.objs.size 0 .none → h'.get? s.heap.objs.size = some o → (∀ b u, s.heap.get? b = some u → h'.get? b = some u) → Q (.ref (s.heap.objs.size + 1)) { s with heap := h' }) :
    wpAny (model prog w) A (call (.type "enumerate") [v]) Q E s := by
  have hz : (s.heap.push o).objs.size = s.heap.objs.size + 1 := Heap.size_push ..
  have he : IsEnum ((s.heap.push o).push (enO s.heap.objs.size)) (s.heap.objs.size + 1) s.heap.objs.size 0 .none := by
    have z := Heap.get?_push_size (s.heap.push o) (o := enO s.heap.objs.size) rfl
    rw [hz] at z
    exact z
  refine callType_new F.called_enumerate (by decide) (F.typeCall_enumerate_1 _) (F.newCall_enumerate_1 _) (fun x => F.args_object_init_2 x _) F.entry_enumerate_new (meets_en B) ⟨h1, ?_⟩
  show _ ∧ _
  rw [hz]
  exact ⟨⟨_, he, rfl⟩, q _ he (Heap.get?_push_of_some _ (Heap.get?_push_size _ B.free)) fun b u e => Heap.get?_push_of_some _ (Heap.get?_push_of_some _ e)⟩
/-- a tuple's items with their places, each pair new -/
def Itet (K : PySem.W.Frag) (a : Addr) : It where
  go := fun i H => ∃ (xs : List V) (x : V), SqT K H a xs ∧ xs[i]? = some x
  yld := fun i H v H' => ∃ T x, v = .ref T ∧ H T = none ∧ H' = upd H T (.tup [.int (i : Nat), x]) ∧ ∀ xs, SqT K H a xs → xs[i]? = some x
  stop := fun i H => ∃ xs : List V, SqT K H a xs ∧ xs.length = i
theorem turn_en {P : Program} {w : World} {K : PySem.W.Frag} {elts : List Expr} {kk : Nat} {tpos : Pos} (a e it : Addr) :
    Turn P w K (.Tuple elts kk tpos) (Itet K a) [e, it] e (fun i h => (∃ old, IsEnum h e it ((i : Nat) : Int) old) ∧ h.IsTupleIter it a i ∧ e ≠ it ∧ a ≠ it ∧ a ≠ e) where
  mem := by simp
  obj := fun i h st b hb => by
    obtain ⟨⟨old, he⟩, ⟨o, ho, hc, hd⟩, _⟩ := st
    rcases (by simpa using hb : b = e ∨ b = it) with z | z <;> rw [z]
    · exact ⟨_, he, fun v q => nomatch q⟩
    · exact ⟨o, ho, fun v q => by rw [hd] at q; cases q⟩
  keep := fun i h h' st k => by
    obtain ⟨⟨old, he⟩, hi, r⟩ := st
    exact ⟨⟨old, k e (by simp) _ he⟩, hi.at fun o q => k it (by simp) o q, r⟩
  item := by
    intro X hP hw hK hc i pins s σ H E I hf st hg
    cases hP
    cases hw
    cases hK
    obtain ⟨⟨old, he⟩, hit, hne, hai, hae⟩ := st
    obtain ⟨xs, x, hq, hx⟩ := hg
    obtain ⟨its, rv, p, hz⟩ := I.tuple hq
    obtain ⟨u, hu, ru⟩ := rv.get hx
    have pt : s.heap.IsTuple a its.toArray := p
    have hil : i < its.toArray.size := by
      have z := (List.getElem?_eq_some_iff.mp hu).1
      simpa using z
    have D := Draws.tuple (prog := X.prog) (w := X.w) (A := X.A.in1) (I.ok.hd hc) it a hai its.toArray
    refine wpAny_pyNext_enum_itemC D he ⟨hit, pt⟩ hil hne (by simp [hne, Ne.symm hae]) fun y h' tk hy ho hs' hT hsz hk => ?_
    have ey : y = u := by
      have z : its.toArray[i]? = some y := hy
      rw [List.getElem?_toArray, hu] at z
      exact (Option.some.inj z).symm
    subst ey
    refine ⟨_, rfl, wpAny_letOwnedTupleGo_enum (s := { s with heap := h', toks := tk + 1 }) ho fun h2 he2 sb => ?_⟩
    have el := Heap.lt_size he
    have il : it < s.heap.objs.size := by
      obtain ⟨_, z, _⟩ := hit
      exact Heap.lt_size z
    have hT2 : h2.get? s.heap.objs.size = some { cls := .type "tuple", data := .seq #[.int (i : Nat) tk, y] } := (sb.2 _ (Nat.ne_of_gt el)).trans hT
    have nw : ObjOk X.prog X.w (upd H s.heap.objs.size (.tup [.int (i : Nat), x])) h2 s.heap.objs.size (.tup [.int (i : Nat), x]) :=
      ⟨by show 2 ≤ sizeLine; decide, [.int (i : Nat) tk, y], .cons ⟨_, rfl⟩ (.cons ru .nil), ⟨_, hT2, rfl, _, rfl⟩⟩
    have I1 : Inv X pins σ (upd H s.heap.objs.size (.tup [.int (i : Nat), x])) { s with heap := h2, toks := tk + 1 } := by
      refine I.turnedNew (ch := [e, it]) (fun b ob hb q => ?_) hf (Nat.le_refl _) nw
      have n1 : b ≠ e := fun z => hb (by simp [z])
      have n2 : b ≠ it := fun z => hb (by simp [z])
      exact (sb.2 b n1).trans (hk b ob n1 n2 q)
    refine ⟨.ref s.heap.objs.size, _, I1, rfl, ⟨_, x, rfl, I.hok.fresh (Nat.le_refl _), rfl, fun ys hy => by rw [I.tuple_inj hy hq]; exact hx⟩, ⟨⟨y, ?_⟩, hs'.1.at fun o q => (sb.2 it (Ne.symm hne)).trans q, hne, hai, hae⟩, fun b hb => ?_⟩
    · rw [show ((i + 1 : Nat) : Int) = (i : Int) + 1 by omega]
      exact he2
    · have hl : b < s.heap.objs.size := by
        rcases (by simpa using hb : b = e ∨ b = it) with z | z <;> rw [z]
        · exact el
        · exact il
      rw [upd_ne (Nat.ne_of_lt hl)]
      exact (hf b hb).1
  done := by
    intro X hP hw hK hc i pins s σ H E I hf st hg
    cases hP
    cases hw
    cases hK
    obtain ⟨⟨old, he⟩, hit, hne, hai, hae⟩ := st
    obtain ⟨xs, hq, hx⟩ := hg
    obtain ⟨its, rv, p, hz⟩ := I.tuple hq
    have pt : s.heap.IsTuple a its.toArray := p
    have hn : i = its.toArray.size := by
      have z := rv.length
      simp
      omega
    subst hn
    obtain ⟨f0, f1, f2, f3, f4, f5⟩ := hf it (by simp)
    have D := Draws.tuple (prog := X.prog) (w := X.w) (A := X.A.in1) (I.ok.hd hc) it a hai its.toArray
    exact wpAny_pyNext_enum_endD D he ⟨hit, pt⟩ fun h' eb => ⟨rfl, I.turned (t' := s.toks) (fun b o hb q => eb b o hb q) f0 f1 f3 f4 f5⟩
  self := fun A i s Q E st h => by
    obtain ⟨⟨_, he⟩, _⟩ := st
    exact wpAny_pyIter_enum he h
def iEnumT (K : PySem.W.Frag) (ta : TA) : TI := fun σ H R => ta σ H fun vs H1 => ∃ a xs, vs = [.ref a] ∧ SqT K H1 a xs ∧ R (Itet K a) H1
theorem pi_enumT {X : Cx} {e : Expr} {ta : TA} {p pos tpos : Pos} {elts : List Expr} {kk : Nat} (hg : Gl X "enumerate") (hm : X.mg "enumerate" = none) (ha : PA X [e] ta) (hs : starEach [e] X.env = [(false, eval e X.env)] := by rfl) :
    PI X (.Tuple elts kk tpos) (.Call (.Name "enumerate" p) [e] [] pos) (iEnumT X.K ta) := by
  constructor
  intro pins s σ H R I h
  refine Call_ (ld_blt I hg hm boot_enumerate (PyProof.Rows.callWith_type1 (thn (ha.run pos pins s σ H _ I h) fun us s1 ⟨vs, H1, I1, r1, a, xs, ex, hq, q⟩ => ?_) hs rfl))
  subst ex
  rw [Vals.ref1 r1]
  obtain ⟨its, rv, p', hz⟩ := I1.tuple hq
  have pt : s1.heap.IsTuple a its.toArray := p'
  have al : a < s1.heap.objs.size := by
    obtain ⟨o, ho, _⟩ := pt
    exact Heap.lt_size ho
  refine call_en (begins_tuple a its.toArray) pt fun h' he ho hk => wpAny_pyIter_enum he ?_
  have I2 : Inv X pins σ H1 { s1 with heap := h' } := I1.kept (t' := s1.toks) hk
  refine ⟨s1.heap.objs.size + 1, [s1.heap.objs.size + 1, s1.heap.objs.size], _, _, H1, rfl, I2, turn_en a (s1.heap.objs.size + 1) s1.heap.objs.size, ⟨⟨.none, he⟩, ⟨_, ho, rfl, rfl⟩, Nat.succ_ne_self _, Nat.ne_of_lt al, Nat.ne_of_lt (Nat.lt_succ_of_lt al)⟩, fun b hb => ?_, q⟩
  have hle : s1.heap.objs.size ≤ b := by
    rcases (by simpa using hb : b = s1.heap.objs.size + 1 ∨ b = s1.heap.objs.size) with z | z <;> rw [z]
    · exact Nat.le_succ _
    · exact Nat.le_refl _
  exact I1.fpOk hle (I1.hok.fresh hle)
theorem walk_enumT {K : PySem.W.Frag} {a : Addr} {xs : List V} : Walk (Itet K a) xs.length (fun H => SqT K H a xs) (YPair (fun i => some (.int (i : Nat))) (fun i => xs[i]?)) := by
  refine ⟨fun i _ hi q => ⟨xs, xs[i], q, by simp [hi]⟩, fun _ q => ⟨xs, q, rfl⟩, fun i H v H' _ q y => ?_⟩
  obtain ⟨T, x, h1, h2, h3, h4⟩ := y
  exact ⟨T, .int (i : Nat), x, h1, h2, h3, rfl, h4 xs q⟩
end Sk
/-! SkSort: what sorted of data comes to where the first places tell all apart. -/
namespace Sk
open PySem PySem.Spec PyProof.Rows L2
open PySem.W (dataLt dataLe alike AllAlike Sortable)
theorem lt_first {x y : PyData} {xs ys : List PyData} (h : alike x y = true) (e : PyData.eqv x y = false) : dataLt (.tuple (x :: xs)) (.tuple (y :: ys)) = dataLt x y := by
  rw [PySem.W.dataLt_tuple]
  exact PySem.W.dataLt_all_no h e
theorem lt_str1 {x y : Str} {xs ys : List PyData} (h : cl x < cl y) : dataLt (.tuple (.str y :: ys)) (.tuple (.str x :: xs)) = false ∧ dataLt (.tuple (.str x :: xs)) (.tuple (.str y :: ys)) = true := by
  have ne : x ≠ y := fun z => by rw [z] at h; exact List.lt_irrefl _ h
  have e1 : PyData.eqv (.str y) (.str x) = false := by simpa [PyData.eqv] using Ne.symm ne
  have e2 : PyData.eqv (.str x) (.str y) = false := by simpa [PyData.eqv] using ne
  refine ⟨?_, ?_⟩
  · rw [lt_first (by simp [alike]) e1, PySem.W.dataLt_str]
    exact decide_eq_false (List.lt_asymm h)
  · rw [lt_first (by simp [alike]) e2, PySem.W.dataLt_str]
    exact decide_eq_true h
theorem lt_int1 {x y : Int} {xs ys : List PyData} (h : x < y) : dataLt (.tuple (.int y :: ys)) (.tuple (.int x :: xs)) = false ∧ dataLt (.tuple (.int x :: xs)) (.tuple (.int y :: ys)) = true := by
  have e1 : PyData.eqv (.int y) (.int x) = false := by simp [PyData.eqv]; omega
  have e2 : PyData.eqv (.int x) (.int y) = false := by simp [PyData.eqv]; omega
  refine ⟨?_, ?_⟩
  · rw [lt_first (by simp [alike]) e1, PySem.W.dataLt_int]
    exact decide_eq_false (by omega)
  · rw [lt_first (by simp [alike]) e2, PySem.W.dataLt_int]
    exact decide_eq_true h
/-- the rows in the order es, told apart -/
def Up (es : List PyData) : Prop := es.Pairwise fun a b => dataLt b a = false ∧ dataLt a b = true
theorem sortD_eq {vs ys : List V} {ds es : List PyData} (hl : ys.length = es.length) (hp : (ys.zip es).Perm (vs.zip ds)) (hu : Up es) : sortD vs ds = ys := by
  have e2 := zip_snd hl
  have up : (ys.zip es).Pairwise fun a b => dataLt b.2 a.2 = false ∧ dataLt a.2 b.2 = true := by
    have z := hu
    unfold Up at z
    rw [← e2] at z
    exact List.pairwise_map.mp z
  have tot : PySem.W.TotalLe (dataLe false fun p : V × PyData => p.2) := PySem.W.sortLe_total _ _ _
  have s1 : (ys.zip es).Pairwise fun a b => dataLe false (fun p : V × PyData => p.2) a b = true := up.imp fun h => by
    rw [PySem.W.dataLe_eq]
    show (!dataLt _ _) = true
    rw [h.1]
    rfl
  have s2 := PySem.W.sort_pairwise tot (vs.zip ds)
  have p2 : (ys.zip es).Perm ((vs.zip ds).mergeSort (dataLe false fun p : V × PyData => p.2)) := hp.trans (List.mergeSort_perm _ _).symm
  have anti : ∀ a b, a ∈ ys.zip es → b ∈ ((vs.zip ds).mergeSort (dataLe false fun p : V × PyData => p.2)) → dataLe false (fun p : V × PyData => p.2) a b = true → dataLe false (fun p : V × PyData => p.2) b a = true → a = b := fun a b ha hb h1 h2 => by
    have hb2 := p2.mem_iff.mpr hb
    rw [PySem.W.dataLe_eq] at h1 h2
    have n1 : (!dataLt b.2 a.2) = true := h1
    have n2 : (!dataLt a.2 b.2) = true := h2
    obtain ⟨i, hi⟩ := List.mem_iff_getElem?.mp ha
    obtain ⟨j, hj⟩ := List.mem_iff_getElem?.mp hb2
    have hi' := List.getElem?_eq_some_iff.mp hi
    have hj' := List.getElem?_eq_some_iff.mp hj
    obtain ⟨hil, hie⟩ := hi'
    obtain ⟨hjl, hje⟩ := hj'
    rw [List.pairwise_iff_getElem] at up
    rcases Nat.lt_trichotomy i j with h | h | h
    · have z := (up i j hil hjl h).2
      rw [hie, hje] at z
      rw [z] at n2
      cases n2
    · subst h
      rw [hi] at hj
      exact Option.some.inj hj
    · have z := (up j i hjl hil h).2
      rw [hie, hje] at z
      rw [z] at n1
      cases n1
  have e := List.Perm.eq_of_pairwise anti s1 s2 p2
  unfold sortD
  rw [← e]
  have key : ∀ {a : List V} {b : List PyData}, a.length = b.length → (a.zip b).map (·.1) = a := by
    intro a
    induction a with
    | nil => intro b _; rfl
    | cons x a ih =>
      intro b hb
      cases b with
      | nil => cases hb
      | cons y b =>
        show x :: (a.zip b).map (·.1) = _
        rw [ih (by simpa using hb)]
  exact key hl
end Sk
/-! SkExt: a list that takes in a tuple's items. -/
namespace Sk
open PySem PySem.Spec PyProof.Rows L2
open PySem.AutoSeq1 (wpAny_loadPart' idx_int)
theorem ext_tup {l b : Addr} {xs ys : Array Value} {n m : Nat} {dc : Option Addr} {sl : Array (Option Value)} (h0 : ¬(!xs.isEmpty && Builtin.List.listTooLong (xs.size + ys.size)) = true) (h1 : xs.size ≤ sizeLine) (h2 : xs.size + ys.size ≤ sizeLine + 1) :
    Meets (Builtin.«list.extend» ⟨[.ref l, .ref b], []⟩) (fun _ R s => s.heap.get? l = some { cls := .type "list", data := .seq xs n } ∧ s.heap.get? b = some ⟨.type "tuple", dc, .seq ys m, sl⟩ ∧ R (.ok (.ret .none)) { s with heap := s.heap.update l (Obj.mapSeq fun z => z ++ ys), toks := s.toks }) := by
  refine .of_wp fun prog w A R s h => ?_
  obtain ⟨hp, g, d, tk, os⟩ := s
  obtain ⟨hl, hb, h⟩ := h
  have f1 := idx_int
  have f2 := sub_tuple_tuple
  have f3 := sub_list_list
  have f4 := sub_tuple_list
  have f5 := sub_list_tuple
  have hz : (xs ++ ys).size ≤ sizeLine + 1 := by
    rw [Array.size_append]
    exact h2
  wp_walk using (wpAny_updateSeq hl rfl (hz := h1) (_hz' := hz)), wpAny_loadPart' hl, wpAny_loadPart' hb
  exact ⟨_, rfl, h⟩
def rExtT : V → List V → Hp → VK → Prop := fun x vs H Q => ∃ l b xs zs, x = .ref l ∧ vs = [.ref b] ∧ H l = some (.lst xs) ∧ H b = some (.tup zs) ∧ xs.length + zs.length ≤ sizeLine ∧ Q .non (upd H l (.lst (xs ++ zs)))
theorem mt_extendT {X : Cx} : MtM X "list.extend" rExtT := by
  intro pins s σ H x vs v us Q I rx rv h
  obtain ⟨l, b, xs, zs, rfl, rfl, hH, hB, hz, q⟩ := h
  cases rx
  obtain ⟨u, rfl, ru⟩ := rv.one
  cases ru
  obtain ⟨z1, its, n, r, hl, e⟩ := I.lstM hH
  obtain ⟨z2, its2, r2, ⟨oc, od, dt, sl⟩, e2, hc, m, hd⟩ := I.hok b _ hB
  have hc : oc = .type "tuple" := hc
  have hd : dt = .seq its2.toArray m := hd
  subst hc hd
  have hl2 := r2.length
  have size : its.toArray.size + its2.toArray.size ≤ sizeLine := by
    rw [List.size_toArray, List.size_toArray]
    omega
  refine call_meets F.slot_list_extend ⟨_, e, rfl⟩ F.entry_list_extend (F.args_list_extend_2 _ _) (ext_tup (l := l) (n := n) (m := m) (dc := od) (sl := sl) (xs := its.toArray) (ys := its2.toArray) ?_ ?_ ?_) ⟨e, e2, ?_⟩
  · rw [notLongL size, Bool.and_false]
    exact Bool.false_ne_true
  · rw [List.size_toArray]
    omega
  · omega
  · refine ⟨.non, _, I.lset (its' := its ++ its2) hH e (by simp) (r.append r2) ?_, rfl, q⟩
    rw [List.length_append]
    omega
end Sk
/-! SkFld: fields and methods of an object inside a comprehension (the frame's facts by a word of their own). -/
namespace Sk
open PySem PySem.Spec PyProof.Rows L2
section
variable {X : Cx} {K : PySem.W.Frag} {P : Program} {w : World} {mg : Str → Option Value} {base : Heap} {o e : Expr} {es : List Expr} {f m : Str} {pos apos : Pos} {ta : TE} {t : TA} {C pf : Addr} {E : XK} {d : DX} {ps : List Str} {k : Nat} {sp : Sp}
theorem pe_fldK (he : PE X e ta) (hb : attributeBase e f X.env (eval e X.env) = eval e X.env) (hK : X.K = K := by rfl) : PE X (.Attribute e f pos) (tFld K ta f) := by
  subst hK
  exact pe_fld he hb
/-- the keys of a dict that the walk itself makes: locked from here on -/
def iKeysN (td : TE) : TI := fun σ H R => td σ H fun x H1 => ∃ d kvs, x = .ref d ∧ H1 d = some (.dK kvs) ∧ ∀ o, R (Itk d o kvs) (upd H1 d (.frz o (.dK kvs)))
theorem pi_keysN {tg : Expr} {td : TE} (he : PE X e td) : PI X tg e (iKeysN td) := by
  refine ⟨fun pins s σ H R I h => ?_⟩
  refine thn (he.run pins s σ H _ I h) fun u s1 ⟨x, H1, I1, rx, d, kvs, ex, hd, q⟩ => ?_
  subst ex
  obtain rfl : u = Value.ref d := rx
  obtain ⟨o, I2⟩ := I1.lock hd trivial
  have hd2 : (upd H1 d (.frz o (.dK kvs))) d = some (.frz o (.dK kvs)) := upd_same
  obtain ⟨hs, hgd, hx, es, ep, vs, hdt, hsz, kv, hm⟩ := I2.frzK hd2
  refine iter_keys hs hgd hx hdt (pi_one (tk := s1.toks) I2 _ (turn_keys _ hdt) ⟨_, Heap.get?_push_size _ rfl, rfl, ?_⟩ (q o))
  rw [hsz] <;> rfl
end
end Sk
/-! SkStep: a tuple by steps of 1 or -1. -/
namespace Sk
open PySem PySem.Spec PyProof.Rows L2 HT
section
variable {prog : Program} {w : World} {A : Around} {E : Value → Shared → Prop} {s : Shared}
theorem applied_up {sl : Addr} {t : Tok} {n : Nat} {Q : Int × Int × Nat → Shared → Prop} (hs : s.heap.IsSliceOf sl .none .none (.int 1 t)) (h : Q (0, 1, n) s) : wpAny (model prog w) A (Builtin.Slice.sliceApplied (.ref sl) (pure (n : Int))) Q E s := by
  obtain ⟨os, hos, hcs, hds⟩ := id hs
  unfold Builtin.Slice.sliceApplied Builtin.Slice.sliceFields
  refine wpAny_bind (wpAny_bind (wpAny_field hos hds (x := .none) rfl (wpAny_bind (wpAny_field hos hds (x := .none) rfl (wpAny_bind (wpAny_field hos hds (x := .int 1 t) rfl (wpAny_pure ?_)))))))
  refine wpAny_bind (slicePart_int ?_)
  show wpAny _ _ (if ((1 : Int) == 0) = true then _ else _) _ _ s
  rw [if_neg (by decide)]
  refine wpAny_bind (slicePart_none (wpAny_bind (slicePart_none (wpAny_bind (wpAny_pure ?_)))))
  show wpAny _ _ (pure ((0 : Int), (1 : Int), Builtin.Slice.slicePlaces 0 (n : Int) 1)) _ _ s
  have e : Builtin.Slice.slicePlaces 0 (n : Int) 1 = n := by
    have z := places_gen 0 n
    simpa using z
  rw [e]
  exact wpAny_pure h
theorem applied_down {sl : Addr} {t : Tok} {n : Nat} {Q : Int × Int × Nat → Shared → Prop} (hs : s.heap.IsSliceOf sl .none .none (.int (-1) t)) (h : Q ((n : Int) - 1, -1, n) s) : wpAny (model prog w) A (Builtin.Slice.sliceApplied (.ref sl) (pure (n : Int))) Q E s := by
  obtain ⟨os, hos, hcs, hds⟩ := id hs
  unfold Builtin.Slice.sliceApplied Builtin.Slice.sliceFields
  refine wpAny_bind (wpAny_bind (wpAny_field hos hds (x := .none) rfl (wpAny_bind (wpAny_field hos hds (x := .none) rfl (wpAny_bind (wpAny_field hos hds (x := .int (-1) t) rfl (wpAny_pure ?_)))))))
  refine wpAny_bind (slicePart_int ?_)
  show wpAny _ _ (if ((-1 : Int) == 0) = true then _ else _) _ _ s
  rw [if_neg (by decide)]
  refine wpAny_bind (slicePart_none (wpAny_bind (slicePart_none (wpAny_bind (wpAny_pure ?_)))))
  show wpAny _ _ (pure ((n : Int) - 1, (-1 : Int), Builtin.Slice.slicePlaces ((n : Int) - 1) (-1) (-1))) _ _ s
  have e : Builtin.Slice.slicePlaces ((n : Int) - 1) (-1) (-1) = n := by
    unfold Builtin.Slice.slicePlaces
    rw [if_neg (by decide), show (-(-1) : Int) = 1 by decide, Int.ediv_one]
    split <;> omega
  rw [e]
  exact wpAny_pure h
theorem fm_congr {α β : Type} {f g : α → Option β} : ∀ {l : List α}, (∀ x ∈ l, f x = g x) → l.filterMap f = l.filterMap g
  | [], _ => rfl
  | a :: r, h => by
    rw [List.filterMap_cons, List.filterMap_cons, h a List.mem_cons_self, fm_congr fun x hx => h x (List.mem_cons_of_mem _ hx)]
theorem pick_down (xs : Array Value) : ((List.range xs.size).filterMap fun (m : Nat) => xs[(((xs.size : Nat) : Int) - 1 + (m : Int) * (-1)).toNat]?) = xs.toList.reverse := by
  have z := congrArg Array.toList (PySem.W.krv_pick xs)
  unfold slicePick at z
  rw [PySem.W.krv_bounds] at z
  have z2 : (sliceRange ((xs.size : Int) - 1) (-1) (-1)).filterMap (xs[·]?) = xs.toList.reverse := by simpa using z
  rw [PySem.W.krv_sliceRange, List.filterMap_map] at z2
  rw [← z2]
  refine fm_congr fun m hm => ?_
  have := List.mem_range.mp hm
  show xs[(((xs.size : Nat) : Int) - 1 + (m : Int) * (-1)).toNat]? = xs[xs.size - 1 - m]?
  congr 1
  omega
theorem item_up {a b : Addr} {xs : Array Value} {k : Tok} {R : Value → Shared → Prop} (hA : IsTup s.heap a xs) (hB : s.heap.IsSliceOf b .none .none (.int 1 k)) (hR : R (.ref a) s) : wpAny (model prog w) A (getItem (.ref a) (.ref b)) R E s := by
  have kS : s.TypeIs (.ref b) "slice" := let ⟨o, e1, e2, _⟩ := id hB; ⟨o, e1, e2⟩
  unfold getItem
  try with_reducible refine wpAny_holding ?_
  first | refine wpAny_bind (wpAny_pure ?_) | skip
  refine wpAny_bind (wpAny_sequenceKey hA.typeIs (by decide) (wpAny_bind (wpAny_callSpecial?_slot (name := Str.ofString "__getitem__") hA.typeIs slot_tuple_getitem (wpAny_call_entry slot_tuple_getitem hA.typeIs entry_tuple_getitem ?_ (args_tuple_getitem _ _)))))
  show wpAny _ _ (Builtin.Tuple.tupleItemsOf (.ref a) >>= _) _ _ s
  refine wpAny_bind (tupleItemsOf_ hA (wpAny_bind (wpAny_typeOf kS ?_)))
  rw [if_pos (by decide)]
  refine wpAny_bind (applied_up hB ?_)
  show wpAny _ _ (if ((0 : Int) == 0 && (1 : Int) == 1 && xs.size == xs.size) = true then _ else _) _ _ s
  rw [if_pos (by simp)]
  refine wpAny_bind ?_
  show wpAny _ _ (typeOf (.ref a) >>= fun T => pure (T == .type "tuple")) _ _ s
  refine wpAny_bind (wpAny_typeOf hA.typeIs (wpAny_pure ?_))
  first | rw [if_pos (by decide)] | simp only [beq_self_eq_true, if_true]
  first | exact wpAny_bind (wpAny_rule (wpAny_pure ⟨_, rfl, wpAny_pure hR⟩)) | exact wpAny_bind (wpAny_rule (wpAny_bind (wpAny_pure (wpAny_pure ⟨_, rfl, wpAny_pure hR⟩))))
theorem item_down {a b : Addr} {xs : Array Value} {k : Tok} {R : Value → Shared → Prop} (hA : IsTup s.heap a xs) (hB : s.heap.IsSliceOf b .none .none (.int (-1) k)) (hz : xs.size ≤ sizeLine)
    (hR : R (.ref s.heap.objs.size) { s with heap := s.heap.push { cls := .type "tuple", data := .seq xs.toList.reverse.toArray } }) : wpAny (model prog w) A (getItem (.ref a) (.ref b)) R E s := by
  have fits : sizeOk (.seq xs.toList.reverse.toArray) := by
    show xs.toList.reverse.toArray.size ≤ sizeLine
    rw [List.size_toArray, List.length_reverse, Array.length_toList]
    exact hz
  have kS : s.TypeIs (.ref b) "slice" := let ⟨o, e1, e2, _⟩ := id hB; ⟨o, e1, e2⟩
  unfold getItem
  try with_reducible refine wpAny_holding ?_
  first | refine wpAny_bind (wpAny_pure ?_) | skip
  refine wpAny_bind (wpAny_sequenceKey hA.typeIs (by decide) (wpAny_bind (wpAny_callSpecial?_slot (name := Str.ofString "__getitem__") hA.typeIs slot_tuple_getitem (wpAny_call_entry slot_tuple_getitem hA.typeIs entry_tuple_getitem ?_ (args_tuple_getitem _ _)))))
  show wpAny _ _ (Builtin.Tuple.tupleItemsOf (.ref a) >>= _) _ _ s
  refine wpAny_bind (tupleItemsOf_ hA (wpAny_bind (wpAny_typeOf kS ?_)))
  rw [if_pos (by decide)]
  refine wpAny_bind (applied_down hB ?_)
  show wpAny _ _ (if ((((xs.size : Nat) : Int) - 1) == 0 && (-1 : Int) == 1 && xs.size == xs.size) = true then _ else _) _ _ s
  have no : ¬ (((((xs.size : Nat) : Int) - 1) == 0 && (-1 : Int) == 1 && xs.size == xs.size) = true) := by
    rw [show ((-1 : Int) == 1) = false by decide]
    simp
  rw [if_neg no, pick_down]
  first
    | exact wpAny_bind (m := Builtin.Tuple.tupleExact _) (wpAny_newObj_type (wpAny_pure ⟨_, rfl, wpAny_pure hR⟩) fits)
    | exact wpAny_bind (m := Builtin.Tuple.tupleExact _) (wpAny_newObj_type (wpAny_bind (wpAny_pure (wpAny_pure ⟨_, rfl, wpAny_pure hR⟩))) fits)
    | exact wpAny_bind (wpAny_bind (m := Builtin.Tuple.tupleExact _) (wpAny_newObj_type (wpAny_pure (wpAny_pure ⟨_, rfl, wpAny_pure hR⟩)) fits))
    | exact wpAny_bind (wpAny_bind (m := Builtin.Tuple.tupleExact _) (wpAny_newObj_type (wpAny_pure ⟨_, rfl, wpAny_pure hR⟩) fits))
end
/-- t[::i], i 1 or -1 -/
def tStepT (K : PySem.W.Frag) (te tk : TE) : TE := fun σ H Q => te σ H fun x H1 => tPart tk σ H1 fun o H2 => ∃ a xs i, o = some i ∧ x = .ref a ∧ H2 a = some (.tup xs) ∧ (i = 1 ∨ i = -1) ∧ ∀ (b : Bool) (p : Addr) (H3 : Hp), L2.Same H2 H3 → H3 p = some (.tup (if b = true then xs.reverse else xs)) → Q (.ref p) H3
section
variable {X : Cx}
theorem pe_stepT {e k : Expr} {te tk : TE} {p2 pos : Pos} (he : PE X e te) (hk : PE X k tk) : PE X (.Subscript e (.Slice none none (some k) p2) pos) (tStepT X.K te tk) := by
  refine ⟨fun pins s σ H Q I h => ?_⟩
  refine Subscript_ (thn (he.run pins s σ H _ I h) fun v s1 ⟨x, H1, I1, r1, q1⟩ => ?_)
  refine wpAny_Slice (thn (po_none.run pins s1 σ H1 (fun o H2 => o = none ∧ H2 = H1) I1 ⟨rfl, rfl⟩) fun vl s2 ⟨l, H2, I2, pl, el, e2⟩ => ?_)
  subst el e2
  refine thn (po_none.run pins s2 σ H2 (fun o H3 => o = none ∧ H3 = H2) I2 ⟨rfl, rfl⟩) fun vu s3 ⟨u, H3, I3, pu, eu, e3⟩ => ?_
  subst eu e3
  refine thn ((po_some hk).run pins s3 σ H3 _ I3 q1) fun vs s4 ⟨o, H4, I4, ps, a, xs, i, eo, ex, hx, hi, q⟩ => ?_
  subst ex eo
  obtain rfl : v = Value.ref a := r1
  cases pl
  cases pu
  cases ps with
  | int i t =>
    have I5 : Inv X pins σ H4 { s4 with heap := s4.heap.push { cls := .type "slice", data := .fields #[.none, .none, .int i t] } } := I4.kept (t' := s4.toks) fun b ob q => Heap.get?_push_of_some _ q
    obtain ⟨its, r, ht, hz⟩ := I5.tuple (SqT.of hx)
    have hlen := r.length
    show wpAny (model X.prog X.w) X.A (subscriptTail e (.Slice none none (some k) p2) (.ref a) (.ref s4.heap.objs.size)) (EP X pins σ Q) X.xe { s4 with heap := s4.heap.push { cls := .type "slice", data := .fields #[.none, .none, .int i t] } }
    refine tail_any (ops := [.ref a, .ref s4.heap.objs.size]) ht.typeIs (PyProof.Rows.slot_tuple_getitem.lookup) ?_ (by with_unfolding_all rfl)
    rcases hi with rfl | rfl
    · exact item_up ht (Heap.IsSliceOf.new ..) ⟨.ref a, H4, I5, rfl, q false a H4 (Same.refl _) hx⟩
    · refine item_down ht (Heap.IsSliceOf.new ..) (by rw [List.size_toArray]; omega) ?_
      refine ⟨.ref _, _, I5.laid (t' := s4.toks) (o := .tup xs.reverse) (fun b ob q => Heap.get?_push_of_some _ q) (Nat.le_refl _) ?_, rfl, q true _ _ (nw (Same.refl _) (I5.hok.fresh (Nat.le_refl _))) upd_same⟩
      refine ⟨by rw [List.length_reverse]; exact hz, its.reverse, r.reverse, ?_⟩
      exact IsTup.new _ _
end
end Sk
namespace Sk
open PySem PySem.Spec PyProof.Rows L2
/-- the facts at hand: the written part, the module's names -/
structure Wt (K : PySem.W.Frag) (mg : Str → Option Value) : Prop where
  says : SaysX fa fn K
  at_ : ∃ h : Heap, K.In h ∧ h.Ns mainGlobals mg
section
variable {K : PySem.W.Frag} {mg : Str → Option Value}
theorem Wt.fa (T : Wt K mg) (i : Nat) {f : Fx} (h : Sk.fa[i]? = some f) : f.ok K = true := T.says.fact (List.mem_of_getElem? h)
theorem Wt.fn (T : Wt K mg) (i : Nat) {d : DX} (h : Sk.fn[i]? = some d) (hclo : d.clo = [] := by rfl) : ∃ fd, FnX K d fd := T.says.def_ i h hclo
theorem Wt.glo (T : Wt K mg) {x : Str} (h : (Fx.h (.glo x)).ok K = true) : mg x = some (.ref (He.ga K x)) := by
  obtain ⟨_, X, G⟩ := T.at_
  exact He.glo_ok X G h
theorem Wt.free (T : Wt K mg) {x : Str} (h : (Fx.h (.free x)).ok K = true) : mg x = none := by
  obtain ⟨_, X, G⟩ := T.at_
  exact He.free_ok X G h
theorem Wt.int (T : Wt K mg) {x : Str} {i : Int} (h : (Fx.h (.int x i)).ok K = true) : ∃ t, mg x = some (.int i t) := by
  obtain ⟨_, X, G⟩ := T.at_
  exact He.int_ok X G h
theorem Wt.str (T : Wt K mg) {x z : Str} (h : (Fx.h (.str x z)).ok K = true) : ∃ t, mg x = some (.str z t) := by
  obtain ⟨_, X, G⟩ := T.at_
  exact He.str_ok X G h
theorem g_is_text (T : Wt K mg) : mg "is_text" = some (.ref (He.ga K "is_text")) := T.glo (T.fa 0 rfl)
theorem g_is_integer (T : Wt K mg) : mg "is_integer" = some (.ref (He.ga K "is_integer")) := T.glo (T.fa 1 rfl)
theorem g_is_name (T : Wt K mg) : mg "is_name" = some (.ref (He.ga K "is_name")) := T.glo (T.fa 2 rfl)
theorem g_is_line_text (T : Wt K mg) : mg "is_line_text" = some (.ref (He.ga K "is_line_text")) := T.glo (T.fa 3 rfl)
theorem g_check_line_text (T : Wt K mg) : mg "check_line_text" = some (.ref (He.ga K "check_line_text")) := T.glo (T.fa 4 rfl)
theorem g_head_of (T : Wt K mg) : mg "head_of" = some (.ref (He.ga K "head_of")) := T.glo (T.fa 5 rfl)
theorem g_known_version (T : Wt K mg) : mg "known_version" = some (.ref (He.ga K "known_version")) := T.glo (T.fa 6 rfl)
theorem g_version_at (T : Wt K mg) : mg "version_at" = some (.ref (He.ga K "version_at")) := T.glo (T.fa 7 rfl)
theorem g_parents_of (T : Wt K mg) : mg "parents_of" = some (.ref (He.ga K "parents_of")) := T.glo (T.fa 8 rfl)
theorem g_files_of (T : Wt K mg) : mg "files_of" = some (.ref (He.ga K "files_of")) := T.glo (T.fa 9 rfl)
theorem g_line_text (T : Wt K mg) : mg "line_text" = some (.ref (He.ga K "line_text")) := T.glo (T.fa 10 rfl)
theorem g_texts_of (T : Wt K mg) : mg "texts_of" = some (.ref (He.ga K "texts_of")) := T.glo (T.fa 11 rfl)
theorem g_lines_in (T : Wt K mg) : mg "lines_in" = some (.ref (He.ga K "lines_in")) := T.glo (T.fa 12 rfl)
theorem g_texts_there (T : Wt K mg) : mg "texts_there" = some (.ref (He.ga K "texts_there")) := T.glo (T.fa 13 rfl)
theorem g_next_fresh (T : Wt K mg) : mg "next_fresh" = some (.ref (He.ga K "next_fresh")) := T.glo (T.fa 14 rfl)
theorem g_show_of (T : Wt K mg) : mg "show_of" = some (.ref (He.ga K "show_of")) := T.glo (T.fa 15 rfl)
theorem g_number_in (T : Wt K mg) : mg "number_in" = some (.ref (He.ga K "number_in")) := T.glo (T.fa 16 rfl)
theorem g_head_in (T : Wt K mg) : mg "head_in" = some (.ref (He.ga K "head_in")) := T.glo (T.fa 17 rfl)
theorem g_read_files (T : Wt K mg) : mg "read_files" = some (.ref (He.ga K "read_files")) := T.glo (T.fa 18 rfl)
theorem g_new_notices (T : Wt K mg) : mg "new_notices" = some (.ref (He.ga K "new_notices")) := T.glo (T.fa 19 rfl)
theorem g_numbered (T : Wt K mg) : mg "numbered" = some (.ref (He.ga K "numbered")) := T.glo (T.fa 20 rfl)
theorem g_lay_births (T : Wt K mg) : mg "lay_births" = some (.ref (He.ga K "lay_births")) := T.glo (T.fa 21 rfl)
theorem g_redo_version (T : Wt K mg) : mg "redo_version" = some (.ref (He.ga K "redo_version")) := T.glo (T.fa 22 rfl)
theorem g_make_version (T : Wt K mg) : mg "make_version" = some (.ref (He.ga K "make_version")) := T.glo (T.fa 23 rfl)
theorem g_longest_table (T : Wt K mg) : mg "longest_table" = some (.ref (He.ga K "longest_table")) := T.glo (T.fa 24 rfl)
theorem g_paired (T : Wt K mg) : mg "paired" = some (.ref (He.ga K "paired")) := T.glo (T.fa 25 rfl)
theorem g_check_texts (T : Wt K mg) : mg "check_texts" = some (.ref (He.ga K "check_texts")) := T.glo (T.fa 26 rfl)
theorem k_State (T : Wt K mg) : Mk K (He.ga K "State") (He.ma K (He.ga K "State") "__init__") := He.mkr_ok (T.fa 27 rfl)
theorem m_State_twin (T : Wt K mg) : Meth K (He.ga K "State") "twin" (He.ma K (He.ga K "State") "twin") := He.meth_ok (T.fa 28 rfl)
theorem k_FileReader (T : Wt K mg) : Mk K (He.ga K "FileReader") (He.ma K (He.ga K "FileReader") "__init__") := He.mkr_ok (T.fa 29 rfl)
theorem m_FileReader_demand (T : Wt K mg) : Meth K (He.ga K "FileReader") "demand" (He.ma K (He.ga K "FileReader") "demand") := He.meth_ok (T.fa 30 rfl)
theorem m_FileReader_next_row (T : Wt K mg) : Meth K (He.ga K "FileReader") "next_row" (He.ma K (He.ga K "FileReader") "next_row") := He.meth_ok (T.fa 31 rfl)
theorem m_FileReader_read_file (T : Wt K mg) : Meth K (He.ga K "FileReader") "read_file" (He.ma K (He.ga K "FileReader") "read_file") := He.meth_ok (T.fa 32 rfl)
theorem m_FileReader_read_all (T : Wt K mg) : Meth K (He.ga K "FileReader") "read_all" (He.ma K (He.ga K "FileReader") "read_all") := He.meth_ok (T.fa 33 rfl)
theorem k_Disk (T : Wt K mg) : Mk K (He.ga K "Disk") (He.ma K (He.ga K "Disk") "__init__") := He.mkr_ok (T.fa 34 rfl)
theorem k_Work (T : Wt K mg) : Mk K (He.ga K "Work") (He.ma K (He.ga K "Work") "__init__") := He.mkr_ok (T.fa 35 rfl)
theorem m_Work_begin (T : Wt K mg) : Meth K (He.ga K "Work") "begin" (He.ma K (He.ga K "Work") "begin") := He.meth_ok (T.fa 36 rfl)
theorem m_Work_have (T : Wt K mg) : Meth K (He.ga K "Work") "have" (He.ma K (He.ga K "Work") "have") := He.meth_ok (T.fa 37 rfl)
theorem p_Work_listing (T : Wt K mg) : PropOf K (He.ga K "Work") "listing" (prAd K "Work" "listing") (pAd K (.p "Work" "listing")) := propB_ok (T.fa 38 rfl)
theorem m_Work_lay (T : Wt K mg) : Meth K (He.ga K "Work") "lay" (He.ma K (He.ga K "Work") "lay") := He.meth_ok (T.fa 39 rfl)
theorem m_Work_new_line (T : Wt K mg) : Meth K (He.ga K "Work") "new_line" (He.ma K (He.ga K "Work") "new_line") := He.meth_ok (T.fa 40 rfl)
theorem m_Work_write (T : Wt K mg) : Meth K (He.ga K "Work") "write" (He.ma K (He.ga K "Work") "write") := He.meth_ok (T.fa 41 rfl)
theorem m_Work_kept_line (T : Wt K mg) : Meth K (He.ga K "Work") "kept_line" (He.ma K (He.ga K "Work") "kept_line") := He.meth_ok (T.fa 42 rfl)
theorem m_Work_renew (T : Wt K mg) : Meth K (He.ga K "Work") "renew" (He.ma K (He.ga K "Work") "renew") := He.meth_ok (T.fa 43 rfl)
theorem m_Work_check_trial (T : Wt K mg) : Meth K (He.ga K "Work") "check_trial" (He.ma K (He.ga K "Work") "check_trial") := He.meth_ok (T.fa 44 rfl)
theorem m_Work_commit (T : Wt K mg) : Meth K (He.ga K "Work") "commit" (He.ma K (He.ga K "Work") "commit") := He.meth_ok (T.fa 45 rfl)
theorem k_Store (T : Wt K mg) : Mk K (He.ga K "Store") (He.ma K (He.ga K "Store") "__init__") := He.mkr_ok (T.fa 46 rfl)
theorem m_Store_finish (T : Wt K mg) : Meth K (He.ga K "Store") "finish" (He.ma K (He.ga K "Store") "finish") := He.meth_ok (T.fa 47 rfl)
theorem p_Store_trial_number (T : Wt K mg) : PropOf K (He.ga K "Store") "trial_number" (prAd K "Store" "trial_number") (pAd K (.p "Store" "trial_number")) := propB_ok (T.fa 48 rfl)
theorem m_Store_work (T : Wt K mg) : Meth K (He.ga K "Store") "work" (He.ma K (He.ga K "Store") "work") := He.meth_ok (T.fa 49 rfl)
theorem m_Store_show (T : Wt K mg) : Meth K (He.ga K "Store") "show" (He.ma K (He.ga K "Store") "show") := He.meth_ok (T.fa 50 rfl)
theorem g_law_pot (T : Wt K mg) : mg "_law_pot" = some (.ref (He.ga K "_law_pot")) := T.glo (T.fa 51 rfl)
theorem g_law_draw (T : Wt K mg) : mg "_law_draw" = some (.ref (He.ga K "_law_draw")) := T.glo (T.fa 52 rfl)
theorem g_law_any (T : Wt K mg) : mg "_law_any" = some (.ref (He.ga K "_law_any")) := T.glo (T.fa 53 rfl)
theorem g_law_names (T : Wt K mg) : mg "_law_names" = some (.ref (He.ga K "_law_names")) := T.glo (T.fa 54 rfl)
theorem g_law_text (T : Wt K mg) : mg "_law_text" = some (.ref (He.ga K "_law_text")) := T.glo (T.fa 55 rfl)
theorem g_law_drawn (T : Wt K mg) : mg "_law_drawn" = some (.ref (He.ga K "_law_drawn")) := T.glo (T.fa 56 rfl)
theorem g_law_written (T : Wt K mg) : mg "_law_written" = some (.ref (He.ga K "_law_written")) := T.glo (T.fa 57 rfl)
theorem g_law_head (T : Wt K mg) : mg "_law_head" = some (.ref (He.ga K "_law_head")) := T.glo (T.fa 58 rfl)
theorem g_law_is_text (T : Wt K mg) : mg "_law_is_text" = some (.ref (He.ga K "_law_is_text")) := T.glo (T.fa 59 rfl)
theorem g_law_due (T : Wt K mg) : mg "_law_due" = some (.ref (He.ga K "_law_due")) := T.glo (T.fa 60 rfl)
theorem g_law_heard (T : Wt K mg) : mg "_law_heard" = some (.ref (He.ga K "_law_heard")) := T.glo (T.fa 61 rfl)
theorem g_law_is_right (T : Wt K mg) : mg "_law_is_right" = some (.ref (He.ga K "_law_is_right")) := T.glo (T.fa 62 rfl)
theorem g_law_spoilt (T : Wt K mg) : mg "_law_spoilt" = some (.ref (He.ga K "_law_spoilt")) := T.glo (T.fa 63 rfl)
theorem g_law_value (T : Wt K mg) : mg "_law_value" = some (.ref (He.ga K "_law_value")) := T.glo (T.fa 64 rfl)
theorem g_law_refused (T : Wt K mg) : mg "_law_refused" = some (.ref (He.ga K "_law_refused")) := T.glo (T.fa 65 rfl)
theorem g_law_shown_right (T : Wt K mg) : mg "_law_shown_right" = some (.ref (He.ga K "_law_shown_right")) := T.glo (T.fa 66 rfl)
theorem g_law_right (T : Wt K mg) : mg "_law_right" = some (.ref (He.ga K "_law_right")) := T.glo (T.fa 67 rfl)
theorem g_law (T : Wt K mg) : mg "law" = some (.ref (He.ga K "law")) := T.glo (T.fa 68 rfl)
theorem g_State (T : Wt K mg) : mg "State" = some (.ref (He.ga K "State")) := T.glo (T.fa 69 rfl)
theorem c_State (T : Wt K mg) : Cls K (He.ga K "State") := He.cls_ok (T.fa 70 rfl)
theorem n_State_line_book (T : Wt K mg) : NoAttr K (He.ga K "State") "line_book" := He.noat_ok (T.fa 71 rfl)
theorem n_State_line_count (T : Wt K mg) : NoAttr K (He.ga K "State") "line_count" := He.noat_ok (T.fa 72 rfl)
theorem n_State_file_count (T : Wt K mg) : NoAttr K (He.ga K "State") "file_count" := He.noat_ok (T.fa 73 rfl)
theorem n_State_version_book (T : Wt K mg) : NoAttr K (He.ga K "State") "version_book" := He.noat_ok (T.fa 74 rfl)
theorem n_State_version_count (T : Wt K mg) : NoAttr K (He.ga K "State") "version_count" := He.noat_ok (T.fa 75 rfl)
theorem n_State_head_book (T : Wt K mg) : NoAttr K (He.ga K "State") "head_book" := He.noat_ok (T.fa 76 rfl)
theorem n_State_waiting_texts (T : Wt K mg) : NoAttr K (He.ga K "State") "waiting_texts" := He.noat_ok (T.fa 77 rfl)
theorem n_State_block_texts (T : Wt K mg) : NoAttr K (He.ga K "State") "block_texts" := He.noat_ok (T.fa 78 rfl)
theorem n_State_kept_book (T : Wt K mg) : NoAttr K (He.ga K "State") "kept_book" := He.noat_ok (T.fa 79 rfl)
theorem n_State_watch_book (T : Wt K mg) : NoAttr K (He.ga K "State") "watch_book" := He.noat_ok (T.fa 80 rfl)
theorem n_State_notice_rows (T : Wt K mg) : NoAttr K (He.ga K "State") "notice_rows" := He.noat_ok (T.fa 81 rfl)
theorem n_State_notice_count (T : Wt K mg) : NoAttr K (He.ga K "State") "notice_count" := He.noat_ok (T.fa 82 rfl)
theorem g_FileReader (T : Wt K mg) : mg "FileReader" = some (.ref (He.ga K "FileReader")) := T.glo (T.fa 83 rfl)
theorem c_FileReader (T : Wt K mg) : Cls K (He.ga K "FileReader") := He.cls_ok (T.fa 84 rfl)
theorem n_FileReader_all_rows (T : Wt K mg) : NoAttr K (He.ga K "FileReader") "all_rows" := He.noat_ok (T.fa 85 rfl)
theorem n_FileReader_row_now (T : Wt K mg) : NoAttr K (He.ga K "FileReader") "row_now" := He.noat_ok (T.fa 86 rfl)
theorem n_FileReader_files_read (T : Wt K mg) : NoAttr K (He.ga K "FileReader") "files_read" := He.noat_ok (T.fa 87 rfl)
theorem g_Disk (T : Wt K mg) : mg "Disk" = some (.ref (He.ga K "Disk")) := T.glo (T.fa 88 rfl)
theorem c_Disk (T : Wt K mg) : Cls K (He.ga K "Disk") := He.cls_ok (T.fa 89 rfl)
theorem n_Disk_elder_text (T : Wt K mg) : NoAttr K (He.ga K "Disk") "elder_text" := He.noat_ok (T.fa 90 rfl)
theorem n_Disk_groups (T : Wt K mg) : NoAttr K (He.ga K "Disk") "groups" := He.noat_ok (T.fa 91 rfl)
theorem g_Work (T : Wt K mg) : mg "Work" = some (.ref (He.ga K "Work")) := T.glo (T.fa 92 rfl)
theorem c_Work (T : Wt K mg) : Cls K (He.ga K "Work") := He.cls_ok (T.fa 93 rfl)
theorem n_Work_store (T : Wt K mg) : NoAttr K (He.ga K "Work") "store" := He.noat_ok (T.fa 94 rfl)
theorem n_Work_branch (T : Wt K mg) : NoAttr K (He.ga K "Work") "branch" := He.noat_ok (T.fa 95 rfl)
theorem n_Work_trial_begun (T : Wt K mg) : NoAttr K (He.ga K "Work") "trial_begun" := He.noat_ok (T.fa 96 rfl)
theorem n_Work_start_version (T : Wt K mg) : NoAttr K (He.ga K "Work") "start_version" := He.noat_ok (T.fa 97 rfl)
theorem n_Work_first_files (T : Wt K mg) : NoAttr K (He.ga K "Work") "first_files" := He.noat_ok (T.fa 98 rfl)
theorem n_Work_files (T : Wt K mg) : NoAttr K (He.ga K "Work") "files" := He.noat_ok (T.fa 99 rfl)
theorem n_Work_fresh (T : Wt K mg) : NoAttr K (He.ga K "Work") "fresh" := He.noat_ok (T.fa 100 rfl)
theorem n_Work_line_texts (T : Wt K mg) : NoAttr K (He.ga K "Work") "line_texts" := He.noat_ok (T.fa 101 rfl)
theorem g_Store (T : Wt K mg) : mg "Store" = some (.ref (He.ga K "Store")) := T.glo (T.fa 102 rfl)
theorem c_Store (T : Wt K mg) : Cls K (He.ga K "Store") := He.cls_ok (T.fa 103 rfl)
theorem n_Store_disk (T : Wt K mg) : NoAttr K (He.ga K "Store") "disk" := He.noat_ok (T.fa 104 rfl)
theorem n_Store_inside (T : Wt K mg) : NoAttr K (He.ga K "Store") "inside" := He.noat_ok (T.fa 105 rfl)
theorem n_Store_depth (T : Wt K mg) : NoAttr K (He.ga K "Store") "depth" := He.noat_ok (T.fa 106 rfl)
theorem n_Store_trials_begun (T : Wt K mg) : NoAttr K (He.ga K "Store") "trials_begun" := He.noat_ok (T.fa 107 rfl)
theorem n_Store_state (T : Wt K mg) : NoAttr K (He.ga K "Store") "state" := He.noat_ok (T.fa 108 rfl)
theorem z_isinstance (T : Wt K mg) : mg "isinstance" = none := T.free (T.fa 109 rfl)
theorem z_len (T : Wt K mg) : mg "len" = none := T.free (T.fa 110 rfl)
theorem z_all (T : Wt K mg) : mg "all" = none := T.free (T.fa 111 rfl)
theorem z_range (T : Wt K mg) : mg "range" = none := T.free (T.fa 112 rfl)
theorem z_sorted (T : Wt K mg) : mg "sorted" = none := T.free (T.fa 113 rfl)
theorem z_tuple (T : Wt K mg) : mg "tuple" = none := T.free (T.fa 114 rfl)
theorem z_list (T : Wt K mg) : mg "list" = none := T.free (T.fa 115 rfl)
theorem z_dict (T : Wt K mg) : mg "dict" = none := T.free (T.fa 116 rfl)
theorem z_int (T : Wt K mg) : mg "int" = none := T.free (T.fa 117 rfl)
theorem z_str (T : Wt K mg) : mg "str" = none := T.free (T.fa 118 rfl)
theorem z_max (T : Wt K mg) : mg "max" = none := T.free (T.fa 119 rfl)
theorem z_min (T : Wt K mg) : mg "min" = none := T.free (T.fa 120 rfl)
theorem z_enumerate (T : Wt K mg) : mg "enumerate" = none := T.free (T.fa 121 rfl)
theorem z_reversed (T : Wt K mg) : mg "reversed" = none := T.free (T.fa 122 rfl)
theorem z_repr (T : Wt K mg) : mg "repr" = none := T.free (T.fa 123 rfl)
theorem z_abs (T : Wt K mg) : mg "abs" = none := T.free (T.fa 124 rfl)
theorem z_ValueError (T : Wt K mg) : mg "ValueError" = none := T.free (T.fa 125 rfl)
theorem z_super (T : Wt K mg) : mg "super" = none := T.free (T.fa 126 rfl)
theorem z_bool (T : Wt K mg) : mg "bool" = none := T.free (T.fa 127 rfl)
theorem v_LETTERS (T : Wt K mg) : ∃ t, mg "LETTERS" = some (.str " 0123456789_abcdefghijklmnopqrstuvwxyz" t) := T.str (T.fa 128 rfl)
theorem v_FRESH (T : Wt K mg) : ∃ t, mg "FRESH" = some (.int 1000000000 t) := T.int (T.fa 129 rfl)
theorem v_MAIN (T : Wt K mg) : ∃ t, mg "MAIN" = some (.str "main" t) := T.str (T.fa 130 rfl)
theorem v_SMALL (T : Wt K mg) : ∃ t, mg "SMALL" = some (.str "abcdefghijklmnopqrstuvwxyz" t) := T.str (T.fa 131 rfl)
theorem v_MOST_NAME (T : Wt K mg) : ∃ t, mg "MOST_NAME" = some (.int 8 t) := T.int (T.fa 132 rfl)
theorem v_MOST_LETTERS_state (T : Wt K mg) : ∃ t, mg "MOST_LETTERS_state" = some (.int 80 t) := T.int (T.fa 133 rfl)
theorem v_MOST_LINES_state (T : Wt K mg) : ∃ t, mg "MOST_LINES_state" = some (.int 60 t) := T.int (T.fa 134 rfl)
theorem v_MOST_FILES_state (T : Wt K mg) : ∃ t, mg "MOST_FILES_state" = some (.int 12 t) := T.int (T.fa 135 rfl)
theorem v_FEED_sheets (T : Wt K mg) : ∃ t, mg "FEED_sheets" = some (.str "\n" t) := T.str (T.fa 136 rfl)
theorem v_BLANK_sheets (T : Wt K mg) : ∃ t, mg "BLANK_sheets" = some (.str " " t) := T.str (T.fa 137 rfl)
theorem v_FILE_sheets (T : Wt K mg) : ∃ t, mg "FILE_sheets" = some (.str "file" t) := T.str (T.fa 138 rfl)
theorem v_DIGITS (T : Wt K mg) : ∃ t, mg "DIGITS" = some (.str "0123456789" t) := T.str (T.fa 139 rfl)
theorem v_MOST_LINES_sheets (T : Wt K mg) : ∃ t, mg "MOST_LINES_sheets" = some (.int 60 t) := T.int (T.fa 140 rfl)
theorem v_MOST_FILES_sheets (T : Wt K mg) : ∃ t, mg "MOST_FILES_sheets" = some (.int 12 t) := T.int (T.fa 141 rfl)
theorem v_ROW_WORDS (T : Wt K mg) : ∃ t, mg "ROW_WORDS" = some (.int 3 t) := T.int (T.fa 142 rfl)
theorem v_BEGUN (T : Wt K mg) : ∃ t, mg "BEGUN" = some (.str "done 0\n" t) := T.str (T.fa 143 rfl)
theorem g_NoBranch (T : Wt K mg) : mg "NoBranch" = some (.ref (He.ga K "NoBranch")) := T.glo (T.fa 144 rfl)
theorem x_NoBranch (T : Wt K mg) : OexC K (He.ga K "NoBranch") := oexB_ok (T.fa 145 rfl)
theorem xf_NoBranch (T : Wt K mg) : XfC K (He.ga K "NoBranch") := xfB_ok (T.fa 146 rfl)
theorem g_NoVersion (T : Wt K mg) : mg "NoVersion" = some (.ref (He.ga K "NoVersion")) := T.glo (T.fa 147 rfl)
theorem x_NoVersion (T : Wt K mg) : OexC K (He.ga K "NoVersion") := oexB_ok (T.fa 148 rfl)
theorem xf_NoVersion (T : Wt K mg) : XfC K (He.ga K "NoVersion") := xfB_ok (T.fa 149 rfl)
theorem g_BadFiles (T : Wt K mg) : mg "BadFiles" = some (.ref (He.ga K "BadFiles")) := T.glo (T.fa 150 rfl)
theorem x_BadFiles (T : Wt K mg) : OexC K (He.ga K "BadFiles") := oexB_ok (T.fa 151 rfl)
theorem xf_BadFiles (T : Wt K mg) : XfC K (He.ga K "BadFiles") := xfB_ok (T.fa 152 rfl)
theorem mods (T : Wt K mg) : (K.lookup sysModules).isSome = true := T.fa 153 rfl
theorem ib_NoBranch (T : Wt K mg) : iniB K (He.ga K "NoBranch") "value" "/claim/cut.py" = true := T.fa 154 rfl
theorem ek_NoBranch (T : Wt K mg) : EkC K (He.ga K "NoBranch") := let ⟨h1, h2, h3, h4, h5, h6, h7, h8⟩ := ek_of (T.fa 155 rfl); ⟨h1, h2, h3, h4, h5, h6, h7, h8⟩
theorem ib_NoVersion (T : Wt K mg) : iniB K (He.ga K "NoVersion") "value" "/claim/cut.py" = true := T.fa 156 rfl
theorem ek_NoVersion (T : Wt K mg) : EkC K (He.ga K "NoVersion") := let ⟨h1, h2, h3, h4, h5, h6, h7, h8⟩ := ek_of (T.fa 157 rfl); ⟨h1, h2, h3, h4, h5, h6, h7, h8⟩
theorem ib_BadFiles (T : Wt K mg) : iniB K (He.ga K "BadFiles") "row" "/claim/cut.py" = true := T.fa 158 rfl
theorem ek_BadFiles (T : Wt K mg) : EkC K (He.ga K "BadFiles") := let ⟨h1, h2, h3, h4, h5, h6, h7, h8⟩ := ek_of (T.fa 159 rfl); ⟨h1, h2, h3, h4, h5, h6, h7, h8⟩
theorem ki_BadFiles_BadFiles (T : Wt K mg) : PySem.W.kitOne K (.ref (He.ga K "BadFiles")) (.ref (He.ga K "BadFiles")) = some true := of_decide_eq_true (T.fa 160 rfl)
theorem ki_BadFiles_BadLine (T : Wt K mg) : PySem.W.kitOne K (.ref (He.ga K "BadFiles")) (.ref (He.ga K "BadLine")) = some false := of_decide_eq_true (T.fa 161 rfl)
theorem ki_NoBranch_NoBranch (T : Wt K mg) : PySem.W.kitOne K (.ref (He.ga K "NoBranch")) (.ref (He.ga K "NoBranch")) = some true := of_decide_eq_true (T.fa 162 rfl)
theorem ki_NoBranch_NoVersion (T : Wt K mg) : PySem.W.kitOne K (.ref (He.ga K "NoBranch")) (.ref (He.ga K "NoVersion")) = some false := of_decide_eq_true (T.fa 163 rfl)
theorem ki_NoVersion_NoBranch (T : Wt K mg) : PySem.W.kitOne K (.ref (He.ga K "NoVersion")) (.ref (He.ga K "NoBranch")) = some false := of_decide_eq_true (T.fa 164 rfl)
theorem ki_NoVersion_NoVersion (T : Wt K mg) : PySem.W.kitOne K (.ref (He.ga K "NoVersion")) (.ref (He.ga K "NoVersion")) = some true := of_decide_eq_true (T.fa 165 rfl)
theorem ki_BadFiles_ValueError (T : Wt K mg) : PySem.W.kitOne K (.ref (He.ga K "BadFiles")) (.type "ValueError") = some true := of_decide_eq_true (T.fa 166 rfl)
theorem e_NoBranch_SiftError (T : Wt K mg) : PySem.W.exmOne K (.ref (He.ga K "NoBranch")) (.ref (He.ga K "SiftError")) = some true := He.exm_ok (T.fa 167 rfl)
theorem e_NoVersion_SiftError (T : Wt K mg) : PySem.W.exmOne K (.ref (He.ga K "NoVersion")) (.ref (He.ga K "SiftError")) = some true := He.exm_ok (T.fa 168 rfl)
theorem e_BadFiles_SiftError (T : Wt K mg) : PySem.W.exmOne K (.ref (He.ga K "BadFiles")) (.ref (He.ga K "SiftError")) = some true := He.exm_ok (T.fa 169 rfl)
theorem g_SiftError (T : Wt K mg) : mg "SiftError" = some (.ref (He.ga K "SiftError")) := T.glo (T.fa 170 rfl)
theorem g_BadLine (T : Wt K mg) : mg "BadLine" = some (.ref (He.ga K "BadLine")) := T.glo (T.fa 171 rfl)
theorem F_is_text (T : Wt K mg) : ∃ fd, FnX K d_is_text fd := T.fn 0 rfl
theorem F_is_integer (T : Wt K mg) : ∃ fd, FnX K d_is_integer fd := T.fn 1 rfl
theorem F_is_name (T : Wt K mg) : ∃ fd, FnX K d_is_name fd := T.fn 2 rfl
theorem F_is_line_text (T : Wt K mg) : ∃ fd, FnX K d_is_line_text fd := T.fn 3 rfl
theorem F_check_line_text (T : Wt K mg) : ∃ fd, FnX K d_check_line_text fd := T.fn 4 rfl
theorem F_head_of (T : Wt K mg) : ∃ fd, FnX K d_head_of fd := T.fn 5 rfl
theorem F_known_version (T : Wt K mg) : ∃ fd, FnX K d_known_version fd := T.fn 6 rfl
theorem F_version_at (T : Wt K mg) : ∃ fd, FnX K d_version_at fd := T.fn 7 rfl
theorem F_parents_of (T : Wt K mg) : ∃ fd, FnX K d_parents_of fd := T.fn 8 rfl
theorem F_files_of (T : Wt K mg) : ∃ fd, FnX K d_files_of fd := T.fn 9 rfl
theorem F_line_text (T : Wt K mg) : ∃ fd, FnX K d_line_text fd := T.fn 10 rfl
theorem F_texts_of (T : Wt K mg) : ∃ fd, FnX K d_texts_of fd := T.fn 11 rfl
theorem F_lines_in (T : Wt K mg) : ∃ fd, FnX K d_lines_in fd := T.fn 12 rfl
theorem F_texts_there (T : Wt K mg) : ∃ fd, FnX K d_texts_there fd := T.fn 13 rfl
theorem F_next_fresh (T : Wt K mg) : ∃ fd, FnX K d_next_fresh fd := T.fn 14 rfl
theorem F_show_of (T : Wt K mg) : ∃ fd, FnX K d_show_of fd := T.fn 15 rfl
theorem F_number_in (T : Wt K mg) : ∃ fd, FnX K d_number_in fd := T.fn 16 rfl
theorem F_head_in (T : Wt K mg) : ∃ fd, FnX K d_head_in fd := T.fn 17 rfl
theorem F_read_files (T : Wt K mg) : ∃ fd, FnX K d_read_files fd := T.fn 18 rfl
theorem F_new_notices (T : Wt K mg) : ∃ fd, FnX K d_new_notices fd := T.fn 19 rfl
theorem F_numbered (T : Wt K mg) : ∃ fd, FnX K d_numbered fd := T.fn 20 rfl
theorem F_lay_births (T : Wt K mg) : ∃ fd, FnX K d_lay_births fd := T.fn 21 rfl
theorem F_redo_version (T : Wt K mg) : ∃ fd, FnX K d_redo_version fd := T.fn 22 rfl
theorem F_make_version (T : Wt K mg) : ∃ fd, FnX K d_make_version fd := T.fn 23 rfl
theorem F_longest_table (T : Wt K mg) : ∃ fd, FnX K d_longest_table fd := T.fn 24 rfl
theorem F_paired (T : Wt K mg) : ∃ fd, FnX K d_paired fd := T.fn 25 rfl
theorem F_check_texts (T : Wt K mg) : ∃ fd, FnX K d_check_texts fd := T.fn 26 rfl
theorem F_State_init (T : Wt K mg) : ∃ fd, FnX K d_State_init fd := T.fn 27 rfl
theorem F_State_twin (T : Wt K mg) : ∃ fd, FnX K d_State_twin fd := T.fn 28 rfl
theorem F_FileReader_init (T : Wt K mg) : ∃ fd, FnX K d_FileReader_init fd := T.fn 29 rfl
theorem F_FileReader_demand (T : Wt K mg) : ∃ fd, FnX K d_FileReader_demand fd := T.fn 30 rfl
theorem F_FileReader_next_row (T : Wt K mg) : ∃ fd, FnX K d_FileReader_next_row fd := T.fn 31 rfl
theorem F_FileReader_read_file (T : Wt K mg) : ∃ fd, FnX K d_FileReader_read_file fd := T.fn 32 rfl
theorem F_FileReader_read_all (T : Wt K mg) : ∃ fd, FnX K d_FileReader_read_all fd := T.fn 33 rfl
theorem F_Disk_init (T : Wt K mg) : ∃ fd, FnX K d_Disk_init fd := T.fn 34 rfl
theorem F_Work_init (T : Wt K mg) : ∃ fd, FnX K d_Work_init fd := T.fn 35 rfl
theorem F_Work_begin (T : Wt K mg) : ∃ fd, FnX K d_Work_begin fd := T.fn 36 rfl
theorem F_Work_have (T : Wt K mg) : ∃ fd, FnX K d_Work_have fd := T.fn 37 rfl
theorem F_Work_listing (T : Wt K mg) : ∃ fd, FnX K d_Work_listing fd := T.fn 38 rfl
theorem F_Work_lay (T : Wt K mg) : ∃ fd, FnX K d_Work_lay fd := T.fn 39 rfl
theorem F_Work_new_line (T : Wt K mg) : ∃ fd, FnX K d_Work_new_line fd := T.fn 40 rfl
theorem F_Work_write (T : Wt K mg) : ∃ fd, FnX K d_Work_write fd := T.fn 41 rfl
theorem F_Work_kept_line (T : Wt K mg) : ∃ fd, FnX K d_Work_kept_line fd := T.fn 42 rfl
theorem F_Work_renew (T : Wt K mg) : ∃ fd, FnX K d_Work_renew fd := T.fn 43 rfl
theorem F_Work_check_trial (T : Wt K mg) : ∃ fd, FnX K d_Work_check_trial fd := T.fn 44 rfl
theorem F_Work_commit (T : Wt K mg) : ∃ fd, FnX K d_Work_commit fd := T.fn 45 rfl
theorem F_Store_init (T : Wt K mg) : ∃ fd, FnX K d_Store_init fd := T.fn 46 rfl
theorem F_Store_finish (T : Wt K mg) : ∃ fd, FnX K d_Store_finish fd := T.fn 47 rfl
theorem F_Store_trial_number (T : Wt K mg) : ∃ fd, FnX K d_Store_trial_number fd := T.fn 48 rfl
theorem F_Store_work (T : Wt K mg) : ∃ fd, FnX K d_Store_work fd := T.fn 49 rfl
theorem F_Store_show (T : Wt K mg) : ∃ fd, FnX K d_Store_show fd := T.fn 50 rfl
theorem F_law_pot (T : Wt K mg) : ∃ fd, FnX K d_law_pot fd := T.fn 51 rfl
theorem F_law_draw (T : Wt K mg) : ∃ fd, FnX K d_law_draw fd := T.fn 52 rfl
theorem F_law_any (T : Wt K mg) : ∃ fd, FnX K d_law_any fd := T.fn 53 rfl
theorem F_law_names (T : Wt K mg) : ∃ fd, FnX K d_law_names fd := T.fn 54 rfl
theorem F_law_text (T : Wt K mg) : ∃ fd, FnX K d_law_text fd := T.fn 55 rfl
theorem F_law_drawn (T : Wt K mg) : ∃ fd, FnX K d_law_drawn fd := T.fn 56 rfl
theorem F_law_written (T : Wt K mg) : ∃ fd, FnX K d_law_written fd := T.fn 57 rfl
theorem F_law_head (T : Wt K mg) : ∃ fd, FnX K d_law_head fd := T.fn 58 rfl
theorem F_law_is_text (T : Wt K mg) : ∃ fd, FnX K d_law_is_text fd := T.fn 59 rfl
theorem F_law_due (T : Wt K mg) : ∃ fd, FnX K d_law_due fd := T.fn 60 rfl
theorem F_law_heard (T : Wt K mg) : ∃ fd, FnX K d_law_heard fd := T.fn 61 rfl
theorem F_law_is_right (T : Wt K mg) : ∃ fd, FnX K d_law_is_right fd := T.fn 62 rfl
theorem F_law_spoilt (T : Wt K mg) : ∃ fd, FnX K d_law_spoilt fd := T.fn 63 rfl
theorem F_law_value (T : Wt K mg) : ∃ fd, FnX K d_law_value fd := T.fn 64 rfl
theorem F_law_refused (T : Wt K mg) : ∃ fd, FnX K d_law_refused fd := T.fn 65 rfl
theorem F_law_shown_right (T : Wt K mg) : ∃ fd, FnX K d_law_shown_right fd := T.fn 66 rfl
theorem F_law_right (T : Wt K mg) : ∃ fd, FnX K d_law_right fd := T.fn 67 rfl
theorem F_law (T : Wt K mg) : ∃ fd, FnX K d_law fd := T.fn 68 rfl
end
section
variable {P : Program} {w : World} {K : PySem.W.Frag} {mg : Str → Option Value} {base : Heap}
theorem r_NoBranch (G : PgOk P) (T : Wt K mg) : RaC P w K mg base "NoBranch" "value" := by
  have I := ini_of G (T.says.val 69 (d := d_NoBranch_init) rfl) rfl (ib_NoBranch T) (x_NoBranch T)
  obtain ⟨_, h⟩ := He.ba (ib_NoBranch T)
  obtain ⟨_, h⟩ := He.ba h
  obtain ⟨_, h⟩ := He.ba h
  obtain ⟨_, h⟩ := He.ba h
  obtain ⟨_, h⟩ := He.ba h
  obtain ⟨_, h⟩ := He.ba h
  obtain ⟨b6, b7⟩ := He.ba h
  refine ⟨g_NoBranch T, x_NoBranch T, He.eqO_ok b6, of_decide_eq_true b7, ?_⟩
  exact ini_ok I (NdefX.nscope_by (by decide +kernel)) (by decide +kernel) (z_super T) ⟨fun _ _ _ _ => ⟨_, by rfl⟩, fun _ _ _ _ => by rfl, fun _ _ _ _ => by rfl, fun _ _ _ _ => by rfl, fun _ _ _ _ => by rfl, fun _ _ _ _ => by rfl⟩ rfl
    (fun _ _ _ _ _ _ _ _ _ _ us hl => match us, hl with | [_, _], _ => rfl) ⟨_, rfl, rfl⟩ (by decide) (by decide)
end
section
variable {P : Program} {w : World} {K : PySem.W.Frag} {mg : Str → Option Value} {base : Heap}
theorem r_NoVersion (G : PgOk P) (T : Wt K mg) : RaC P w K mg base "NoVersion" "value" := by
  have I := ini_of G (T.says.val 70 (d := d_NoVersion_init) rfl) rfl (ib_NoVersion T) (x_NoVersion T)
  obtain ⟨_, h⟩ := He.ba (ib_NoVersion T)
  obtain ⟨_, h⟩ := He.ba h
  obtain ⟨_, h⟩ := He.ba h
  obtain ⟨_, h⟩ := He.ba h
  obtain ⟨_, h⟩ := He.ba h
  obtain ⟨_, h⟩ := He.ba h
  obtain ⟨b6, b7⟩ := He.ba h
  refine ⟨g_NoVersion T, x_NoVersion T, He.eqO_ok b6, of_decide_eq_true b7, ?_⟩
  exact ini_ok I (NdefX.nscope_by (by decide +kernel)) (by decide +kernel) (z_super T) ⟨fun _ _ _ _ => ⟨_, by rfl⟩, fun _ _ _ _ => by rfl, fun _ _ _ _ => by rfl, fun _ _ _ _ => by rfl, fun _ _ _ _ => by rfl, fun _ _ _ _ => by rfl⟩ rfl
    (fun _ _ _ _ _ _ _ _ _ _ us hl => match us, hl with | [_, _], _ => rfl) ⟨_, rfl, rfl⟩ (by decide) (by decide)
end
section
variable {P : Program} {w : World} {K : PySem.W.Frag} {mg : Str → Option Value} {base : Heap}
theorem r_BadFiles (G : PgOk P) (T : Wt K mg) : RaC P w K mg base "BadFiles" "row" := by
  have I := ini_of G (T.says.val 71 (d := d_BadFiles_init) rfl) rfl (ib_BadFiles T) (x_BadFiles T)
  obtain ⟨_, h⟩ := He.ba (ib_BadFiles T)
  obtain ⟨_, h⟩ := He.ba h
  obtain ⟨_, h⟩ := He.ba h
  obtain ⟨_, h⟩ := He.ba h
  obtain ⟨_, h⟩ := He.ba h
  obtain ⟨_, h⟩ := He.ba h
  obtain ⟨b6, b7⟩ := He.ba h
  refine ⟨g_BadFiles T, x_BadFiles T, He.eqO_ok b6, of_decide_eq_true b7, ?_⟩
  exact ini_ok I (NdefX.nscope_by (by decide +kernel)) (by decide +kernel) (z_super T) ⟨fun _ _ _ _ => ⟨_, by rfl⟩, fun _ _ _ _ => by rfl, fun _ _ _ _ => by rfl, fun _ _ _ _ => by rfl, fun _ _ _ _ => by rfl, fun _ _ _ _ => by rfl⟩ rfl
    (fun _ _ _ _ _ _ _ _ _ _ us hl => match us, hl with | [_, _], _ => rfl) ⟨_, rfl, rfl⟩ (by decide) (by decide)
end
end Sk
/-! K93A: texts, names, numbers. -/
namespace Sk
open PySem PySem.Spec PyProof.Rows L2
/-! ### plain functions -/
def lettersL : List Nat := (" 0123456789_abcdefghijklmnopqrstuvwxyz" : Str).cps.toList
def smallL : List Nat := ("abcdefghijklmnopqrstuvwxyz" : Str).cps.toList
def digitsL : List Nat := ("0123456789" : Str).cps.toList
def isText (x : Str) : Bool := x.cps.toList.all fun c => decide (c ∈ lettersL)
def isName (x : Str) : Bool := decide (1 ≤ x.length ∧ x.length ≤ 8) && x.cps.toList.all fun c => decide (c ∈ smallL)
def isLine (x : Str) : Bool := isText x && decide (x.length ≤ 80)
section
variable {P : Program} {w : World} {K : PySem.W.Frag} {mg : Str → Option Value} {base : Heap}
def spIsText : Sp := fun vs H Q _ => ∃ x : Str, vs = [.str x] ∧ x.length < sizeLine ∧ ∀ H', Same H H' → Q (.bl (isText x)) H'
abbrev N_is_text : List Str := ["value", "sign"]
theorem sc_is_text : FnScope N_is_text ["value"] (defScope s_is_text) := ⟨rfl, rfl, rfl, by decide +kernel, rfl, by decide +kernel, by decide +kernel⟩
theorem ok_is_text (T : Wt K mg) : Def P w K mg base 1 d_is_text ["value"] spIsText := by
  refine mk_def (F_is_text T) rfl sc_is_text (fun vs H Q E h => ?_) (fun _ _ _ _ _ _ us hl => match us, hl with | [_], _ => rfl) (fun cdv A outer s H vs Q E hr h => ?_)
  · obtain ⟨x, rfl, _⟩ := h
    rfl
  · have sc := sc_is_text
    obtain ⟨x, rfl, hx, k⟩ := h
    refine ⟨_, (pss_one (ps_ret (pe_and (pe_callB call_isi (by rfl) (z_isinstance T) (by decide +kernel) (pa_cons (pv 0) (pa_cons (pty (n := "str") (z_str T) (by decide +kernel)) pa_nil))) (pe_one (pe_callB (cr_all rfl) (by rfl) (z_all T) (by decide +kernel) (pa_cons (pe_lc (own := [("sign", 1)]) rfl sc.nd (pi_str (pv 0)) (blkOk_by (N := N_is_text) (sc := defScope s_is_text) (by decide +kernel)) (fun _ _ _ _ _ => (pg_name (i := 1) sc.nd rfl (Or.inl rfl))) (fun _ _ _ _ _ => pts_nil) (fun _ _ _ _ _ => (pe_cmpR op_in_sign (pv 1) (pgs (v_LETTERS T)) (by rfl)))) pa_nil)))))), ?_⟩
    refine ⟨_, rfl, _, _, _, _, true, rfl, .ty _, .base (.str x), rfl, true, rfl, ?_⟩
    refine all_str (fun c => decide (c ∈ lettersL)) (fun R r => ⟨_, rfl, r⟩) hx (fun c H' R _ r => ⟨_, rfl, c, _, rfl, rfl, r⟩) k
def spIsName : Sp := fun vs H Q _ => ∃ x : Str, vs = [.str x] ∧ x.length < sizeLine ∧ ∀ H', Same H H' → Q (.bl (isName x)) H'
abbrev N_is_name : List Str := ["value", "letter"]
theorem sc_is_name : FnScope N_is_name ["value"] (defScope s_is_name) := ⟨rfl, rfl, rfl, by decide +kernel, rfl, by decide +kernel, by decide +kernel⟩
theorem ok_is_name (T : Wt K mg) : Def P w K mg base 1 d_is_name ["value"] spIsName := by
  refine mk_def (F_is_name T) rfl sc_is_name (fun vs H Q E h => ?_) (fun _ _ _ _ _ _ us hl => match us, hl with | [_], _ => rfl) (fun cdv A outer s H vs Q E hr h => ?_)
  · obtain ⟨x, rfl, _⟩ := h
    rfl
  · have sc := sc_is_name
    obtain ⟨x, rfl, hx, k⟩ := h
    refine ⟨_, (pss_cons (ps_if (PW.pt (pw_or (pt_not (pt_val (pe_callB call_isi (by rfl) (z_isinstance T) (by decide +kernel) (pa_cons (pv 0) (pa_cons (pty (n := "str") (z_str T) (by decide +kernel)) pa_nil))))) (pw_or1 (pt_not (pt_chain op_le op_le pe_int (pe_callB call_len_str (by rfl) (z_len T) (by decide +kernel) (pa_cons (pv 0) pa_nil)) (pgi (v_MOST_NAME T)))))))
        (pss_one (ps_ret pe_bl))
        pss_nil)
      (pss_one (ps_ret (pe_callB (cr_all rfl) (by rfl) (z_all T) (by decide +kernel) (pa_cons (pe_lc (own := [("letter", 1)]) rfl sc.nd (pi_str (pv 0)) (blkOk_by (N := N_is_name) (sc := defScope s_is_name) (by decide +kernel)) (fun _ _ _ _ _ => (pg_name (i := 1) sc.nd rfl (Or.inl rfl))) (fun _ _ _ _ _ => pts_nil) (fun _ _ _ _ _ => (pe_cmpR op_in_sign (pv 1) (pgs (v_SMALL T)) (by rfl)))) pa_nil))))), ?_⟩
    refine ⟨_, rfl, _, _, _, _, true, rfl, .ty _, .base (.str x), rfl, true, rfl, ?_⟩
    have kf : ¬ (1 ≤ x.length ∧ x.length ≤ 8) → Q (.bl false) H := fun h => qb (k H (Same.refl H)) (by unfold isName; rw [decide_eq_false h]; rfl)
    refine ⟨_, rfl, x, rfl, Nat.le_of_lt hx, _, _, rfl, rfl, _, rfl, itd (fun h1 => ?_) (fun h1 => ⟨false, rfl, kf (by omega)⟩)⟩
    refine ⟨_, _, rfl, rfl, _, rfl, itn (fun h2 => ?_) (fun h2 => kf (by omega))⟩
    refine nxt_ (ret_ ?_)
    refine all_str (fun c => decide (c ∈ smallL)) (fun R r => ⟨_, rfl, r⟩) hx (fun c H' R _ r => ⟨_, rfl, c, _, rfl, rfl, r⟩) fun H' hS => qb (k H' hS) ?_
    unfold isName
    rw [decide_eq_true (⟨by omega, by omega⟩ : 1 ≤ x.length ∧ x.length ≤ 8)]
    rfl
def spIsLine : Sp := fun vs H Q _ => ∃ x : Str, vs = [.str x] ∧ x.length < sizeLine ∧ ∀ H', Same H H' → Q (.bl (isLine x)) H'
abbrev N_is_line_text : List Str := ["value"]
theorem sc_is_line_text : FnScope N_is_line_text ["value"] (defScope s_is_line_text) := ⟨rfl, rfl, rfl, by decide +kernel, rfl, by decide +kernel, by decide +kernel⟩
theorem ok_is_line_text (T : Wt K mg) : Def P w K mg base 2 d_is_line_text ["value"] spIsLine := by
  have D_is_text := ok_is_text (P := P) (w := w) (base := base) T
  refine mk_def (F_is_line_text T) rfl sc_is_line_text (fun vs H Q E h => ?_) (fun _ _ _ _ _ _ us hl => match us, hl with | [_], _ => rfl) (fun cdv A outer s H vs Q E hr h => ?_)
  · obtain ⟨x, rfl, _⟩ := h
    rfl
  · have sc := sc_is_line_text
    obtain ⟨x, rfl, hx, k⟩ := h
    refine ⟨_, (pss_one (ps_ret (pe_and (pcall D_is_text (hr.mono (by decide)) (by rfl) (g_is_text T) passL (pa_cons (pv 0) pa_nil)) (pe_one (pe_cmpR op_le (pe_callB call_len_str (by rfl) (z_len T) (by decide +kernel) (pa_cons (pv 0) pa_nil)) (pgi (v_MOST_LETTERS_state T)) (nomark _)))))), ?_⟩
    refine ⟨_, rfl, x, rfl, hx, fun H' hS => ⟨_, rfl, itb (fun h1 => ?_) (fun h1 => qb (k H' hS) (by unfold isLine; rw [h1]; rfl))⟩⟩
    refine ⟨_, rfl, x, rfl, Nat.le_of_lt hx, _, _, rfl, rfl, qb (k H' hS) ?_⟩
    unfold isLine
    rw [h1, Bool.true_and]
    exact decide_eq_decide.mpr (by omega)
def spCheckLine : Sp := fun vs H Q _ => ∃ x : Str, vs = [.str x] ∧ isLine x = true ∧ x.length < sizeLine ∧ ∀ H', Same H H' → Q .non H'
abbrev N_check_line_text : List Str := ["value"]
theorem sc_check_line_text : FnScope N_check_line_text ["value"] (defScope s_check_line_text) := ⟨rfl, rfl, rfl, by decide +kernel, rfl, by decide +kernel, by decide +kernel⟩
theorem ok_check_line_text (T : Wt K mg) : Def P w K mg base 3 d_check_line_text ["value"] spCheckLine := by
  have D_is_line_text := ok_is_line_text (P := P) (w := w) (base := base) T
  refine mk_def (F_check_line_text T) rfl sc_check_line_text (fun vs H Q E h => ?_) (fun _ _ _ _ _ _ us hl => match us, hl with | [_], _ => rfl) (fun cdv A outer s H vs Q E hr h => ?_)
  · obtain ⟨x, rfl, _⟩ := h
    rfl
  · have sc := sc_check_line_text
    obtain ⟨x, rfl, he, hx, k⟩ := h
    refine ⟨_, (pss_one (ps_if (pt_not (pt_val (pcall D_is_line_text (hr.mono (by decide)) (by rfl) (g_is_line_text T) passL (pa_cons (pv 0) pa_nil))))
        (pss_one ps_never)
        pss_nil)), ?_⟩
    refine ⟨_, rfl, x, rfl, hx, fun H' hS => ⟨_, rfl, itnb (fun h1 => k H' hS) (fun h1 => ?_)⟩⟩
    rw [he] at h1
    cases h1
end
end Sk
/-! K93B: rows of a text of files, read by the program and by the law. -/
namespace Sk
open PySem PySem.Spec PyProof.Rows L2
/-! ### numbers of at most two digits -/
def isNum (x : Str) : Bool := x.cps.toList.all fun c => decide (c ∈ digitsL)
def numVal (x : Str) : Int := (PySem.intText? x).getD 0
def numIn (x : Str) : Option Int := if (1 ≤ x.length ∧ x.length ≤ 2) ∧ isNum x = true then (if (x.cps.toList[0]? = some 48 ∧ x ≠ "0") ∨ 60 < numVal x then none else some (numVal x)) else none
def optI : Option Int → V
  | none => .non
  | some n => .int n
theorem str_len (x : Str) : x.cps.toList.length = x.length := by
  show x.cps.toList.length = x.cps.size
  simp
theorem str_of_list {x : Str} {l : List Nat} (h : x.cps.toList = l) : x = ⟨l.toArray⟩ := by
  obtain ⟨a⟩ := x
  rw [← h]
theorem num_ok {x : Str} (h : 1 ≤ x.length ∧ x.length ≤ 2) (hd : isNum x = true) : PySem.intText? x = some (numVal x) := by
  have h1 : ∀ a ∈ digitsL, (PySem.intText? ⟨#[a]⟩).isSome = true := by decide +kernel
  have h2 : ∀ a ∈ digitsL, ∀ b ∈ digitsL, (PySem.intText? ⟨#[a, b]⟩).isSome = true := by decide +kernel
  have key : (PySem.intText? x).isSome = true := by
    have hl := str_len x
    have ha : ∀ c ∈ x.cps.toList, c ∈ digitsL := fun c hc => of_decide_eq_true (List.all_eq_true.mp hd c hc)
    cases e : x.cps.toList with
    | nil => rw [e] at hl; simp at hl; omega
    | cons a r =>
      cases r with
      | nil =>
        rw [str_of_list e]
        exact h1 a (ha a (by rw [e]; simp))
      | cons b r2 =>
        cases r2 with
        | nil =>
          rw [str_of_list e]
          exact h2 a (ha a (by rw [e]; simp)) b (ha b (by rw [e]; simp))
        | cons c r3 =>
          rw [e] at hl
          simp at hl
          omega
  obtain ⟨n, hn⟩ := Option.isSome_iff_exists.mp key
  unfold numVal
  rw [hn]
  rfl
section
variable {P : Program} {w : World} {K : PySem.W.Frag} {mg : Str → Option Value} {base : Heap}
def spNumberIn : Sp := fun vs H Q _ => ∃ x : Str, vs = [.str x] ∧ x.length < sizeLine ∧ ∀ H', Same H H' → Q (optI (numIn x)) H'
abbrev N_number_in : List Str := ["word", "sign"]
theorem sc_number_in : FnScope N_number_in ["word"] (defScope s_number_in) := ⟨rfl, rfl, rfl, by decide +kernel, rfl, by decide +kernel, by decide +kernel⟩
theorem ok_number_in (T : Wt K mg) : Def P w K mg base 1 d_number_in ["word"] spNumberIn := by
  refine mk_def (F_number_in T) rfl sc_number_in (fun vs H Q E h => ?_) (fun _ _ _ _ _ _ us hl => match us, hl with | [_], _ => rfl) (fun cdv A outer s H vs Q E hr h => ?_)
  · obtain ⟨x, rfl, _⟩ := h
    rfl
  · have sc := sc_number_in
    obtain ⟨x, rfl, hx, k⟩ := h
    have e2 : ((Str.ofString (toString (60 : Int))).length : Int) = 2 := by decide +kernel
    have kn : ∀ H', Same H H' → numIn x = none → Q .non H' := fun H' hS h => by
      have z := k H' hS
      rw [h] at z
      exact z
    have kf : ∀ H', Same H H' → ¬ ((1 ≤ x.length ∧ x.length ≤ 2) ∧ isNum x = true) → Q .non H' := fun H' hS h => kn H' hS (if_neg h)
    refine ⟨_, (pss_cons (ps_if (PW.pt (pw_or (pt_not (pt_chain op_le op_le pe_int (pe_callB call_len_str (by rfl) (z_len T) (by decide +kernel) (pa_cons (pv 0) pa_nil)) (pe_callB call_len_str (by rfl) (z_len T) (by decide +kernel) (pa_cons (pe_callTy (T := "str") call_str_int (by rfl) (z_str T) (by decide +kernel) (pa_cons (pgi (v_MOST_LINES_sheets T)) pa_nil)) pa_nil)))) (pw_or1 (pt_not (pt_val (pe_callB (cr_all rfl) (by rfl) (z_all T) (by decide +kernel) (pa_cons (pe_lc (own := [("sign", 1)]) rfl sc.nd (pi_str (pv 0)) (blkOk_by (N := N_number_in) (sc := defScope s_number_in) (by decide +kernel)) (fun _ _ _ _ _ => (pg_name (i := 1) sc.nd rfl (Or.inl rfl))) (fun _ _ _ _ _ => pts_nil) (fun _ _ _ _ _ => (pe_cmpR op_in_sign (pv 1) (pgs (v_DIGITS T)) (by rfl)))) pa_nil)))))))
        (pss_one (ps_ret pe_non))
        pss_nil)
      (pss_cons (ps_if (PW.pt (pw_or (PW.pt (pw_and (pt_cmpR op_eq (pe_ix ix_str (pv 0) pe_int (fun _ _ => rfl)) pe_str (nomark _)) (pw_and1 (pt_cmpR op_ne (pv 0) pe_str (nomark _))))) (pw_or1 (pt_cmpR op_gt (pe_callTy (T := "int") call_int_str (by rfl) (z_int T) (by decide +kernel) (pa_cons (pv 0) pa_nil)) (pgi (v_MOST_LINES_sheets T)) (nomark _)))))
        (pss_one (ps_ret pe_non))
        pss_nil)
      (pss_one (ps_ret (pe_callTy (T := "int") call_int_str (by rfl) (z_int T) (by decide +kernel) (pa_cons (pv 0) pa_nil)))))), ?_⟩
    refine ⟨_, rfl, x, rfl, Nat.le_of_lt hx, _, _, rfl, rfl, _, rfl, itd (fun h1 => ?_) (fun h1 => ⟨false, rfl, kf H (Same.refl H) (by omega)⟩)⟩
    refine ⟨_, rfl, by decide, _, rfl, by decide +kernel, _, _, rfl, rfl, _, rfl, itn (fun h2 => ?_) (fun h2 => kf H (Same.refl H) (by omega))⟩
    rw [e2] at h2
    refine all_str (fun c => decide (c ∈ digitsL)) (fun R r => ⟨_, rfl, r⟩) hx (fun c H' R _ r => ⟨_, rfl, c, _, rfl, rfl, r⟩) fun H' hS => ⟨_, rfl, itnb (fun h3 => nxt_ ?_) (fun h3 => kf H' hS fun z => ?_)⟩
    · have hd : isNum x = true := h3
      have hlen : 1 ≤ x.length ∧ x.length ≤ 2 := ⟨by omega, by omega⟩
      have hn := num_ok hlen hd
      have hin : numIn x = if (x.cps.toList[0]? = some 48 ∧ x ≠ "0") ∨ 60 < numVal x then none else some (numVal x) := if_pos ⟨hlen, hd⟩
      obtain ⟨c0, hc0⟩ : ∃ c, x.cps.toList[0]? = some c := by
        have hl := str_len x
        exact ⟨x.cps.toList[0]'(by omega), List.getElem?_eq_getElem _⟩
      refine ⟨_, rfl, x, 0, c0, rfl, rfl, Nat.le_of_lt hx, atI_nat (j := 0) hc0, rfl, _, rfl, itd (fun h4 => ⟨_, rfl, rfl, _, rfl, itn (fun h5 => ?_) (fun h5 => kn H' hS ?_)⟩) (fun h4 => ?_)⟩
      · have e5 : x = "0" := by injection h5
        refine ⟨_, rfl, x, _, rfl, hn, by omega, _, _, rfl, rfl, _, rfl, itd (fun h6 => kn H' hS ?_) (fun h6 => nxt_ ?_)⟩
        · rw [hin, if_pos (.inr h6)]
        · refine ⟨_, rfl, x, _, rfl, hn, by omega, ?_⟩
          have z := k H' hS
          rw [hin, if_neg (fun q => q.elim (fun q => q.2 e5) h6)] at z
          exact z
      · have e4 : c0 = 48 := by
          injection h4 with h4
          injection h4 with h4
          have := congrArg (fun a => a.toList) h4
          have z : [c0] = [48] := this
          injection z
        rw [hin, if_pos (.inl ⟨by rw [hc0, e4], fun q => h5 (by rw [q])⟩)]
      · have e4 : c0 ≠ 48 := fun q => h4 (by rw [q]; decide +kernel)
        have nz : ¬ (x.cps.toList[0]? = some 48 ∧ x ≠ "0") := fun q => e4 (by rw [hc0] at q; exact Option.some.inj q.1)
        refine ⟨_, rfl, x, _, rfl, hn, by omega, _, _, rfl, rfl, _, rfl, itd (fun h6 => kn H' hS ?_) (fun h6 => nxt_ ?_)⟩
        · rw [hin, if_pos (.inr h6)]
        · refine ⟨_, rfl, x, _, rfl, hn, by omega, ?_⟩
          have z := k H' hS
          rw [hin, if_neg (fun q => q.elim nz h6)] at z
          exact z
    · have z2 : isNum x = false := h3
      rw [z2] at z
      cases z.2
end
end Sk
/-! K93C: the row of a file. -/
namespace Sk
open PySem PySem.Spec PyProof.Rows L2
def headIn (row : Str) : Option (Str × Int) := match Txt.split row " " with
  | [a, b, c] => if a = "file" ∧ isName b = true then (numIn c).map fun n => (b, n) else none
  | _ => none
def HeadV (H : Hp) (v : V) : Option (Str × Int) → Prop
  | none => v = .non
  | some (b, n) => ∃ p, v = .ref p ∧ H p = some (.tup [.str b, .int n])
theorem len3 {α : Type} {l : List α} (h : l.length = 3) : ∃ a b c, l = [a, b, c] := by
  match l, h with
  | [a, b, c], _ => exact ⟨a, b, c, rfl⟩
theorem headIn_none {x : Str} (h : (Txt.split x " ").length ≠ 3) : headIn x = none := by
  unfold headIn
  split
  · rename_i a b c e
    rw [e] at h
    exact absurd rfl h
  · rfl
theorem headIn_eq {x a b c : Str} (h : Txt.split x " " = [a, b, c]) : headIn x = if a = "file" ∧ isName b = true then (numIn c).map fun n => (b, n) else none := by
  unfold headIn
  rw [h]
section
variable {P : Program} {w : World} {K : PySem.W.Frag} {mg : Str → Option Value} {base : Heap}
def spHeadIn : Sp := fun vs H Q _ => ∃ x : Str, vs = [.str x] ∧ x.length + 2 ≤ sizeLine ∧ ∀ H' v, Same H H' → HeadV H' v (headIn x) → Q v H'
abbrev N_head_in : List Str := ["row", "words", "many"]
theorem sc_head_in : FnScope N_head_in ["row"] (defScope s_head_in) := ⟨rfl, rfl, rfl, by decide +kernel, rfl, by decide +kernel, by decide +kernel⟩
theorem ok_head_in (T : Wt K mg) : Def P w K mg base 2 d_head_in ["row"] spHeadIn := by
  have D_is_name := ok_is_name (P := P) (w := w) (base := base) T
  have D_number_in := ok_number_in (P := P) (w := w) (base := base) T
  refine mk_def (F_head_in T) rfl sc_head_in (fun vs H Q E h => ?_) (fun _ _ _ _ _ _ us hl => match us, hl with | [_], _ => rfl) (fun cdv A outer s H vs Q E hr h => ?_)
  · obtain ⟨x, rfl, _⟩ := h
    rfl
  · have sc := sc_head_in
    obtain ⟨x, rfl, hx, k⟩ := h
    have hp1 : ∀ z ∈ Txt.split x " ", z.length < sizeLine := fun z hz => by
      have := split_piece hz
      omega
    have kn : ∀ H', Same H H' → headIn x = none → Q .non H' := fun H' hS h => k H' .non hS (by rw [h]; rfl)
    refine ⟨_, (pss_cons (ps_set (i := 1) sc.nd rfl (Or.inl rfl) (pe_split (pv 0) (pgs (v_BLANK_sheets T))))
      (pss_cons (ps_if (PW.pt (pw_or (pt_cmpR op_ne (pe_callB call_len_seq (by rfl) (z_len T) (by decide +kernel) (pa_cons (pv 1) pa_nil)) (pgi (v_ROW_WORDS T)) (nomark _)) (pw_or (pt_cmpR op_ne (pe_ix ix_list (pv 1) pe_int (fun _ _ => rfl)) (pgs (v_FILE_sheets T)) (nomark _)) (pw_or1 (pt_not (pt_val (pcall D_is_name (hr.mono (by decide)) (by rfl) (g_is_name T) passL (pa_cons (pe_ix ix_list (pv 1) pe_int (fun _ _ => rfl)) pa_nil))))))))
        (pss_one (ps_ret pe_non))
        pss_nil)
      (pss_cons (ps_set (i := 2) sc.nd rfl (Or.inl rfl) (pcall D_number_in (hr.mono (by decide)) (by rfl) (g_number_in T) passL (pa_cons (pe_ix ix_list (pv 1) pe_int (fun _ _ => rfl)) pa_nil)))
      (pss_one (ps_ret (pe_ifExp (pt_cmpR op_isN (pv 2) pe_non (nomark _)) pe_non (pe_tup (pa_cons (pe_ix ix_list (pv 1) pe_int (fun _ _ => rfl)) (pa_cons (pv 2) pa_nil))))))))), ?_⟩
    refine ⟨_, rfl, ⟨_, rfl⟩, x, _, rfl, rfl, rfl, hx, fun p hp => ?_⟩
    have s1 : Same H (upd H p (.lst ((Txt.split x " ").map V.str))) := fun b o e => by
      rw [upd_ne (ne_of_none e hp)]
      exact e
    have hl : SqL K (upd H p (.lst ((Txt.split x " ").map V.str))) p ((Txt.split x " ").map V.str) := SqL.of upd_same
    generalize upd H p (.lst ((Txt.split x " ").map V.str)) = H1 at s1 hl
    refine ⟨_, rfl, p, _, rfl, .inl hl, rfl, _, rfl, itn (fun h1 => ?_) (fun h1 => kn H1 s1 (headIn_none fun z => h1 ?_))⟩
    · have h3 : (Txt.split x " ").length = 3 := by
        injection h1 with h1
        rw [List.length_map] at h1
        omega
      obtain ⟨a, b, c, e⟩ := len3 h3
      have ein := headIn_eq e
      rw [e] at hl hp1
      refine ⟨_, rfl, p, _, _, _, rfl, rfl, hl, atI_nat (j := 0) rfl, rfl, _, rfl, itn (fun h4 => ?_) (fun h4 => kn H1 s1 ?_)⟩
      · have ea : a = "file" := by injection h4
        refine ⟨_, rfl, p, _, _, _, rfl, rfl, hl, atI_nat (j := 1) rfl, b, rfl, hp1 b (by simp), fun H2 s2 => ⟨_, rfl, itnb (fun h5 => nxt_ ?_) (fun h5 => kn H2 (s1.trans s2) ?_)⟩⟩
        · have hl2 := s2.seq hl
          refine ⟨_, rfl, p, _, _, _, rfl, rfl, hl2, atI_nat (j := 2) rfl, c, rfl, hp1 c (by simp), fun H3 s3 => ?_⟩
          have hl3 := s3.seq hl2
          have sS := (s1.trans s2).trans s3
          refine ⟨_, rfl, rfl, _, rfl, ?_⟩
          rw [ein, if_pos ⟨ea, h5⟩] at k
          cases hn : numIn c with
          | none =>
            rw [hn] at k
            exact k H3 .non sS rfl
          | some n =>
            rw [hn] at k
            refine ⟨_, rfl, p, _, _, _, rfl, rfl, hl3, atI_nat (j := 1) rfl, _, rfl, (by show 2 ≤ sizeLine; decide), fun q hq => k _ _ (sS.trans fun z o ez => ?_) ⟨q, rfl, upd_same⟩⟩
            rw [upd_ne (ne_of_none ez hq)]
            exact ez
        · rw [ein, if_neg (fun z => by rw [z.2] at h5; cases h5)]
      · rw [ein, if_neg (fun z => h4 (by rw [z.1]))]
    · rw [List.length_map, z]
      rfl
abbrev N_law_head : List Str := ["_law_row", "_law_words", "_law_sign"]
theorem sc_law_head : FnScope N_law_head ["_law_row"] (defScope s_law_head) := ⟨rfl, rfl, rfl, by decide +kernel, rfl, by decide +kernel, by decide +kernel⟩
theorem ok_law_head (T : Wt K mg) : Def P w K mg base 1 d_law_head ["_law_row"] spHeadIn := by
  refine mk_def (F_law_head T) rfl sc_law_head (fun vs H Q E h => ?_) (fun _ _ _ _ _ _ us hl => match us, hl with | [_], _ => rfl) (fun cdv A outer s H vs Q E hr h => ?_)
  · obtain ⟨x, rfl, _⟩ := h
    rfl
  · have sc := sc_law_head
    obtain ⟨x, rfl, hx, k⟩ := h
    have hp1 : ∀ z ∈ Txt.split x " ", z.length < sizeLine := fun z hz => by
      have := split_piece hz
      omega
    have kn : ∀ H', Same H H' → headIn x = none → Q .non H' := fun H' hS h => k H' .non hS (by rw [h]; rfl)
    refine ⟨_, (pss_cons (ps_set (i := 1) sc.nd rfl (Or.inl rfl) (pe_split (pv 0) pe_str))
      (pss_cons (ps_if (PW.pt (pw_or (pt_cmpR op_ne (pe_callB call_len_seq (by rfl) (z_len T) (by decide +kernel) (pa_cons (pv 1) pa_nil)) pe_int (nomark _)) (pw_or (pt_cmpR op_ne (pe_ix ix_list (pv 1) pe_int (fun _ _ => rfl)) pe_str (nomark _)) (pw_or (pt_not (pt_chain op_lt op_lt pe_int (pe_callB call_len_str (by rfl) (z_len T) (by decide +kernel) (pa_cons (pe_ix ix_list (pv 1) pe_int (fun _ _ => rfl)) pa_nil)) pe_int)) (pw_or1 (pt_not (pt_chain op_lt op_lt pe_int (pe_callB call_len_str (by rfl) (z_len T) (by decide +kernel) (pa_cons (pe_ix ix_list (pv 1) pe_int (fun _ _ => rfl)) pa_nil)) pe_int)))))))
        (pss_one (ps_ret pe_non))
        pss_nil)
      (pss_cons (ps_if (pt_not (pt_val (pe_callB (cr_all rfl) (by rfl) (z_all T) (by decide +kernel) (pa_cons (pe_lc (own := [("_law_sign", 2)]) rfl sc.nd (pi_str (pe_ix ix_list (pv 1) pe_int (fun _ _ => rfl))) (blkOk_by (N := N_law_head) (sc := defScope s_law_head) (by decide +kernel)) (fun _ _ _ _ _ => (pg_name (i := 2) sc.nd rfl (Or.inl rfl))) (fun _ _ _ _ _ => pts_nil) (fun _ _ _ _ _ => (pe_cmpR op_in_sign (pv 2) pe_str (by rfl)))) pa_nil))))
        (pss_one (ps_ret pe_non))
        pss_nil)
      (pss_cons (ps_if (PW.pt (pw_or (pt_not (pt_val (pe_callB (cr_all rfl) (by rfl) (z_all T) (by decide +kernel) (pa_cons (pe_lc (own := [("_law_sign", 2)]) rfl sc.nd (pi_str (pe_ix ix_list (pv 1) pe_int (fun _ _ => rfl))) (blkOk_by (N := N_law_head) (sc := defScope s_law_head) (by decide +kernel)) (fun _ _ _ _ _ => (pg_name (i := 2) sc.nd rfl (Or.inl rfl))) (fun _ _ _ _ _ => pts_nil) (fun _ _ _ _ _ => (pe_cmpR op_in_sign (pv 2) pe_str (by rfl)))) pa_nil)))) (pw_or1 (PW.pt (pw_and (pt_cmpR op_eq (pe_ix ix_str (pe_ix ix_list (pv 1) pe_int (fun _ _ => rfl)) pe_int (fun _ _ => rfl)) pe_str (nomark _)) (pw_and1 (pt_cmpR op_ne (pe_ix ix_list (pv 1) pe_int (fun _ _ => rfl)) pe_str (nomark _))))))))
        (pss_one (ps_ret pe_non))
        pss_nil)
      (pss_one (ps_ret (pe_ifExp (pt_cmpR op_lt (pe_callTy (T := "int") call_int_str (by rfl) (z_int T) (by decide +kernel) (pa_cons (pe_ix ix_list (pv 1) pe_int (fun _ _ => rfl)) pa_nil)) pe_int (nomark _)) (pe_tup (pa_cons (pe_ix ix_list (pv 1) pe_int (fun _ _ => rfl)) (pa_cons (pe_callTy (T := "int") call_int_str (by rfl) (z_int T) (by decide +kernel) (pa_cons (pe_ix ix_list (pv 1) pe_int (fun _ _ => rfl)) pa_nil)) pa_nil))) pe_non))))))), ?_⟩
    refine ⟨_, rfl, ⟨_, rfl⟩, x, _, rfl, rfl, rfl, hx, fun p hp => ?_⟩
    have s1 : Same H (upd H p (.lst ((Txt.split x " ").map V.str))) := fun b o e => by
      rw [upd_ne (ne_of_none e hp)]
      exact e
    have hl : SqL K (upd H p (.lst ((Txt.split x " ").map V.str))) p ((Txt.split x " ").map V.str) := SqL.of upd_same
    generalize upd H p (.lst ((Txt.split x " ").map V.str)) = H1 at s1 hl
    refine ⟨_, rfl, p, _, rfl, .inl hl, rfl, _, rfl, itn (fun h1 => ?_) (fun h1 => kn H1 s1 (headIn_none fun z => h1 ?_))⟩
    · have h3 : (Txt.split x " ").length = 3 := by
        injection h1 with h1
        rw [List.length_map] at h1
        omega
      obtain ⟨a, b, c, e⟩ := len3 h3
      have ein := headIn_eq e
      rw [e] at hl hp1
      have hbl := hp1 b (by simp)
      have hcl := hp1 c (by simp)
      have nb : isName b = false → headIn x = none := fun z => by rw [ein, if_neg (fun q => by rw [q.2] at z; cases z)]
      have nc : numIn c = none → headIn x = none := fun z => by
        rw [ein]
        split
        · rw [z]; rfl
        · rfl
      have nlb : ¬ (1 ≤ b.length ∧ b.length ≤ 8) → headIn x = none := fun z => nb (by unfold isName; rw [decide_eq_false z]; rfl)
      have nlc : ¬ ((1 ≤ c.length ∧ c.length ≤ 2) ∧ isNum c = true) → headIn x = none := fun z => nc (if_neg z)
      refine ⟨_, rfl, p, _, _, _, rfl, rfl, hl, atI_nat (j := 0) rfl, rfl, _, rfl, itn (fun h4 => ?_) (fun h4 => kn H1 s1 (by rw [ein, if_neg (fun z => h4 (by rw [z.1]))]))⟩
      have ea : a = "file" := by injection h4
      refine ⟨_, rfl, p, _, _, _, rfl, rfl, hl, atI_nat (j := 1) rfl, b, rfl, Nat.le_of_lt hbl, _, _, rfl, rfl, _, rfl, itd (fun h5 => ?_) (fun h5 => ⟨false, rfl, kn H1 s1 (nlb (by omega))⟩)⟩
      refine ⟨_, _, rfl, rfl, _, rfl, itn (fun h6 => ?_) (fun h6 => kn H1 s1 (nlb (by omega)))⟩
      refine ⟨_, rfl, p, _, _, _, rfl, rfl, hl, atI_nat (j := 2) rfl, c, rfl, Nat.le_of_lt hcl, _, _, rfl, rfl, _, rfl, itd (fun h7 => ?_) (fun h7 => ⟨false, rfl, kn H1 s1 (nlc (by omega))⟩)⟩
      refine ⟨_, _, rfl, rfl, _, rfl, itn (fun h8 => nxt_ ?_) (fun h8 => kn H1 s1 (nlc (by omega)))⟩
      have hb2 : 1 ≤ b.length ∧ b.length ≤ 8 := ⟨by omega, by omega⟩
      have hc2 : 1 ≤ c.length ∧ c.length ≤ 2 := ⟨by omega, by omega⟩
      refine all_str (fun z => decide (z ∈ smallL)) (fun R r => ⟨_, rfl, p, _, _, _, rfl, rfl, hl, atI_nat (j := 1) rfl, r⟩) hbl (fun z H' R _ r => ⟨_, rfl, z, _, rfl, rfl, r⟩) fun H2 s2 => ⟨_, rfl, itnb (fun h9 => nxt_ ?_) (fun h9 => kn H2 (s1.trans s2) (nb ?_))⟩
      · have hnb : isName b = true := by
          unfold isName
          rw [decide_eq_true hb2, Bool.true_and]
          exact h9
        have hl2 := s2.seq hl
        refine all_str (fun z => decide (z ∈ digitsL)) (fun R r => ⟨_, rfl, p, _, _, _, rfl, rfl, hl2, atI_nat (j := 2) rfl, r⟩) hcl (fun z H' R _ r => ⟨_, rfl, z, _, rfl, rfl, r⟩) fun H3 s3 => ⟨_, rfl, itnb (fun h10 => ?_) (fun h10 => kn H3 ((s1.trans s2).trans s3) (nlc fun z => ?_))⟩
        · have hd : isNum c = true := h10
          have hn := num_ok hc2 hd
          have hin : numIn c = if (c.cps.toList[0]? = some 48 ∧ c ≠ "0") ∨ 60 < numVal c then none else some (numVal c) := if_pos ⟨hc2, hd⟩
          have hl3 := s3.seq hl2
          have sS := (s1.trans s2).trans s3
          obtain ⟨c0, hc0⟩ : ∃ z, c.cps.toList[0]? = some z := by
            have := str_len c
            exact ⟨c.cps.toList[0]'(by omega), List.getElem?_eq_getElem _⟩
          refine ⟨_, rfl, p, _, _, _, rfl, rfl, hl3, atI_nat (j := 2) rfl, c, 0, c0, rfl, rfl, Nat.le_of_lt hcl, atI_nat (j := 0) hc0, rfl, _, rfl, itd (fun h11 => ⟨_, rfl, p, _, _, _, rfl, rfl, hl3, atI_nat (j := 2) rfl, rfl, _, rfl, itn (fun h12 => nxt_ ?_) (fun h12 => kn H3 sS (nc ?_))⟩) (fun h11 => nxt_ ?_)⟩
          · have e12 : c = "0" := by injection h12
            refine ⟨_, rfl, p, _, _, _, rfl, rfl, hl3, atI_nat (j := 2) rfl, c, _, rfl, hn, by omega, _, _, rfl, rfl, _, rfl, itd (fun h13 => ?_) (fun h13 => kn H3 sS (nc ?_))⟩
            · refine ⟨_, rfl, p, _, _, _, rfl, rfl, hl3, atI_nat (j := 1) rfl, _, rfl, p, _, _, _, rfl, rfl, hl3, atI_nat (j := 2) rfl, c, _, rfl, hn, by omega, (by show 2 ≤ sizeLine; decide), fun q hq => ?_⟩
              rw [ein, if_pos ⟨ea, hnb⟩, hin, if_neg (fun q => q.elim (fun q => q.2 e12) (by omega))] at k
              refine k _ _ (sS.trans fun z o ez => ?_) ⟨q, rfl, upd_same⟩
              rw [upd_ne (ne_of_none ez hq)]
              exact ez
            · rw [hin, if_pos (.inr (by omega))]
          · have e11 : c0 = 48 := by
              injection h11 with h11
              injection h11 with h11
              have z : [c0] = [48] := congrArg (fun a => a.toList) h11
              injection z
            rw [hin, if_pos (.inl ⟨by rw [hc0, e11], fun q => h12 (by rw [q])⟩)]
          · have e11 : c0 ≠ 48 := fun q => h11 (by rw [q]; decide +kernel)
            have nz : ¬ (c.cps.toList[0]? = some 48 ∧ c ≠ "0") := fun q => e11 (by rw [hc0] at q; exact Option.some.inj q.1)
            refine ⟨_, rfl, p, _, _, _, rfl, rfl, hl3, atI_nat (j := 2) rfl, c, _, rfl, hn, by omega, _, _, rfl, rfl, _, rfl, itd (fun h13 => ?_) (fun h13 => kn H3 sS (nc ?_))⟩
            · refine ⟨_, rfl, p, _, _, _, rfl, rfl, hl3, atI_nat (j := 1) rfl, _, rfl, p, _, _, _, rfl, rfl, hl3, atI_nat (j := 2) rfl, c, _, rfl, hn, by omega, (by show 2 ≤ sizeLine; decide), fun q hq => ?_⟩
              rw [ein, if_pos ⟨ea, hnb⟩, hin, if_neg (fun q => q.elim nz (by omega))] at k
              refine k _ _ (sS.trans fun z o ez => ?_) ⟨q, rfl, upd_same⟩
              rw [upd_ne (ne_of_none ez hq)]
              exact ez
            · rw [hin, if_pos (.inr (by omega))]
        · have z2 : isNum c = false := h10
          rw [z2] at z
          cases z.2
      · unfold isName
        rw [decide_eq_true hb2, Bool.true_and]
        exact h9
    · rw [List.length_map, z]
      rfl
abbrev N_law_is_text : List Str := ["_law_row", "_law_letters", "_law_sign"]
theorem sc_law_is_text : FnScope N_law_is_text ["_law_row"] (defScope s_law_is_text) := ⟨rfl, rfl, rfl, by decide +kernel, rfl, by decide +kernel, by decide +kernel⟩
theorem ok_law_is_text (T : Wt K mg) : Def P w K mg base 1 d_law_is_text ["_law_row"] spIsLine := by
  refine mk_def (F_law_is_text T) rfl sc_law_is_text (fun vs H Q E h => ?_) (fun _ _ _ _ _ _ us hl => match us, hl with | [_], _ => rfl) (fun cdv A outer s H vs Q E hr h => ?_)
  · obtain ⟨x, rfl, _⟩ := h
    rfl
  · have sc := sc_law_is_text
    obtain ⟨x, rfl, hx, k⟩ := h
    refine ⟨_, (pss_cons (ps_set (i := 1) sc.nd rfl (Or.inr rfl) pe_str)
      (pss_one (ps_ret (pe_and (pe_cmpR op_lt (pe_callB call_len_str (by rfl) (z_len T) (by decide +kernel) (pa_cons (pv 0) pa_nil)) pe_int (nomark _)) (pe_one (pe_callB (cr_all rfl) (by rfl) (z_all T) (by decide +kernel) (pa_cons (pe_lc (own := [("_law_sign", 2)]) rfl sc.nd (pi_str (pv 0)) (blkOk_by (N := N_law_is_text) (sc := defScope s_law_is_text) (by decide +kernel)) (fun _ _ _ _ _ => (pg_name (i := 2) sc.nd rfl (Or.inl rfl))) (fun _ _ _ _ _ => pts_nil) (fun _ _ _ _ _ => (pe_cmpR op_in_sign (pv 2) (pv 1) (by rfl)))) pa_nil))))))), ?_⟩
    refine ⟨_, rfl, x, rfl, Nat.le_of_lt hx, _, _, rfl, rfl, _, rfl, itd (fun h1 => ?_) (fun h1 => qb (k H (Same.refl H)) ?_)⟩
    · refine all_str (fun c => decide (c ∈ lettersL)) (fun R r => ⟨_, rfl, r⟩) hx (fun c H' R _ r => ⟨_, rfl, _, rfl, c, _, rfl, rfl, r⟩) fun H' hS => qb (k H' hS) ?_
      unfold isLine
      rw [decide_eq_true (show x.length ≤ 80 by omega), Bool.and_true]
      rfl
    · unfold isLine
      rw [decide_eq_false (show ¬ x.length ≤ 80 by omega), Bool.and_false]
end
end Sk
/-! K93D: the law's draws. -/
namespace Sk
open PySem PySem.Spec PyProof.Rows L2
/-- all but p stands -/
def Frm (p : Addr) (H H' : Hp) : Prop := ∀ q o, q ≠ p → H q = some o → H' q = some o
theorem Frm.refl (p : Addr) (H : Hp) : Frm p H H := fun _ _ _ h => h
theorem Frm.trans {p : Addr} {H H1 H2 : Hp} (a : Frm p H H1) (b : Frm p H1 H2) : Frm p H H2 := fun q o n h => b q o n (a q o n h)
theorem same_frm {p : Addr} {H H' : Hp} (s : Same H H') : Frm p H H' := fun q o _ h => s q o h
theorem Frm.new {p q : Addr} {H : Hp} {o : HO} (h : H q = none) : Frm p H (upd H q o) := fun r u _ e => by
  rw [upd_ne (ne_of_none e h)]
  exact e
theorem Frm.put {p : Addr} {H : Hp} {o : HO} : Frm p H (upd H p o) := fun r u n e => by
  rw [upd_ne n]
  exact e
/-- a pot at p, drawn from at most n times -/
def PotAt (H : Hp) (p : Addr) (n : Int) : Prop := ∃ a b c : Int, H p = some (.lst [.int a, .int b, .int c]) ∧ 0 ≤ a ∧ 0 ≤ b ∧ b < 2305843009213693952 ∧ 0 ≤ c ∧ c ≤ n
theorem PotAt.mono {H : Hp} {p : Addr} {n m : Int} (h : PotAt H p n) (l : n ≤ m) : PotAt H p m := by
  obtain ⟨a, b, c, h1, h2, h3, h4, h5, h6⟩ := h
  exact ⟨a, b, c, h1, h2, h3, h4, h5, by omega⟩
theorem PotAt.same {H H' : Hp} {p : Addr} {n : Int} (h : PotAt H p n) (s : Same H H') : PotAt H' p n := by
  obtain ⟨a, b, c, h1, h2⟩ := h
  exact ⟨a, b, c, s _ _ h1, h2⟩
theorem PotAt.ne {H : Hp} {p q : Addr} {n : Int} (h : PotAt H p n) (hq : H q = none) : q ≠ p := by
  obtain ⟨a, b, c, h1, _⟩ := h
  exact fun e => by rw [e, h1] at hq; cases hq
/-! ### comprehensions whose elements draw, or make things -/
def TSame (H H' : Hp) : Prop := ∀ b xs, H b = some (.tup xs) → H' b = some (.tup xs)
theorem TSame.trans {H H1 H2 : Hp} (a : TSame H H1) (b : TSame H1 H2) : TSame H H2 := fun c xs h => b c xs (a c xs h)
theorem same_ts {H H' : Hp} (s : Same H H') : TSame H H' := fun b xs h => s b _ h
theorem Frm.ts {p : Addr} {H H' : Hp} {n : Int} (f : Frm p H H') (h : PotAt H p n) : TSame H H' := fun b xs e => by
  obtain ⟨a, c, d, h1, _⟩ := h
  exact f b _ (ne_of e h1 (by intro z; cases z)) e
theorem TSame.lst {D : Addr} {H : Hp} {xs : List V} {o : HO} (h : H D = some (.lst xs)) : TSame H (upd H D o) := fun b ys e => by
  rw [upd_ne (ne_of e h (by intro z; cases z))]
  exact e
theorem PotAt.upd {p D : Addr} {H : Hp} {n : Int} {o : HO} (h : PotAt H p n) (hne : D ≠ p) : PotAt (upd H D o) p n := by
  obtain ⟨a, b, c, h1, h2⟩ := h
  exact ⟨a, b, c, by rw [upd_ne (Ne.symm hne)]; exact h1, h2⟩
theorem Frm.upd {p D : Addr} {H1 H : Hp} {o : HO} (f : Frm p H1 H) (h : H1 D = none) : Frm p H1 (upd H D o) := fun q u n e => by
  rw [upd_ne (ne_of_none e h)]
  exact f q u n e
/-- elements that draw from the pot at p, at most c times each -/
theorem lc_pot {J : It} {n : Nat} {G : Hp → Prop} {Y : Nat → Hp → V → Hp → Prop} (w : Walk J n G Y) {te : TE} {j : Nat} {σ : L2.St} {H1 : Hp} {D p : Addr} {Qd : Hp → Prop} {a c : Int} (hn : n < 100000) (X : Nat → V → Prop) (EV : Nat → V → Hp → Prop)
    (hG : ∀ H, Frm p H1 H → G H) (hY : ∀ i H x H', i < n → Y i H x H' → H' = H ∧ X i x) (hE : ∀ i v H H', TSame H H' → EV i v H → EV i v H') (hD : H1 D = none) (hp : PotAt H1 p a)
    (he : ∀ (i : Nat) x H R, i < n → X i x → Frm p H1 H → PotAt H p (a + c * i) → (∀ v H', Frm p H H' → PotAt H' p (a + c * i + c) → EV i v H' → R v H') → te ((wipe σ [j]).set j (some x)) H R)
    (hd : ∀ xs H, H D = some (.lst xs) → xs.length = n → PotAt H p (a + c * n) → Frm p H1 H → (∀ (i : Nat) v, xs[i]? = some v → EV i v H) → Qd H) :
    ∃ W : Nat → Nat → Hp → Prop, (∃ m, W 0 m (upd H1 D (.lst []))) ∧ ∀ i m H, W i m H →
      (J.stop i H ∧ Qd H) ∨ (J.go i H ∧ ∃ Nx : Hp → Prop, (∀ H', Nx H' → ∃ m', m' < m ∧ W (i + 1) m' H') ∧ ∀ x H', J.yld i H x H' → gName j x (wipe σ [j]) H' fun σ2 H2 => wipe σ2 [j] = wipe σ [j] ∧ tYes σ2 H2 fun b H3 =>
        if b = true then te σ2 H3 fun y H4 => ∃ acc, H4 D = some (.lst acc) ∧ acc.length < sizeLine ∧ Nx (upd H4 D (.lst (acc ++ [y]))) else Nx H3) := by
  have hDp : D ≠ p := hp.ne hD
  refine lc_it w (fun i H => ∃ xs, H D = some (.lst xs) ∧ xs.length = i ∧ PotAt H p (a + c * i) ∧ Frm p H1 H ∧ ∀ (k : Nat) v, xs[k]? = some v → EV k v H) ?_ ?_ ?_ ?_
  · refine ⟨[], upd_same, rfl, ?_, (Frm.refl p H1).upd hD, fun k v h => by simp at h⟩
    have e : a + c * ((0 : Nat) : Int) = a := by simp
    rw [e]
    exact hp.upd hDp
  · rintro i H _ ⟨xs, _, _, _, f, _⟩
    exact hG H f
  · rintro i x H H' hi ⟨xs, hx, hl, hpt, f, hev⟩ hy
    obtain ⟨rfl, hX⟩ := hY i H x H' hi hy
    refine ⟨wipe1, ?_⟩
    refine he i x H' _ hi hX f hpt fun v H2 f2 hp2 ev => ?_
    have hx2 : H2 D = some (.lst xs) := f2 D _ hDp hx
    refine ⟨xs, hx2, ?_, xs ++ [v], upd_same, ?_, ?_, (f.trans f2).upd hD, fun k u hk => ?_⟩
    · exact Nat.lt_of_lt_of_le (show xs.length < 100000 by omega) (by decide)
    · rw [List.length_append, hl]
      rfl
    · have e : a + c * ((i + 1 : Nat) : Int) = a + c * (i : Int) + c := by
        rw [Int.natCast_add, Int.mul_add]
        simp [Int.add_assoc]
      rw [e]
      exact hp2.upd hDp
    · have t2 : TSame H2 (L2.upd H2 D (.lst (xs ++ [v]))) := TSame.lst hx2
      by_cases hlt : k < xs.length
      · rw [List.getElem?_append_left hlt] at hk
        exact hE k u _ _ t2 (hE k u _ _ (f2.ts hpt) (hev k u hk))
      · rw [List.getElem?_append_right (by omega)] at hk
        have ek : k - xs.length = 0 := by
          cases q : k - xs.length with
          | zero => rfl
          | succ m => rw [q] at hk; simp at hk
        rw [ek] at hk
        have eu : v = u := by simpa using hk
        have ek2 : k = i := by omega
        subst eu ek2
        exact hE _ _ _ _ t2 ev
  · rintro H ⟨xs, hx, hl, hpt, f, hev⟩
    exact hd xs H hx hl hpt f hev
/-- elements that leave all that stood as it was -/
theorem lc_pure {J : It} {n : Nat} {G : Hp → Prop} {Y : Nat → Hp → V → Hp → Prop} (w : Walk J n G Y) {te : TE} {j : Nat} {σ : L2.St} {H1 : Hp} {D : Addr} {Qd : Hp → Prop} (hn : n < 100000) (X : Nat → V → Prop) (EV : Nat → V → Hp → Prop)
    (hG : ∀ H, Same H1 H → G H) (hY : ∀ i H x H', i < n → Y i H x H' → H' = H ∧ X i x) (hE : ∀ i v H H', TSame H H' → EV i v H → EV i v H') (hD : H1 D = none)
    (he : ∀ (i : Nat) x H R, i < n → X i x → Same H1 H → (∀ v H', Same H H' → EV i v H' → R v H') → te ((wipe σ [j]).set j (some x)) H R)
    (hd : ∀ xs H, H D = some (.lst xs) → xs.length = n → Same H1 H → (∀ (i : Nat) v, xs[i]? = some v → EV i v H) → Qd H) :
    ∃ W : Nat → Nat → Hp → Prop, (∃ m, W 0 m (upd H1 D (.lst []))) ∧ ∀ i m H, W i m H →
      (J.stop i H ∧ Qd H) ∨ (J.go i H ∧ ∃ Nx : Hp → Prop, (∀ H', Nx H' → ∃ m', m' < m ∧ W (i + 1) m' H') ∧ ∀ x H', J.yld i H x H' → gName j x (wipe σ [j]) H' fun σ2 H2 => wipe σ2 [j] = wipe σ [j] ∧ tYes σ2 H2 fun b H3 =>
        if b = true then te σ2 H3 fun y H4 => ∃ acc, H4 D = some (.lst acc) ∧ acc.length < sizeLine ∧ Nx (upd H4 D (.lst (acc ++ [y]))) else Nx H3) := by
  refine lc_it w (fun i H => ∃ xs, H D = some (.lst xs) ∧ xs.length = i ∧ Same H1 H ∧ ∀ (k : Nat) v, xs[k]? = some v → EV k v H) ?_ ?_ ?_ ?_
  · exact ⟨[], upd_same, rfl, fun b o e => by rw [upd_ne (ne_of_none e hD)]; exact e, fun k v h => by simp at h⟩
  · rintro i H _ ⟨xs, _, _, f, _⟩
    exact hG H f
  · rintro i x H H' hi ⟨xs, hx, hl, f, hev⟩ hy
    obtain ⟨rfl, hX⟩ := hY i H x H' hi hy
    refine ⟨wipe1, ?_⟩
    refine he i x H' _ hi hX f fun v H2 f2 ev => ?_
    have hx2 : H2 D = some (.lst xs) := f2 D _ hx
    refine ⟨xs, hx2, ?_, xs ++ [v], upd_same, ?_, fun b o e => ?_, fun k u hk => ?_⟩
    · exact Nat.lt_of_lt_of_le (show xs.length < 100000 by omega) (by decide)
    · rw [List.length_append, hl]
      rfl
    · rw [upd_ne (ne_of_none e hD)]
      exact f2 b o (f b o e)
    · have t2 : TSame H2 (L2.upd H2 D (.lst (xs ++ [v]))) := TSame.lst hx2
      by_cases hlt : k < xs.length
      · rw [List.getElem?_append_left hlt] at hk
        exact hE k u _ _ t2 (hE k u _ _ (same_ts f2) (hev k u hk))
      · rw [List.getElem?_append_right (by omega)] at hk
        have ek : k - xs.length = 0 := by
          cases q : k - xs.length with
          | zero => rfl
          | succ m => rw [q] at hk; simp at hk
        rw [ek] at hk
        have eu : v = u := by simpa using hk
        have ek2 : k = i := by omega
        subst eu ek2
        exact hE _ _ _ _ t2 ev
  · rintro H ⟨xs, hx, hl, f, hev⟩
    exact hd xs H hx hl f hev
section
variable {P : Program} {w : World} {K : PySem.W.Frag} {mg : Str → Option Value} {base : Heap}
def spDraw : Sp := fun vs H Q _ => ∃ (p : Addr) (m n : Int), vs = [.ref p, .int m] ∧ 0 < m ∧ m ≤ 1000000 ∧ PotAt H p n ∧ n < 1000000 ∧ ∀ H' z, Frm p H H' → PotAt H' p (n + 1) → 0 ≤ z → z < m → Q (.int z) H'
abbrev N_law_draw : List Str := ["_law_pot_here", "_law_many", "_law_prime", "_law_made", "_law_digit"]
theorem sc_law_draw : FnScope N_law_draw ["_law_pot_here", "_law_many"] (defScope s_law_draw) := ⟨rfl, rfl, rfl, by decide +kernel, rfl, by decide +kernel, by decide +kernel⟩
theorem primes {z : Int} (h0 : 0 ≤ z) (h1 : z < 5) : ∃ r : Int, atI [V.int 2147483647, V.int 2147483629, V.int 2147483587, V.int 2147483579, V.int 2147483563] z = some (.int r) ∧ 0 < r ∧ r ≤ 2147483647 := by
  rcases (by omega : z = 0 ∨ z = 1 ∨ z = 2 ∨ z = 3 ∨ z = 4) with e | e | e | e | e <;> subst e
  · exact ⟨_, rfl, by omega, by omega⟩
  · exact ⟨_, rfl, by omega, by omega⟩
  · exact ⟨_, rfl, by omega, by omega⟩
  · exact ⟨_, rfl, by omega, by omega⟩
  · exact ⟨_, rfl, by omega, by omega⟩
theorem ok_law_draw (T : Wt K mg) : Def P w K mg base 1 d_law_draw ["_law_pot_here", "_law_many"] spDraw := by
  refine mk_def (F_law_draw T) rfl sc_law_draw (fun vs H Q E h => ?_) (fun _ _ _ _ _ _ us hl => match us, hl with | [_, _], _ => rfl) (fun cdv A outer s H vs Q E hr h => ?_)
  · obtain ⟨p, m, n, rfl, _⟩ := h
    rfl
  · have sc := sc_law_draw
    obtain ⟨p, m, n, rfl, hm, hm2, ⟨a, b, c, hp, ha, hb, hb2, hc, hc2⟩, hn, k⟩ := h
    refine ⟨_, (pss_cons (ps_if (pt_cmpR op_gt (pe_ix ix_list (pv 0) pe_int (fun _ _ => rfl)) pe_int (nomark _))
        (pss_cons (ps_set (i := 4) sc.nd rfl (Or.inl rfl) (pe_op op_mod (pe_callTy (T := "int") call_int1 (by rfl) (z_int T) (by decide +kernel) (pa_cons (pe_ix ix_list (pv 0) pe_int (fun _ _ => rfl)) pa_nil)) (pv 1)))
        (pss_cons (ps_asg (pe_op op_fdivN (pe_ix ix_list (pv 0) pe_int (fun _ _ => rfl)) (pv 1)) (pg_sub (pv 0) pe_int set_list))
        (pss_one (ps_ret (pv 4)))))
        pss_nil)
      (pss_cons (ps_asg (pe_op op_add (pe_ix ix_list (pv 0) pe_int (fun _ _ => rfl)) pe_int) (pg_sub (pv 0) pe_int set_list))
      (pss_cons (ps_set (i := 2) sc.nd rfl (Or.inl rfl) (pe_ix ix_list (pe_lst (pa_cons pe_int (pa_cons pe_int (pa_cons pe_int (pa_cons pe_int (pa_cons pe_int pa_nil)))))) (pe_op op_mod (pe_callTy (T := "int") call_int1 (by rfl) (z_int T) (by decide +kernel) (pa_cons (pe_ix ix_list (pv 0) pe_int (fun _ _ => rfl)) pa_nil)) pe_int) (fun _ _ => rfl)))
      (pss_cons (ps_set (i := 3) sc.nd rfl (Or.inl rfl) (pe_op op_mod (pe_callTy (T := "int") call_int1 (by rfl) (z_int T) (by decide +kernel) (pa_cons (pe_op op_powW (pe_op op_add (pe_op op_add (pe_ix ix_list (pv 0) pe_int (fun _ _ => rfl)) (pe_op op_mul (pe_op op_mul pe_int (pe_ix ix_list (pv 0) pe_int (fun _ _ => rfl))) (pe_ix ix_list (pv 0) pe_int (fun _ _ => rfl)))) pe_int) pe_int) pa_nil)) (pv 2)))
      (pss_cons (ps_set (i := 3) sc.nd rfl (Or.inl rfl) (pe_op op_mod (pe_callTy (T := "int") call_int1 (by rfl) (z_int T) (by decide +kernel) (pa_cons (pe_op op_mul (pv 3) (pe_op op_add (pe_op op_mod (pe_callTy (T := "int") call_int1 (by rfl) (z_int T) (by decide +kernel) (pa_cons (pv 3) pa_nil)) pe_int) (pe_op op_mul pe_int (pe_ix ix_list (pv 0) pe_int (fun _ _ => rfl))))) pa_nil)) pe_int))
      (pss_one (ps_ret (pe_op op_mod (pe_callTy (T := "int") call_int1 (by rfl) (z_int T) (by decide +kernel) (pa_cons (pe_op op_fdivN (pv 3) pe_int) pa_nil)) (pv 1))))))))), ?_⟩
    refine ⟨_, rfl, p, _, _, _, rfl, rfl, SqL.of hp, atI_nat (j := 0) rfl, _, _, rfl, rfl, _, rfl, itd (fun h0 => ?_) (fun h0 => nxt_ ?_)⟩
    · refine ⟨_, rfl, p, _, _, _, rfl, rfl, SqL.of hp, atI_nat (j := 0) rfl, .inl ⟨_, rfl, _, rfl, _, _, rfl, rfl, hm, ?_⟩⟩
      refine ⟨_, rfl, p, _, _, _, rfl, rfl, SqL.of hp, atI_nat (j := 0) rfl, _, rfl, _, _, rfl, rfl, ⟨by omega, by omega⟩, _, rfl, p, _, _, 0, rfl, rfl, hp, rfl, ?_⟩
      refine ⟨_, rfl, k _ _ Frm.put ⟨_, b, c, upd_same, ?_, hb, hb2, hc, by omega⟩ (Int.emod_nonneg _ (by omega)) (Int.emod_lt_of_pos _ hm)⟩
      rw [Int.fdiv_eq_ediv_of_nonneg a (by omega)]
      exact Int.ediv_nonneg ha (by omega)
    · have hcc : c ≤ 999999 := by omega
      refine ⟨_, rfl, p, _, _, _, rfl, rfl, SqL.of hp, atI_nat (j := 2) rfl, _, _, rfl, rfl, _, rfl, p, _, _, 2, rfl, rfl, hp, rfl, ?_⟩
      have f1 : Frm p H (upd H p (.lst [.int a, .int b, .int (c + 1)])) := Frm.put
      have hp1 : (upd H p (.lst [.int a, .int b, .int (c + 1)])) p = some (.lst [.int a, .int b, .int (c + 1)]) := upd_same
      show tSeq _ _ _ _ (upd H p (.lst [.int a, .int b, .int (c + 1)]))
      generalize upd H p (.lst [.int a, .int b, .int (c + 1)]) = H1 at f1 hp1
      refine ⟨(by show 5 ≤ sizeLine; decide), fun l hl => ?_⟩
      have hl1 : (upd H1 l (.lst [.int 2147483647, .int 2147483629, .int 2147483587, .int 2147483579, .int 2147483563])) p = some (.lst [.int a, .int b, .int (c + 1)]) := by
        rw [upd_ne (ne_of_none hp1 hl)]
        exact hp1
      have f2 : Frm p H (upd H1 l (.lst [.int 2147483647, .int 2147483629, .int 2147483587, .int 2147483579, .int 2147483563])) := f1.trans (Frm.new hl)
      have hl2 : (upd H1 l (.lst [.int 2147483647, .int 2147483629, .int 2147483587, .int 2147483579, .int 2147483563])) l = some (.lst [.int 2147483647, .int 2147483629, .int 2147483587, .int 2147483579, .int 2147483563]) := upd_same
      generalize upd H1 l (.lst [.int 2147483647, .int 2147483629, .int 2147483587, .int 2147483579, .int 2147483563]) = H2 at hl1 f2 hl2
      obtain ⟨r, er, r0, r1⟩ := primes (z := (c + 1) % 5) (Int.emod_nonneg _ (by omega)) (Int.emod_lt_of_pos _ (by omega))
      refine ⟨_, rfl, p, _, _, _, rfl, rfl, SqL.of hl1, atI_nat (j := 2) rfl, .inl ⟨_, rfl, _, _, rfl, rfl, (by show (0 : Int) < 5; decide), l, _, _, _, rfl, rfl, SqL.of hl2, er, ?_⟩⟩
      have hsq : (c + 1) * (c + 1) ≤ 1000000 * 1000000 := Int.mul_le_mul (by omega) (by omega) (by omega) (by omega)
      have hs0 : 0 ≤ (c + 1) * (c + 1) := Int.mul_nonneg (by omega) (by omega)
      have e3 : 99991 * (c + 1) * (c + 1) = 99991 * ((c + 1) * (c + 1)) := Int.mul_assoc _ _ _
      have hbig : (b + 99991 * (c + 1) * (c + 1) + 61).natAbs < 2 ^ 64 := by
        rw [e3]
        generalize (c + 1) * (c + 1) = y at hsq hs0
        omega
      refine ⟨_, rfl, p, _, _, _, rfl, rfl, SqL.of hl1, atI_nat (j := 1) rfl, ?_⟩
      refine ⟨_, rfl, p, _, _, _, rfl, rfl, SqL.of hl1, atI_nat (j := 2) rfl, _, _, rfl, rfl, .inl ⟨by omega, by omega⟩, ?_⟩
      refine ⟨_, rfl, p, _, _, _, rfl, rfl, SqL.of hl1, atI_nat (j := 2) rfl, _, _, rfl, rfl, .inl ⟨by omega, by omega⟩, _, _, rfl, rfl, _, _, rfl, rfl, ?_⟩
      refine ⟨_, _, rfl, rfl, ⟨(by show (0 : Int) ≤ 3; decide), bits_mul_le hbig (by decide) (by decide)⟩, .inl ⟨_, rfl, _, rfl, _, _, rfl, rfl, r0, ?_⟩⟩
      have m0 : 0 ≤ (b + 99991 * (c + 1) * (c + 1) + 61) ^ (3 : Int).toNat % r := Int.emod_nonneg _ (by omega)
      have m1 : (b + 99991 * (c + 1) * (c + 1) + 61) ^ (3 : Int).toNat % r < r := Int.emod_lt_of_pos _ r0
      show tSeq _ _ _ (List.set _ 3 (some (V.int ((b + 99991 * (c + 1) * (c + 1) + 61) ^ (3 : Int).toNat % r)))) H2
      generalize (b + 99991 * (c + 1) * (c + 1) + 61) ^ (3 : Int).toNat % r = d at m0 m1
      refine ⟨_, rfl, _, rfl, .inl ⟨_, rfl, _, _, rfl, rfl, (by show (0 : Int) < 10007; decide), ?_⟩⟩
      refine ⟨_, rfl, p, _, _, _, rfl, rfl, SqL.of hl1, atI_nat (j := 2) rfl, _, _, rfl, rfl, .inl ⟨by omega, by omega⟩, _, _, rfl, rfl, _, _, rfl, rfl, .inl ⟨by omega, by omega⟩, ?_⟩
      refine .inl ⟨_, rfl, _, _, rfl, rfl, (by show (0 : Int) < 2305843009213693907; decide), ?_⟩
      refine ⟨_, rfl, _, _, rfl, rfl, ⟨(by decide), (by decide)⟩, .inl ⟨_, rfl, _, rfl, _, _, rfl, rfl, hm, ?_⟩⟩
      exact k _ _ f2 ⟨a, b, c + 1, hl1, ha, hb, hb2, by omega, by omega⟩ (Int.emod_nonneg _ (by omega)) (Int.emod_lt_of_pos _ hm)
/-- an item of a list, a sign of a text -/
def spAny (K : PySem.W.Frag) : Sp := fun vs H Q _ => ∃ (p : Addr) (n : Int), PotAt H p n ∧ n < 1000000 ∧
  ((∃ (l : Addr) (xs : List V), vs = [.ref p, .ref l] ∧ SqL K H l xs ∧ l ≠ p ∧ xs ≠ [] ∧ xs.length ≤ 1000000 ∧ ∀ H' v, Frm p H H' → PotAt H' p (n + 1) → v ∈ xs → Q v H') ∨
   (∃ x : Str, vs = [.ref p, .str x] ∧ 0 < x.length ∧ x.length ≤ 1000000 ∧ ∀ H' c, Frm p H H' → PotAt H' p (n + 1) → c ∈ cl x → Q (.str ⟨#[c]⟩) H'))
theorem Frm.sq {p l : Addr} {H H' : Hp} {xs : List V} (f : Frm p H H') (hl : l ≠ p) (h : SqL K H l xs) : SqL K H' l xs := by
  rcases h with (h | ⟨o, h⟩) | h
  · exact .inl (.inl (f _ _ hl h))
  · exact .inl (.inr ⟨o, f _ _ hl h⟩)
  · exact .inr h
theorem at_mem {α : Type} {xs : List α} {z : Int} (h0 : 0 ≤ z) (h1 : z < (xs.length : Int)) : ∃ v, v ∈ xs ∧ atI xs z = some v := by
  have hz : z.toNat < xs.length := by omega
  refine ⟨xs[z.toNat], List.getElem_mem _, ?_⟩
  have q : atI xs ((z.toNat : Nat) : Int) = some xs[z.toNat] := atI_nat (by simp [hz])
  rw [show ((z.toNat : Nat) : Int) = z by omega] at q
  exact q
abbrev N_law_any : List Str := ["_law_pot_here", "_law_items"]
theorem sc_law_any : FnScope N_law_any ["_law_pot_here", "_law_items"] (defScope s_law_any) := ⟨rfl, rfl, rfl, by decide +kernel, rfl, by decide +kernel, by decide +kernel⟩
theorem ok_law_any (T : Wt K mg) : Def P w K mg base 2 d_law_any ["_law_pot_here", "_law_items"] (spAny K) := by
  have D_law_draw := ok_law_draw (P := P) (w := w) (base := base) T
  refine mk_def (F_law_any T) rfl sc_law_any (fun vs H Q E h => ?_) (fun _ _ _ _ _ _ us hl => match us, hl with | [_, _], _ => rfl) (fun cdv A outer s H vs Q E hr h => ?_)
  · obtain ⟨p, n, _, _, ⟨l, xs, rfl, _⟩ | ⟨x, rfl, _⟩⟩ := h <;> rfl
  · have sc := sc_law_any
    obtain ⟨p, n, hp, hn, h⟩ := h
    rcases h with ⟨l, xs, rfl, hl, hne, h0, h1, k⟩ | ⟨x, rfl, h0, h1, k⟩
    · refine ⟨_, (pss_one (ps_ret (pe_ix ix_list (pv 1) (pcall D_law_draw (hr.mono (by decide)) (by rfl) (g_law_draw T) passL (pa_cons (pv 0) (pa_cons (pe_callB call_len_seq (by rfl) (z_len T) (by decide +kernel) (pa_cons (pv 1) pa_nil)) pa_nil))) (fun _ _ => rfl)))), ?_⟩
      have hpos : 0 < xs.length := List.length_pos_iff.mpr h0
      refine ⟨_, rfl, _, rfl, _, rfl, l, xs, rfl, .inl hl, p, (xs.length : Int), n, rfl, by omega, by omega, hp, hn, fun H' z f hp' z0 z1 => ?_⟩
      obtain ⟨v, hv, ev⟩ := at_mem z0 z1
      exact ⟨l, xs, z, v, rfl, rfl, f.sq hne hl, ev, k _ _ f hp' hv⟩
    · refine ⟨_, (pss_one (ps_ret (pe_ix ix_str (pv 1) (pcall D_law_draw (hr.mono (by decide)) (by rfl) (g_law_draw T) passL (pa_cons (pv 0) (pa_cons (pe_callB call_len_str (by rfl) (z_len T) (by decide +kernel) (pa_cons (pv 1) pa_nil)) pa_nil))) (fun _ _ => rfl)))), ?_⟩
      refine ⟨_, rfl, _, rfl, _, rfl, x, rfl, Nat.le_trans h1 (by decide), p, (x.length : Int), n, rfl, by omega, by omega, hp, hn, fun H' z f hp' z0 z1 => ?_⟩
      obtain ⟨c, hc, ec⟩ := at_mem (xs := cl x) z0 (by rw [cl_len]; exact z1)
      exact ⟨x, z, c, rfl, rfl, Nat.le_trans h1 (by decide), ec, k _ _ f hp' hc⟩
end
end Sk
/-! K93E: what the law draws. -/
namespace Sk
open PySem PySem.Spec PyProof.Rows L2
theorem b01 (k : Bool) : -(2 ^ 64) < (if k = true then (1 : Int) else 0) ∧ (if k = true then (1 : Int) else 0) < 2 ^ 64 := by cases k <;> decide
theorem mulb {d : Int} (h : 0 ≤ d) (k : Bool) : 0 ≤ d * (if k = true then (1 : Int) else 0) := by
  cases k with
  | true => simpa using h
  | false => simp
theorem if_val {S : V → Prop} {p : Prop} [Decidable p] {ta tb : TE} {σ : L2.St} {H : Hp} {Q : VK} (k : ∀ v, S v → Q v H) (h1 : p → ∃ v, S v ∧ ∀ R : VK, R v H → ta σ H R) (h2 : ¬ p → ∃ v, S v ∧ ∀ R : VK, R v H → tb σ H R) :
    if decide p = true then ta σ H Q else tb σ H Q :=
  itd (fun h => by obtain ⟨v, s, r⟩ := h1 h; exact r Q (k v s)) (fun h => by obtain ⟨v, s, r⟩ := h2 h; exact r Q (k v s))
/-! ### names -/
theorem chars_of {S : List Nat} : ∀ {xs : List V}, (∀ (i : Nat) v, xs[i]? = some v → ∃ c, c ∈ S ∧ v = .str ⟨#[c]⟩) → ∃ cs : List Nat, xs = (cs.map fun c => (⟨#[c]⟩ : Str)).map V.str ∧ ∀ c ∈ cs, c ∈ S
  | [], _ => ⟨[], rfl, fun _ h => nomatch h⟩
  | v :: r, h => by
    obtain ⟨c, hc, e⟩ := h 0 v rfl
    obtain ⟨cs, e2, hs⟩ := chars_of (xs := r) fun i u hu => h (i + 1) u hu
    refine ⟨c :: cs, by rw [e, e2]; rfl, fun d hd => ?_⟩
    rcases List.mem_cons.mp hd with q | q
    · rw [q]; exact hc
    · exact hs d q
theorem join_chars : ∀ (cs : List Nat), cl (Str.join "" (cs.map fun c => (⟨#[c]⟩ : Str))) = cs
  | [] => rfl
  | [c] => rfl
  | c :: d :: r => by
    have ih := join_chars (d :: r)
    show cl (Str.join "" ((⟨#[c]⟩ : Str) :: (⟨#[d]⟩ : Str) :: r.map fun c => (⟨#[c]⟩ : Str))) = _
    rw [join_cons]
    have e : (⟨#[d]⟩ : Str) :: r.map (fun c => (⟨#[c]⟩ : Str)) = (d :: r).map fun c => (⟨#[c]⟩ : Str) := rfl
    rw [e, ih]
    rfl
theorem strs_of {PP : Nat → Str → Prop} : ∀ {xs : List V} (k : Nat), (∀ (i : Nat) v, xs[i]? = some v → ∃ x, PP (k + i) x ∧ v = .str x) → ∃ ys : List Str, xs = ys.map V.str ∧ ∀ (i : Nat) x, ys[i]? = some x → PP (k + i) x
  | [], _, _ => ⟨[], rfl, fun i x h => by simp at h⟩
  | v :: r, k, h => by
    obtain ⟨x, hx, e⟩ := h 0 v rfl
    obtain ⟨ys, e2, hs⟩ := strs_of (xs := r) (k + 1) fun i u hu => by
      have z := h (i + 1) u hu
      rw [show k + (i + 1) = k + 1 + i by omega] at z
      exact z
    refine ⟨x :: ys, by rw [e, e2]; rfl, fun i y hy => ?_⟩
    cases i with
    | zero =>
      have e3 : x = y := by simpa using hy
      rw [← e3]
      exact hx
    | succ i =>
      have z := hs i y (by simpa using hy)
      rw [show k + (i + 1) = k + 1 + i by omega]
      exact z
theorem cut_lo (z : Str) (k : Nat) : cl (cutS z none (some (k : Int))) = (cl z).take k := by
  unfold cutS cl
  rw [HT.sIx_none, HT.sIx_nat, List.drop_zero, Nat.sub_zero]
  show (z.cps.toList.take (min k z.length)) = _
  have e : z.length = z.cps.toList.length := by rw [← cl_len]; rfl
  rw [e, List.take_eq_take_iff]
  omega
theorem cut_hi (z : Str) (k : Nat) (h : k ≤ z.length) : cl (cutS z (some (k : Int)) none) = (cl z).drop k := by
  unfold cutS cl
  rw [HT.sIx_none, HT.sIx_nat, Nat.min_eq_left h]
  show ((z.cps.toList.drop k).take (z.length - k)) = _
  have e : z.length = z.cps.toList.length := by rw [← cl_len]; rfl
  rw [e]
  exact List.take_of_length_le (by simp)
/-- the name at turn i: a letter put into the stem -/
def nameAt (stem : List Nat) (at_ : Nat) (first : Int) (i : Nat) : List Nat := stem.take at_ ++ ((smallL[((first + 3 * (i : Int)) % 26).toNat]?).getD 0 :: stem.drop at_)
theorem small_len : smallL.length = 26 := by decide +kernel
theorem small_nd : smallL.Nodup := by decide +kernel
theorem small_at {z : Int} (h0 : 0 ≤ z) (h1 : z < 26) : ∃ c, smallL[z.toNat]? = some c ∧ c ∈ smallL := by
  have hz : z.toNat < smallL.length := by rw [small_len]; omega
  exact ⟨smallL[z.toNat], by simp [hz], List.getElem_mem _⟩
theorem nameAt_len (stem : List Nat) (at_ : Nat) (first : Int) (i : Nat) (h : at_ ≤ stem.length) : (nameAt stem at_ first i).length = stem.length + 1 := by
  unfold nameAt
  rw [List.length_append, List.length_cons, List.length_take, List.length_drop]
  omega
theorem nameAt_inj {stem : List Nat} {at_ : Nat} {first : Int} {i j : Nat} (hi : i < 26) (hj : j < 26) (h : nameAt stem at_ first i = nameAt stem at_ first j) : i = j := by
  have h1 := List.append_cancel_left h
  injection h1 with h1 _
  obtain ⟨c, hc, _⟩ := small_at (z := (first + 3 * (i : Int)) % 26) (Int.emod_nonneg _ (by decide)) (Int.emod_lt_of_pos _ (by decide))
  obtain ⟨d, hd, _⟩ := small_at (z := (first + 3 * (j : Int)) % 26) (Int.emod_nonneg _ (by decide)) (Int.emod_lt_of_pos _ (by decide))
  rw [hc, hd] at h1
  have e : c = d := h1
  rw [← e] at hd
  have key := nd_ix small_nd hc hd
  omega
theorem nameAt_mem {stem : List Nat} {at_ : Nat} {first : Int} {i : Nat} (h : ∀ c ∈ stem, c ∈ smallL) : ∀ c ∈ nameAt stem at_ first i, c ∈ smallL := fun c hc => by
  unfold nameAt at hc
  rcases List.mem_append.mp hc with q | q
  · exact h c (List.mem_of_mem_take q)
  · rcases List.mem_cons.mp q with q | q
    · obtain ⟨d, hd, hd2⟩ := small_at (z := (first + 3 * (i : Int)) % 26) (Int.emod_nonneg _ (by decide)) (Int.emod_lt_of_pos _ (by decide))
      rw [hd] at q
      rw [q]
      exact hd2
    · exact h c (List.mem_of_mem_drop q)
def fixName (x : Str) : Str := if x = "main" then "maine" else x
theorem nodup_of {α : Type} : ∀ {l : List α}, (∀ (i j : Nat) x, l[i]? = some x → l[j]? = some x → i = j) → l.Nodup
  | [], _ => List.nodup_nil
  | a :: r, h => by
    refine List.nodup_cons.mpr ⟨fun hm => ?_, nodup_of fun i j x hi hj => ?_⟩
    · obtain ⟨i, hi⟩ := List.mem_iff_getElem?.mp hm
      have z := h 0 (i + 1) a rfl (by simpa using hi)
      omega
    · have z := h (i + 1) (j + 1) x (by simpa using hi) (by simpa using hj)
      omega
theorem names_ok {cs : List Nat} {k : Nat} {fi : Int} {ys zs : List Str} (hk : k ≤ cs.length) (hc : cs.length ≤ 7) (hs : ∀ c ∈ cs, c ∈ smallL) (hn : ys.length ≤ 12)
    (hy : ∀ (i : Nat) x, ys[i]? = some x → cl x = nameAt cs k fi i) (hz : ∀ (i : Nat) x, zs[i]? = some x → ∃ y, ys[i]? = some y ∧ x = fixName y) : (∀ x ∈ zs, isName x = true ∧ x ≠ "main") ∧ zs.Nodup := by
  have l4 : ("main" : Str).length = 4 := by decide +kernel
  have l5 : ("maine" : Str).length = 5 := by decide +kernel
  have hl : ∀ (i : Nat) y, ys[i]? = some y → y.length = cs.length + 1 := fun i y h => by rw [← cl_len, hy i y h, nameAt_len _ _ _ _ hk]
  constructor
  · intro x hx
    obtain ⟨i, hi⟩ := List.mem_iff_getElem?.mp hx
    obtain ⟨y, h1, rfl⟩ := hz i x hi
    unfold fixName
    split
    · exact ⟨by decide +kernel, by decide +kernel⟩
    · rename_i hne
      refine ⟨?_, hne⟩
      have hly := hl i y h1
      unfold isName
      rw [decide_eq_true (by omega : 1 ≤ y.length ∧ y.length ≤ 8), Bool.true_and, List.all_eq_true]
      intro c hcm
      have hcm2 : c ∈ cl y := hcm
      rw [hy i y h1] at hcm2
      exact decide_eq_true (nameAt_mem hs c hcm2)
  · refine nodup_of fun i j x hi hj => ?_
    obtain ⟨y, h1, e1⟩ := hz i x hi
    obtain ⟨u, h2, e2⟩ := hz j x hj
    have hly := hl i y h1
    have hlu := hl j u h2
    have hyu : y = u := by
      have e : fixName y = fixName u := e1.symm.trans e2
      unfold fixName at e
      split at e
      · rename_i q
        split at e
        · rename_i q2
          rw [q, q2]
        · rw [q, l4] at hly
          rw [← e, l5] at hlu
          omega
      · split at e
        · rename_i q2
          rw [q2, l4] at hlu
          rw [e, l5] at hly
          omega
        · exact e
    subst hyu
    have hi12 := (List.getElem?_eq_some_iff.mp h1).1
    have hj12 := (List.getElem?_eq_some_iff.mp h2).1
    exact nameAt_inj (by omega) (by omega) ((hy i y h1).symm.trans (hy j y h2))
section
variable {P : Program} {w : World} {K : PySem.W.Frag} {mg : Str → Option Value} {base : Heap}
def spPot (K : PySem.W.Frag) : Sp := fun vs H Q _ => ∃ (a : Addr) (ns : List Int) (k : Int), vs = [.ref a, .int k] ∧ SqL K H a (ns.map V.int) ∧ 0 ≤ k ∧ k < 10 ∧ ∀ H' p, Same H H' → PotAt H' p 0 → H p = none → Q (.ref p) H'
abbrev N_law_pot : List Str := ["_law_script", "_law_k", "_law_cell", "_law_own"]
theorem sc_law_pot : FnScope N_law_pot ["_law_script", "_law_k"] (defScope s_law_pot) := ⟨rfl, rfl, rfl, by decide +kernel, rfl, by decide +kernel, by decide +kernel⟩
theorem ok_law_pot (T : Wt K mg) : Def P w K mg base 1 d_law_pot ["_law_script", "_law_k"] (spPot K) := by
  refine mk_def (F_law_pot T) rfl sc_law_pot (fun vs H Q E h => ?_) (fun _ _ _ _ _ _ us hl => match us, hl with | [_, _], _ => rfl) (fun cdv A outer s H vs Q E hr h => ?_)
  · obtain ⟨a, ns, k, rfl, _⟩ := h
    rfl
  · have sc := sc_law_pot
    obtain ⟨a, ns, k, rfl, hs, k0, k1, q⟩ := h
    refine ⟨_, (pss_cons (ps_set (i := 2) sc.nd rfl (Or.inl rfl) (pe_ifExp (pt_cmpR op_lt (pv 1) (pe_callB call_len_seq (by rfl) (z_len T) (by decide +kernel) (pa_cons (pv 0) pa_nil)) (nomark _)) (pe_ix ix_list (pv 0) (pv 1) (fun _ _ => rfl)) (pe_op op_add (pe_op op_mul pe_int (pv 1)) pe_int)))
      (pss_cons (ps_set (i := 3) sc.nd rfl (Or.inl rfl) (pe_op op_mul (pe_op op_mod (pe_callTy (T := "int") call_int1 (by rfl) (z_int T) (by decide +kernel) (pa_cons (pe_callB call_abs (by rfl) (z_abs T) (by decide +kernel) (pa_cons (pv 2) pa_nil)) pa_nil)) (pe_op op_powW (pe_op op_powW pe_int pe_int) pe_int)) (pe_callTy (T := "int") call_int1 (by rfl) (z_int T) (by decide +kernel) (pa_cons (pe_cmpR op_ge (pe_callB call_abs (by rfl) (z_abs T) (by decide +kernel) (pa_cons (pv 2) pa_nil)) (pe_op op_powW pe_int pe_int) (nomark _)) pa_nil))))
      (pss_one (ps_ret (pe_lst (pa_cons (pv 3) (pa_cons (pe_op op_mod (pe_callTy (T := "int") call_int1 (by rfl) (z_int T) (by decide +kernel) (pa_cons (pe_op op_add (pe_op op_add (pe_op op_mul (pe_op op_mod (pe_callTy (T := "int") call_int1 (by rfl) (z_int T) (by decide +kernel) (pa_cons (pv 2) pa_nil)) pe_int) pe_int) (pe_op op_mul (pe_op op_mul pe_int (pv 1)) (pv 1))) pe_int) pa_nil)) pe_int) (pa_cons pe_int pa_nil)))))))), ?_⟩
    refine ⟨_, rfl, _, rfl, a, _, rfl, .inl hs, _, _, rfl, rfl, _, rfl, if_val (S := fun v => ∃ c : Int, v = .int c) ?_ (fun h => ?_) (fun h => ?_)⟩
    · rintro _ ⟨c, rfl⟩
      have big0 : (0 : Int) < ((10 : Int) ^ (60 : Int).toNat) ^ (5 : Int).toNat := Int.pow_pos (Int.pow_pos (by decide))
      refine ⟨_, rfl, _, rfl, .inl ⟨_, rfl, ?_⟩⟩
      refine ⟨_, _, rfl, rfl, ⟨(by decide), (by decide +kernel)⟩, _, _, rfl, rfl, ⟨(by decide), (by decide +kernel)⟩, _, _, rfl, rfl, big0, ?_⟩
      have m0 : 0 ≤ (if c < 0 then -c else c) % ((10 : Int) ^ (60 : Int).toNat) ^ (5 : Int).toNat := Int.emod_nonneg _ (by omega)
      refine ⟨_, rfl, _, rfl, _, _, rfl, rfl, ⟨(by decide), (by decide +kernel)⟩, _, _, rfl, rfl, .inr ⟨_, rfl, _, _, rfl, rfl, .inr (b01 _), ?_⟩⟩
      refine ⟨_, rfl, _, rfl, .inl ⟨_, rfl, _, _, rfl, rfl, (by show (0 : Int) < 2305843009213693951; decide), _, _, rfl, rfl, .inr (by decide), ?_⟩⟩
      refine ⟨_, rfl, _, _, rfl, rfl, .inl (by decide), ?_⟩
      refine ⟨_, rfl, _, _, rfl, rfl, .inr ⟨by omega, by omega⟩, _, _, rfl, rfl, _, _, rfl, rfl, .inl ⟨_, rfl, _, _, rfl, rfl, (by show (0 : Int) < 2305843009213693921; decide), ?_⟩⟩
      have b0 : 0 ≤ (c % 2305843009213693951 * 71993 + 9241 * k * k + 53) % 2305843009213693921 := Int.emod_nonneg _ (by decide)
      have b1 : (c % 2305843009213693951 * 71993 + 9241 * k * k + 53) % 2305843009213693921 < 2305843009213693921 := Int.emod_lt_of_pos _ (by decide)
      refine ⟨(by show 3 ≤ sizeLine; decide), fun l hl => q _ l (fun b o e => ?_) ⟨_, _, 0, upd_same, mulb m0 _, b0, by omega, by omega, by omega⟩ hl⟩
      rw [upd_ne (ne_of_none e hl)]
      exact e
    · have hlt : k.toNat < ns.length := by
        rw [List.length_map] at h
        omega
      refine ⟨_, ⟨ns[k.toNat], rfl⟩, fun R r => ⟨_, rfl, _, rfl, a, _, _, _, rfl, rfl, hs, ?_, r⟩⟩
      have z : atI (ns.map V.int) ((k.toNat : Nat) : Int) = some (.int ns[k.toNat]) := atI_nat (by simp [hlt])
      rw [show ((k.toNat : Nat) : Int) = k by omega] at z
      exact z
    · exact ⟨_, ⟨_, rfl⟩, fun R r => ⟨_, rfl, _, _, rfl, rfl, .inl (by decide), _, _, rfl, rfl, r⟩⟩
def spNames : Sp := fun vs H Q _ => ∃ (p : Addr) (m n : Int), vs = [.ref p, .int m] ∧ 0 ≤ m ∧ m ≤ 12 ∧ PotAt H p n ∧ n < 900000 ∧
  ∀ (H' : Hp) (l : Addr) (ns : List Str), Frm p H H' → PotAt H' p (n + 10) → H' l = some (.lst (ns.map V.str)) → l ≠ p → (ns.length : Int) = m → (∀ x ∈ ns, isName x = true ∧ x ≠ "main") → ns.Nodup → Q (.ref l) H'
abbrev N_law_names : List Str := ["_law_pot_here", "_law_many", "_law_small", "_law_stem", "_law_found", "_law_at", "_law_first", "_law_k", "_law_name", "_law_turn"]
theorem sc_law_names : FnScope N_law_names ["_law_pot_here", "_law_many"] (defScope s_law_names) := ⟨rfl, rfl, rfl, by decide +kernel, rfl, by decide +kernel, by decide +kernel⟩
theorem ok_law_names (T : Wt K mg) : Def P w K mg base 3 d_law_names ["_law_pot_here", "_law_many"] spNames := by
  have D_law_draw := ok_law_draw (P := P) (w := w) (base := base) T
  have D_law_any := ok_law_any (P := P) (w := w) (base := base) T
  refine mk_def (F_law_names T) rfl sc_law_names (fun vs H Q E h => ?_) (fun _ _ _ _ _ _ us hl => match us, hl with | [_, _], _ => rfl) (fun cdv A outer s H vs Q E hr h => ?_)
  · obtain ⟨p, m, n, rfl, _⟩ := h
    rfl
  · have sc := sc_law_names
    obtain ⟨p, m, n, rfl, m0, m1, hp, hn, q⟩ := h
    refine ⟨_, (pss_cons (ps_set (i := 2) sc.nd rfl (Or.inr rfl) pe_str)
      (pss_cons (ps_set (i := 3) sc.nd rfl (Or.inr rfl) (pe_join pe_str (pe_lc (own := [("_law_turn", 9)]) rfl sc.nd (pi_range1 (by rfl) (z_range T) (pa_cons (pcall D_law_draw (hr.mono (by decide)) (by rfl) (g_law_draw T) passL (pa_cons (pv 0) (pa_cons pe_int pa_nil))) pa_nil)) (blkOk_by (N := N_law_names) (sc := defScope s_law_names) (by decide +kernel)) (fun _ _ _ _ _ => (pg_name (i := 9) sc.nd rfl (Or.inl rfl))) (fun _ _ _ _ _ => pts_nil) (fun _ _ _ _ _ => (pcall D_law_any (hr.mono (by decide)) (by rfl) (g_law_any T) passL (pa_cons (pv 0) (pa_cons (pv 2) pa_nil)))))))
      (pss_cons (ps_asg (pe_tup (pa_cons (pcall D_law_draw (hr.mono (by decide)) (by rfl) (g_law_draw T) passL (pa_cons (pv 0) (pa_cons (pe_op op_add (pe_callB call_len_str (by rfl) (z_len T) (by decide +kernel) (pa_cons (pv 3) pa_nil)) pe_int) pa_nil))) (pa_cons (pcall D_law_draw (hr.mono (by decide)) (by rfl) (g_law_draw T) passL (pa_cons (pv 0) (pa_cons pe_int pa_nil))) pa_nil))) (pg_tup rfl (pgs_cons (pg_name (i := 5) sc.nd rfl (Or.inr rfl)) (pgs_cons (pg_name (i := 6) sc.nd rfl (Or.inr rfl)) pgs_nil))))
      (pss_cons (ps_setLc (i := 4) (own := [("_law_k", 7)]) rfl sc.nd rfl rfl (sw_true rfl rfl rfl (by decide +kernel)) (pi_range1 (by rfl) (z_range T) (pa_cons (pv 1) pa_nil)) (blkOk_by (N := N_law_names) (sc := defScope s_law_names) (by decide +kernel)) (fun _ _ _ _ _ => (pg_name (i := 7) sc.nd rfl (Or.inl rfl))) (fun _ _ _ _ _ => pts_nil) (fun _ _ _ _ _ => (pe_op op_add_str (pe_op op_add_str (pe_slice sl_str (pv 3) po_none (po_some (pv 5))) (pe_ix ix_str (pv 2) (pe_op op_mod (pe_callTy (T := "int") call_int1 (by rfl) (z_int T) (by decide +kernel) (pa_cons (pe_op op_add (pv 6) (pe_op op_mul pe_int (pv 7))) pa_nil)) pe_int) (fun _ _ => rfl))) (pe_slice sl_str (pv 3) (po_some (pv 5)) po_none))))
      (pss_one (ps_ret (pe_lc (own := [("_law_name", 8)]) rfl sc.nd (pi_list (pv 4)) (blkOk_by (N := N_law_names) (sc := defScope s_law_names) (by decide +kernel)) (fun _ _ _ _ _ => (pg_name (i := 8) sc.nd rfl (Or.inl rfl))) (fun _ _ _ _ _ => pts_nil) (fun _ _ _ _ _ => (pe_ifExp (pt_cmpR op_ne (pv 8) pe_str (nomark _)) (pv 8) pe_str))))))))), ?_⟩
    refine ⟨⟨_, rfl⟩, _, rfl, p, 8, n, rfl, by omega, by omega, hp, by omega, fun H2 z f2 hp2 z0 z1 => ⟨z, rfl, by omega, by omega, fun D hD => ?_⟩⟩
    refine lc_pot (p := p) (a := n + 1) (c := 1) walk_range (by omega) (fun i x => x = .int (0 + i)) (fun i v H => ∃ c, c ∈ smallL ∧ v = .str ⟨#[c]⟩) (fun _ _ => trivial) (fun i H x H' _ y => y) (fun _ _ _ _ _ e => e) hD hp2 (fun i x H R hi hx f hpt k => ?_) (fun xs H3 hx hl hp3 f3 hev => ?_)
    · refine ⟨_, rfl, _, rfl, p, n + 1 + 1 * i, hpt, by omega, .inr ⟨_, rfl, by decide +kernel, by decide +kernel, fun H' c f hp' hc => ?_⟩⟩
      exact k _ H' f hp' ⟨c, hc, rfl⟩
    · obtain ⟨cs, ex, hcs⟩ := chars_of hev
      have hlen : cs.length = z.toNat := by rw [ex, List.length_map, List.length_map] at hl; exact hl
      have hsum : ((cs.map fun c => (⟨#[c]⟩ : Str)).map (·.length)).sum ≤ 100 := by
        have : ((cs.map fun c => (⟨#[c]⟩ : Str)).map (·.length)) = cs.map fun _ => 1 := by
          rw [List.map_map]
          rfl
        rw [this, List.map_const', List.sum_replicate_nat, hlen]
        omega
      refine ⟨_, D, _, rfl, rfl, .inl (SqL.of (by rw [hx, ex])), ?_, ?_⟩
      · have e0 : ("" : Str).length = 0 := by decide
        rw [e0, Nat.mul_zero]
        omega
      have hst : cl (Txt.join "" (cs.map fun c => (⟨#[c]⟩ : Str))) = cs := by
        rw [tjoin]
        exact join_chars cs
      generalize Txt.join "" (cs.map fun c => (⟨#[c]⟩ : Str)) = st at hst
      have hsl : st.length = cs.length := by rw [← cl_len, hst]
      have hsz : st.length ≤ sizeLine := by rw [hsl, hlen]; exact Nat.le_trans (by omega : z.toNat ≤ 8) (by decide)
      refine ⟨_, rfl, _, rfl, st, rfl, hsz, _, _, rfl, rfl, p, _, _, rfl, by omega, by omega, hp3, by omega, fun H4 at_ f4 hp4 a0 a1 => ?_⟩
      obtain ⟨k, rfl⟩ := Int.eq_ofNat_of_zero_le a0
      have hk : k ≤ st.length := by omega
      refine ⟨_, rfl, p, _, _, rfl, by omega, by omega, hp4, by omega, fun H5 fi f5 hp5 b0 b1 => ⟨(by show 2 ≤ sizeLine; decide), fun t ht => ⟨t, _, rfl, SqT.of upd_same, rfl, _, _, rfl, _, _, rfl, rfl, ?_⟩⟩⟩
      have f6 : Frm p H (upd H5 t (.tup [.int (k : Int), .int fi])) := (f2.trans (f3.trans (f4.trans f5))).trans (Frm.new ht)
      have hp6 : PotAt (upd H5 t (.tup [.int (k : Int), .int fi])) p (n + 10) := (hp5.upd (hp5.ne ht)).mono (by omega)
      show tSeq _ _ _ _ (upd H5 t (.tup [.int (k : Int), .int fi]))
      generalize upd H5 t (.tup [.int (k : Int), .int fi]) = H6 at f6 hp6
      refine ⟨_, rfl, m, rfl, by omega, by omega, fun D2 hD2 => ?_⟩
      refine lc_pure walk_range (by omega) (fun i x => x = .int (0 + i)) (fun i v _ => ∃ x, cl x = nameAt cs k fi i ∧ v = .str x) (fun _ _ => trivial) (fun i H x H' _ y => y) (fun _ _ _ _ _ e => e) hD2 (fun i x H R hi hx fS kk => ?_) (fun xs2 H7 hx2 hl2 s7 hev2 => ?_)
      · subst hx
        obtain ⟨c, hc, hcm⟩ := small_at (z := (fi + 3 * (i : Int)) % 26) (Int.emod_nonneg _ (by decide)) (Int.emod_lt_of_pos _ (by decide))
        have hat : atI ("abcdefghijklmnopqrstuvwxyz" : Str).cps.toList ((fi + 3 * (0 + (i : Int))) % 26) = some c := by
          rw [Int.zero_add]
          have e : (fi + 3 * (i : Int)) % 26 = ((((fi + 3 * (i : Int)) % 26).toNat : Nat) : Int) := by
            have := Int.emod_nonneg (fi + 3 * (i : Int)) (show (26 : Int) ≠ 0 by decide)
            omega
          rw [e]
          exact atI_nat hc
        have c1 := cut_lo st k
        have c2 := cut_hi st k hk
        rw [hst] at c1 c2
        have lc1 : (cutS st none (some (k : Int))).length ≤ 8 := by rw [← cl_len, c1, List.length_take]; omega
        have lc2 : (cutS st (some (k : Int)) none).length ≤ 8 := by rw [← cl_len, c2, List.length_drop]; omega
        have l1 : (⟨#[c]⟩ : Str).length = 1 := rfl
        refine ⟨_, rfl, _, rfl, _, rfl, st, rfl, hsz, _, rfl, _, rfl, _, rfl, _, _, rfl, rfl, .inl (by decide), _, _, rfl, rfl, .inl ⟨_, rfl, _, _, rfl, rfl, (by show (0 : Int) < 26; decide), _, _, c, rfl, rfl, (by decide +kernel), hat, _, _, rfl, rfl, Nat.le_trans (by omega : _ ≤ 100) (by decide), ?_⟩⟩
        refine ⟨_, rfl, _, rfl, _, rfl, st, rfl, hsz, _, _, rfl, rfl, ?_, ?_⟩
        · have e : (cutS st none (some (k : Int)) ++ (⟨#[c]⟩ : Str)).length = (cutS st none (some (k : Int))).length + 1 := len_app _ _
          exact Nat.le_trans (by omega : _ ≤ 100) (by decide)
        · refine kk _ _ (L2.Same.refl _) ⟨_, ?_, rfl⟩
          rw [cl_app, cl_app, c1, c2]
          unfold nameAt
          rw [hc]
          simp [cl]
      · obtain ⟨ys, ey, hys⟩ := strs_of (PP := fun i x => cl x = nameAt cs k fi i) 0 (xs := xs2) fun i v h => by
          rw [Nat.zero_add]
          exact hev2 i v h
        have hyl : ys.length = m.toNat := by rw [ey, List.length_map] at hl2; exact hl2
        have hD7 : H7 D2 = some (.lst (ys.map V.str)) := by rw [hx2, ey]
        have hp7 : PotAt H7 p (n + 10) := hp6.same s7
        have f7 : Frm p H H7 := f6.trans (same_frm s7)
        refine ⟨_, rfl, D2, rfl, ⟨_, SqL.of hD7⟩, fun D3 hD3 => ?_⟩
        refine lc_pure (walk_list (K := K) (a := D2) (xs := ys.map V.str)) (by rw [List.length_map]; omega) (fun i x => (ys.map V.str)[i]? = some x) (fun i v _ => ∃ x, (∃ y, ys[i]? = some y ∧ x = fixName y) ∧ v = .str x) (fun H s => SqL.of (s _ _ hD7)) (fun i H x H' _ y => y) (fun _ _ _ _ _ e => e) hD3 (fun i x H R hi hx fS kk => ?_) (fun xs3 H8 hx3 hl3 s8 hev3 => ?_)
        · rw [List.getElem?_map] at hx
          obtain ⟨y, hy, rfl⟩ := Option.map_eq_some_iff.mp hx
          refine ⟨_, rfl, rfl, _, rfl, itn (fun h => ?_) (fun h => ?_)⟩
          · have e : y = "main" := by injection h
            exact kk _ _ (L2.Same.refl _) ⟨_, ⟨y, hy, rfl⟩, by unfold fixName; rw [if_pos e]⟩
          · have e : y ≠ "main" := fun z => h (by rw [z])
            exact ⟨_, rfl, kk _ _ (L2.Same.refl _) ⟨_, ⟨y, hy, rfl⟩, by unfold fixName; rw [if_neg e]⟩⟩
        · obtain ⟨zs, ez, hzs⟩ := strs_of (PP := fun i x => ∃ y, ys[i]? = some y ∧ x = fixName y) 0 (xs := xs3) fun i v h => by
            rw [Nat.zero_add]
            exact hev3 i v h
          have hzl : zs.length = ys.length := by rw [ez, List.length_map, List.length_map] at hl3; exact hl3
          obtain ⟨g1, g2⟩ := names_ok (cs := cs) (k := k) (fi := fi) (ys := ys) (zs := zs) (by omega) (by omega) hcs (by omega) (fun i x h => by have z := hys i x h; rw [Nat.zero_add] at z; exact z) (fun i x h => by have z := hzs i x h; rw [Nat.zero_add] at z; exact z)
          refine q H8 D3 zs (f7.trans (same_frm s8)) (hp7.same s8) (by rw [hx3, ez]) (hp7.ne hD3) (by omega) g1 g2
end
end Sk
/-! K93F: texts and files that the law draws, and how it writes them. -/
namespace Sk
open PySem PySem.Spec PyProof.Rows L2
theorem new_at {H : Hp} {a b : Addr} {o u : HO} (h : H a = some o) (hb : H b = none) : (upd H b u) a = some o := by
  rw [upd_ne (ne_of_none h hb)]
  exact h
theorem sets_ok {v : V} (h : v ∈ [V.str "ab ", V.str "0 9_", V.str "filea 1"]) : ∃ x : Str, v = .str x ∧ (∀ c ∈ cl x, c ∈ lettersL) ∧ 0 < x.length ∧ x.length ≤ 100 := by
  simp only [List.mem_cons, List.mem_nil_iff, or_false] at h
  rcases h with h | h | h
  · exact ⟨_, h, by decide +kernel, by decide +kernel, by decide +kernel⟩
  · exact ⟨_, h, by decide +kernel, by decide +kernel, by decide +kernel⟩
  · exact ⟨_, h, by decide +kernel, by decide +kernel, by decide +kernel⟩
theorem isLine_of {x : Str} (h : ∀ c ∈ cl x, c ∈ lettersL) (hl : x.length ≤ 80) : isLine x = true := by
  unfold isLine isText
  rw [decide_eq_true hl, Bool.and_true, List.all_eq_true]
  exact fun c hc => decide_eq_true (h c hc)
abbrev someV : List V := [.str "", .str "file a 1", .str "file b 0", .str " ", .str (repS "a" 80), .str "file  a 1", .str "file a 01"]
theorem some_ok {st : Str} (hs : isLine st = true) {v : V} (h : v ∈ someV ++ (List.replicate (5 : Int).toNat [V.str st]).flatten) : ∃ x : Str, v = .str x ∧ isLine x = true := by
  rcases List.mem_append.mp h with h | h
  · unfold someV at h
    simp only [List.mem_cons, List.mem_nil_iff, or_false] at h
    rcases h with h | h | h | h | h | h | h
    all_goals exact ⟨_, h, by decide +kernel⟩
  · obtain ⟨l, hl, hv⟩ := List.mem_flatten.mp h
    have e := List.eq_of_mem_replicate hl
    rw [e] at hv
    exact ⟨st, by simpa using hv, hs⟩
section
variable {P : Program} {w : World} {K : PySem.W.Frag} {mg : Str → Option Value} {base : Heap}
def spText : Sp := fun vs H Q _ => ∃ (p : Addr) (n : Int), vs = [.ref p] ∧ PotAt H p n ∧ n < 990000 ∧ ∀ (H' : Hp) (x : Str), Frm p H H' → PotAt H' p (n + 10) → isLine x = true → Q (.str x) H'
abbrev N_law_text : List Str := ["_law_pot_here", "_law_letters", "_law_some", "_law_turn"]
theorem sc_law_text : FnScope N_law_text ["_law_pot_here"] (defScope s_law_text) := ⟨rfl, rfl, rfl, by decide +kernel, rfl, by decide +kernel, by decide +kernel⟩
theorem ok_law_text (T : Wt K mg) : Def P w K mg base 3 d_law_text ["_law_pot_here"] spText := by
  have D_law_draw := ok_law_draw (P := P) (w := w) (base := base) T
  have D_law_any := ok_law_any (P := P) (w := w) (base := base) T
  refine mk_def (F_law_text T) rfl sc_law_text (fun vs H Q E h => ?_) (fun _ _ _ _ _ _ us hl => match us, hl with | [_], _ => rfl) (fun cdv A outer s H vs Q E hr h => ?_)
  · obtain ⟨p, n, rfl, _⟩ := h
    rfl
  · have sc := sc_law_text
    obtain ⟨p, n, rfl, hp, hn, q⟩ := h
    refine ⟨_, (pss_cons (ps_set (i := 1) sc.nd rfl (Or.inr rfl) (pcall D_law_any (hr.mono (by decide)) (by rfl) (g_law_any T) passL (pa_cons (pv 0) (pa_cons (pe_lst (pa_cons pe_str (pa_cons pe_str (pa_cons pe_str pa_nil)))) pa_nil))))
      (pss_cons (ps_set (i := 2) sc.nd rfl (Or.inl rfl) (pe_lst (pa_cons pe_str (pa_cons pe_str (pa_cons pe_str (pa_cons pe_str (pa_cons (pe_op op_mul_si pe_str pe_int) (pa_cons pe_str (pa_cons pe_str pa_nil)))))))))
      (pss_one (ps_ret (pcall D_law_any (hr.mono (by decide)) (by rfl) (g_law_any T) passL (pa_cons (pv 0) (pa_cons (pe_op op_cat (pv 2) (pe_op op_rep (pe_lst (pa_cons (pe_join pe_str (pe_lc (own := [("_law_turn", 3)]) rfl sc.nd (pi_range1 (by rfl) (z_range T) (pa_cons (pcall D_law_draw (hr.mono (by decide)) (by rfl) (g_law_draw T) passL (pa_cons (pv 0) (pa_cons pe_int pa_nil))) pa_nil)) (blkOk_by (N := N_law_text) (sc := defScope s_law_text) (by decide +kernel)) (fun _ _ _ _ _ => (pg_name (i := 3) sc.nd rfl (Or.inl rfl))) (fun _ _ _ _ _ => pts_nil) (fun _ _ _ _ _ => (pcall D_law_any (hr.mono (by decide)) (by rfl) (g_law_any T) passL (pa_cons (pv 0) (pa_cons (pv 1) pa_nil)))))) pa_nil)) pe_int)) pa_nil))))))), ?_⟩
    refine ⟨_, rfl, (by show 3 ≤ sizeLine; decide), fun l hl => ⟨p, n, hp.upd (hp.ne hl), by omega, .inl ⟨l, _, rfl, SqL.of upd_same, hp.ne hl, by simp, by simp, fun H2 v f2 hp2 hv => ?_⟩⟩⟩
    obtain ⟨x0, rfl, hx0, hx1, hx2⟩ := sets_ok hv
    have g2 : Frm p H H2 := (Frm.new hl).trans f2
    refine ⟨_, _, rfl, rfl, by decide, by decide, by decide +kernel, by decide +kernel, by decide +kernel, (by show 7 ≤ sizeLine; decide), fun l2 hl2 => ?_⟩
    have hp3 : PotAt (upd H2 l2 (.lst someV)) p (n + 1) := hp2.upd (hp2.ne hl2)
    have g3 : Frm p H (upd H2 l2 (.lst someV)) := g2.trans (Frm.new hl2)
    have hl3 : (upd H2 l2 (.lst someV)) l2 = some (.lst someV) := upd_same
    have ne2 : l2 ≠ p := hp2.ne hl2
    refine set_ ?_
    refine ⟨_, rfl, _, rfl, ⟨_, rfl⟩, _, rfl, p, 7, _, rfl, by omega, by omega, hp3, by omega, fun H4 z f4 hp4 z0 z1 => ⟨z, rfl, by omega, by omega, fun D hD => ?_⟩⟩
    refine lc_pot (p := p) (a := n + 1 + 1) (c := 1) walk_range (by omega) (fun i x => x = .int (0 + i)) (fun i v H => ∃ c, c ∈ cl x0 ∧ v = .str ⟨#[c]⟩) (fun _ _ => trivial) (fun i H x H' _ y => y) (fun _ _ _ _ _ e => e) hD hp4 (fun i x H R hi hx f hpt k => ?_) (fun xs H5 hx hlen hp5 f5 hev => ?_)
    · refine ⟨_, rfl, _, rfl, p, n + 1 + 1 + 1 * i, hpt, by omega, .inr ⟨x0, rfl, hx1, by omega, fun H' c f hp' hc => ?_⟩⟩
      exact k _ H' f hp' ⟨c, hc, rfl⟩
    · obtain ⟨cs, ex, hcs⟩ := chars_of hev
      have hcl : cs.length = z.toNat := by rw [ex, List.length_map, List.length_map] at hlen; exact hlen
      have hsum : ((cs.map fun c => (⟨#[c]⟩ : Str)).map (·.length)).sum ≤ 100 := by
        have : ((cs.map fun c => (⟨#[c]⟩ : Str)).map (·.length)) = cs.map fun _ => 1 := by
          rw [List.map_map]
          rfl
        rw [this, List.map_const', List.sum_replicate_nat, hcl]
        omega
      refine ⟨_, D, _, rfl, rfl, .inl (SqL.of (by rw [hx, ex])), ?_, ?_⟩
      · have e0 : ("" : Str).length = 0 := by decide
        rw [e0, Nat.mul_zero]
        omega
      have hst : cl (Txt.join "" (cs.map fun c => (⟨#[c]⟩ : Str))) = cs := by
        rw [tjoin]
        exact join_chars cs
      generalize Txt.join "" (cs.map fun c => (⟨#[c]⟩ : Str)) = st at hst
      have hline : isLine st = true := isLine_of (by rw [hst]; exact fun c hc => hx0 c (hcs c hc)) (by rw [← cl_len, hst]; omega)
      have hl5 : H5 l2 = some (.lst someV) := f5 _ _ ne2 (f4 _ _ ne2 hl3)
      refine ⟨(by show 1 ≤ sizeLine; decide), fun l3 h3 => ⟨l3, 5, _, rfl, rfl, upd_same, by decide, by decide, (by show 1 * 5 ≤ sizeLine; decide), fun l4 h4 => ⟨l2, l4, _, _, rfl, rfl, new_at (new_at hl5 h3) h4, upd_same, (by show 7 + 5 ≤ sizeLine; decide), fun l5 h5 => ?_⟩⟩⟩
      have g5 : Frm p H H5 := g3.trans (f4.trans f5)
      have p3 := hp5.upd (o := HO.lst [V.str st]) (hp5.ne h3)
      have p4 := p3.upd (o := HO.lst (List.replicate (5 : Int).toNat [V.str st]).flatten) (p3.ne h4)
      have p5 := p4.upd (o := HO.lst (someV ++ (List.replicate (5 : Int).toNat [V.str st]).flatten)) (p4.ne h5)
      refine ⟨p, _, p5, by omega, .inl ⟨l5, _, rfl, SqL.of upd_same, p4.ne h5, by simp [someV], by simp [someV], fun H6 v f6 hp6 hv => ?_⟩⟩
      obtain ⟨y, rfl, hy⟩ := some_ok hline hv
      exact q H6 y (g5.trans ((Frm.new h3).trans ((Frm.new h4).trans ((Frm.new h5).trans f6)))) (hp6.mono (by omega)) hy
end
end Sk
/-! K93G: the files that the law draws. -/
namespace Sk
open PySem PySem.Spec PyProof.Rows L2
/-- item by item -/
inductive All2 {α β : Type} (R : α → β → Prop) : List α → List β → Prop
  | nil : All2 R [] []
  | cons {a : α} {b : β} {l : List α} {m : List β} : R a b → All2 R l m → All2 R (a :: l) (b :: m)
namespace All2
variable {α β : Type} {R S : α → β → Prop}
theorem len {l : List α} {m : List β} (h : All2 R l m) : l.length = m.length := by
  induction h with
  | nil => rfl
  | cons _ _ ih => rw [List.length_cons, List.length_cons, ih]
theorem mono {l : List α} {m : List β} (k : ∀ a b, R a b → S a b) (h : All2 R l m) : All2 S l m := by
  induction h with
  | nil => exact .nil
  | cons a _ ih => exact .cons (k _ _ a) ih
theorem app {l l' : List α} {m m' : List β} (h : All2 R l m) (k : All2 R l' m') : All2 R (l ++ l') (m ++ m') := by
  induction h with
  | nil => exact k
  | cons a _ ih => exact .cons a ih
theorem at1 {l : List α} {m : List β} (h : All2 R l m) : ∀ {i : Nat} {a : α}, l[i]? = some a → ∃ b, m[i]? = some b ∧ R a b := by
  induction h with
  | nil => intro i a e; simp at e
  | cons r _ ih =>
    intro i a e
    cases i with
    | zero =>
      simp at e
      subst e
      exact ⟨_, rfl, r⟩
    | succ i => simpa using ih (i := i) (by simpa using e)
theorem at2 {l : List α} {m : List β} (h : All2 R l m) : ∀ {i : Nat} {b : β}, m[i]? = some b → ∃ a, l[i]? = some a ∧ R a b := by
  induction h with
  | nil => intro i a e; simp at e
  | cons r _ ih =>
    intro i a e
    cases i with
    | zero =>
      simp at e
      subst e
      exact ⟨_, rfl, r⟩
    | succ i => simpa using ih (i := i) (by simpa using e)
theorem of {PP : Nat → β → Prop} : ∀ {l : List α} (k : Nat), (∀ (i : Nat) a, l[i]? = some a → ∃ b, PP (k + i) b ∧ R a b) → ∃ m, All2 R l m ∧ ∀ (i : Nat) b, m[i]? = some b → PP (k + i) b
  | [], _, _ => ⟨[], .nil, fun i b h => by simp at h⟩
  | a :: r, k, h => by
    obtain ⟨b, hb, e⟩ := h 0 a rfl
    obtain ⟨m, hm, hs⟩ := of (l := r) (k + 1) fun i u hu => by
      have z := h (i + 1) u hu
      rw [show k + (i + 1) = k + 1 + i by omega] at z
      exact z
    refine ⟨b :: m, .cons e hm, fun i y hy => ?_⟩
    cases i with
    | zero =>
      have e3 : b = y := by simpa using hy
      rw [← e3]
      exact hb
    | succ i =>
      have z := hs i y (by simpa using hy)
      rw [show k + (i + 1) = k + 1 + i by omega]
      exact z
end All2
abbrev FileP := Str × List Str
def FileV (H : Hp) (v : V) (f : FileP) : Prop := ∃ r t, v = .ref r ∧ H r = some (.tup [.str f.1, .ref t]) ∧ H t = some (.tup (f.2.map V.str))
def FsAt (H : Hp) (p : Addr) (fs : List FileP) : Prop := ∃ vs, H p = some (.tup vs) ∧ All2 (FileV H) vs fs
theorem FileV.ts {H H' : Hp} {v : V} {f : FileP} (h : FileV H v f) (s : TSame H H') : FileV H' v f := by
  obtain ⟨r, t, e, h1, h2⟩ := h
  exact ⟨r, t, e, s _ _ h1, s _ _ h2⟩
theorem FsAt.ts {H H' : Hp} {p : Addr} {fs : List FileP} (h : FsAt H p fs) (s : TSame H H') : FsAt H' p fs := by
  obtain ⟨vs, h1, h2⟩ := h
  exact ⟨vs, s _ _ h1, h2.mono fun _ _ x => x.ts s⟩
structure Good (fs : List FileP) : Prop where
  len : fs.length ≤ 12
  asc : (fs.map (·.1)).Pairwise fun a b => cl a < cl b
  nm : ∀ f ∈ fs, isName f.1 = true ∧ f.1 ≠ "main"
  tx : ∀ f ∈ fs, f.2.length ≤ 60 ∧ ∀ x ∈ f.2, isLine x = true
theorem cl_tri {x y : Str} (h1 : ¬ cl y < cl x) (h2 : x ≠ y) : cl x < cl y := by
  have e : cl x ≤ cl y := h1
  rcases List.le_iff_lt_or_eq.mp e with h | h
  · exact h
  · exact absurd (cl_inj h) h2
theorem rising_asc : ∀ (l : List Str) (p : Str), risingS p l = true → (p :: l).Nodup → (p :: l).Pairwise fun a b => cl a < cl b
  | [], p, _, _ => List.pairwise_singleton _ _
  | x :: r, p, h, n => by
    have h' : (!ltCps x.cps.toList p.cps.toList && risingS x r) = true := h
    rw [Bool.and_eq_true] at h'
    obtain ⟨h1, h2⟩ := h'
    rw [List.nodup_cons] at n
    have ih := rising_asc r x h2 n.2
    have hp : cl p < cl x := by
      rw [ltCps_eq] at h1
      have z : ¬ x.cps.toList < p.cps.toList := by simpa using h1
      exact cl_tri z fun e => n.1 (by rw [e]; exact List.mem_cons_self)
    refine List.pairwise_cons.mpr ⟨fun y hy => ?_, ih⟩
    rcases List.mem_cons.mp hy with e | hy
    · rw [e]
      exact hp
    · exact List.lt_trans hp ((List.pairwise_cons.mp ih).1 y hy)
theorem sorted_asc {l : List Str} (h : sortedS l = true) (n : l.Nodup) : l.Pairwise fun a b => cl a < cl b := by
  cases l with
  | nil => exact List.Pairwise.nil
  | cons x r => exact rising_asc r x h n
theorem all2_map {α β γ : Type} {R : α → β → Prop} {f : β → γ} {l : List α} {m : List β} {n : List γ} (h : All2 R l m) (hl : l.length = n.length) (e : ∀ (i : Nat) b, m[i]? = some b → n[i]? = some (f b)) : m.map f = n := by
  refine List.ext_getElem? fun i => ?_
  rw [List.getElem?_map]
  cases q : m[i]? with
  | none =>
    have : n.length ≤ i := by
      have := List.getElem?_eq_none_iff.mp q
      have := h.len
      omega
    rw [List.getElem?_eq_none_iff.mpr this]
    rfl
  | some b => rw [e i b q]; rfl
theorem if_any {S : V → Hp → Prop} {p : Prop} [Decidable p] {ta tb : TE} {σ : L2.St} {H : Hp} {Q : VK} (k : ∀ v H', S v H' → Q v H') (h1 : p → ∀ R : VK, (∀ v H', S v H' → R v H') → ta σ H R) (h2 : ¬ p → ∀ R : VK, (∀ v H', S v H' → R v H') → tb σ H R) :
    if decide p = true then ta σ H Q else tb σ H Q := itd (fun h => h1 h Q k) (fun h => h2 h Q k)
section
variable {P : Program} {w : World} {K : PySem.W.Frag} {mg : Str → Option Value} {base : Heap}
def spDrawn : Sp := fun vs H Q _ => ∃ (p : Addr) (n : Int), vs = [.ref p] ∧ PotAt H p n ∧ n < 800000 ∧
  ∀ (H' : Hp) (t : Addr) (fs : List FileP), Frm p H H' → PotAt H' p (n + 8000) → FsAt H' t fs → Good fs → Q (.ref t) H'
abbrev N_law_drawn : List Str := ["_law_pot_here", "_law_many", "_law_most", "_law_names_here", "_law_name", "_law_turn"]
theorem sc_law_drawn : FnScope N_law_drawn ["_law_pot_here"] (defScope s_law_drawn) := ⟨rfl, rfl, rfl, by decide +kernel, rfl, by decide +kernel, by decide +kernel⟩
theorem ints_mem {ns : List Int} {v : V} {p : Int → Prop} (h : v ∈ ns.map V.int) (hp : ∀ n ∈ ns, p n) : ∃ n, v = .int n ∧ p n := by
  obtain ⟨n, hn, rfl⟩ := List.mem_map.mp h
  exact ⟨n, rfl, hp n hn⟩
theorem ok_law_drawn (T : Wt K mg) : Def P w K mg base 4 d_law_drawn ["_law_pot_here"] spDrawn := by
  have D_law_draw := ok_law_draw (P := P) (w := w) (base := base) T
  have D_law_any := ok_law_any (P := P) (w := w) (base := base) T
  have D_law_names := ok_law_names (P := P) (w := w) (base := base) T
  have D_law_text := ok_law_text (P := P) (w := w) (base := base) T
  refine mk_def (F_law_drawn T) rfl sc_law_drawn (fun vs H Q E h => ?_) (fun _ _ _ _ _ _ us hl => match us, hl with | [_], _ => rfl) (fun cdv A outer s H vs Q E hr h => ?_)
  · obtain ⟨p, n, rfl, _⟩ := h
    rfl
  · have sc := sc_law_drawn
    obtain ⟨p, n, rfl, hp, hn, q⟩ := h
    refine ⟨_, (pss_cons (ps_set (i := 1) sc.nd rfl (Or.inl rfl) (pcall D_law_any (hr.mono (by decide)) (by rfl) (g_law_any T) passL (pa_cons (pv 0) (pa_cons (pe_lst (pa_cons pe_int (pa_cons pe_int (pa_cons pe_int (pa_cons pe_int (pa_cons pe_int (pa_cons pe_int pa_nil))))))) pa_nil))))
      (pss_cons (ps_set (i := 2) sc.nd rfl (Or.inr rfl) (pe_ifExp (pt_cmpR op_lt (pv 1) pe_int (nomark _)) (pcall D_law_any (hr.mono (by decide)) (by rfl) (g_law_any T) passL (pa_cons (pv 0) (pa_cons (pe_lst (pa_cons pe_int (pa_cons pe_int (pa_cons pe_int (pa_cons pe_int pa_nil))))) pa_nil))) pe_int))
      (pss_cons (ps_set (i := 3) sc.nd rfl (Or.inl rfl) (pe_callB cr_sortedS (by rfl) (z_sorted T) (by decide +kernel) (pa_cons (pcall D_law_names (hr.mono (by decide)) (by rfl) (g_law_names T) passL (pa_cons (pv 0) (pa_cons (pv 1) pa_nil))) pa_nil)))
      (pss_one (ps_ret (pe_callTy (T := "tuple") call_tuple_of (by rfl) (z_tuple T) (by decide +kernel) (pa_cons (pe_lc (own := [("_law_name", 4)]) rfl sc.nd (pi_list (pv 3)) (blkOk_by (N := N_law_drawn) (sc := defScope s_law_drawn) (by decide +kernel)) (fun _ _ _ _ _ => (pg_name (i := 4) sc.nd rfl (Or.inl rfl))) (fun _ _ _ _ _ => pts_nil) (fun _ _ _ _ _ => (pe_tup (pa_cons (pv 4) (pa_cons (pe_callTy (T := "tuple") (call_tuple_ofK (K := K)) (by rfl) (z_tuple T) (by decide +kernel) (pa_cons (pe_lc (own := [("_law_turn", 5)]) rfl sc.nd (pi_range1 (by rfl) (z_range T) (pa_cons (pcall D_law_draw (hr.mono (by decide)) (by rfl) (g_law_draw T) passL (pa_cons (pv 0) (pa_cons (pv 2) pa_nil))) pa_nil)) (blkOk_by (by kernel_rfl)) (fun _ _ _ _ _ => (pg_name (i := 5) sc.nd rfl (Or.inl rfl))) (fun _ _ _ _ _ => pts_nil) (fun _ _ _ _ _ => (pcall D_law_text (hr.mono (by decide)) (by rfl) (g_law_text T) passL (pa_cons (pv 0) pa_nil)))) pa_nil)) pa_nil))))) pa_nil))))))), ?_⟩
    refine ⟨_, rfl, (by show 6 ≤ sizeLine; decide), fun l hl => ⟨p, n, hp.upd (hp.ne hl), by omega, .inl ⟨l, _, rfl, SqL.of upd_same, hp.ne hl, by simp, by simp, fun H2 v f2 hp2 hv => ?_⟩⟩⟩
    obtain ⟨m, rfl, m0, m1⟩ := ints_mem (ns := [0, 1, 2, 3, 3, 12]) (p := fun m => 0 ≤ m ∧ m ≤ 12) hv (by decide)
    have g2 : Frm p H H2 := (Frm.new hl).trans f2
    refine set_ ⟨_, rfl, _, _, rfl, rfl, _, rfl, if_any (S := fun v H3 => ∃ k : Int, v = .int k ∧ Frm p H H3 ∧ PotAt H3 p (n + 2) ∧ 0 < k ∧ k ≤ 61) ?_ (fun h => ?_) (fun h => ?_)⟩
    · rintro _ H3 ⟨k, rfl, f3, hp3, k0, k1⟩
      refine ⟨_, rfl, _, rfl, p, m, n + 2, rfl, m0, m1, hp3, by omega, fun H4 l4 ns f4 hp4 hl4 ne4 hn4 hnm hnd => ?_⟩
      refine ⟨l4, ns, rfl, SqL.of hl4, by omega, fun ys l5 hperm hsort hl5 => ?_⟩
      have f5 : Frm p H (upd H4 l5 (.lst (ys.map V.str))) := (f3.trans f4).trans (Frm.new hl5)
      have hp5 : PotAt (upd H4 l5 (.lst (ys.map V.str))) p (n + 2 + 10) := hp4.upd (hp4.ne hl5)
      have ne5 : l5 ≠ p := hp4.ne hl5
      have h5 : (upd H4 l5 (.lst (ys.map V.str))) l5 = some (.lst (ys.map V.str)) := upd_same
      have hyl : ys.length = ns.length := hperm.length_eq
      have hyn : ys.Nodup := hperm.nodup_iff.mpr hnd
      have hya := sorted_asc hsort hyn
      have hym : ∀ x ∈ ys, isName x = true ∧ x ≠ "main" := fun x hx => hnm x (hperm.mem_iff.mp hx)
      refine set_ ?_
      generalize upd H4 l5 (.lst (ys.map V.str)) = H5 at f5 hp5 h5
      refine ⟨_, rfl, l5, rfl, ⟨_, SqL.of h5⟩, fun D hD => ?_⟩
      refine lc_pot (p := p) (a := n + 2 + 10) (c := 601) (walk_list (K := K) (a := l5) (xs := ys.map V.str)) (by rw [List.length_map]; omega) (fun i x => (ys.map V.str)[i]? = some x) (fun i v H => ∃ f : FileP, (ys[i]? = some f.1 ∧ f.2.length ≤ 60 ∧ ∀ x ∈ f.2, isLine x = true) ∧ FileV H v f)
        (fun H s => SqL.of (s _ _ ne5 h5)) (fun i H x H' _ y => y) (fun i v H H' ts ⟨f, h1, h2⟩ => ⟨f, h1, h2.ts ts⟩) hD hp5 (fun i x H R hi hx f hpt kk => ?_) (fun xs H6 hx6 hl6 hp6 f6 hev => ?_)
      · rw [List.getElem?_map] at hx
        obtain ⟨y, hy, rfl⟩ := Option.map_eq_some_iff.mp hx
        rw [List.length_map] at hi
        refine ⟨_, rfl, _, rfl, _, rfl, p, k, _, rfl, k0, by omega, hpt, by omega, fun H7 z f7 hp7 z0 z1 => ⟨z, rfl, by omega, by omega, fun D2 hD2 => ?_⟩⟩
        refine lc_pot (p := p) (c := 10) walk_range (by omega) (fun i x => x = .int (0 + i)) (fun i v H => ∃ x, isLine x = true ∧ v = .str x) (fun _ _ => trivial) (fun i H x H' _ y => y) (fun _ _ _ _ _ e => e) hD2 hp7 (fun j x H R hj hx f8 hpt8 k8 => ?_) (fun xs H9 hx9 hl9 hp9 f9 hev => ?_)
        · exact ⟨_, rfl, p, _, rfl, hpt8, by omega, fun H' x f hp' hx => k8 _ H' f hp' ⟨x, hx, rfl⟩⟩
        · obtain ⟨ts, et, hts⟩ := strs_of (PP := fun _ x => isLine x = true) 0 hev
          have htl : ts.length ≤ 60 := by
            rw [et, List.length_map] at hl9
            omega
          refine ⟨D2, _, rfl, .inl ⟨SqL.of hx9, fun t ht => ?_⟩⟩
          refine ⟨(by show 2 ≤ sizeLine; decide), fun r hr => ?_⟩
          refine kk _ _ ((f7.trans f9).trans ((Frm.new ht).trans (Frm.new hr))) (((hp9.upd (hp9.ne ht)).upd ((hp9.upd (hp9.ne ht)).ne hr)).mono (by omega)) ⟨(y, ts), ⟨hy, htl, fun x hx => ?_⟩, r, t, rfl, upd_same, ?_⟩
          · obtain ⟨j, hj⟩ := List.mem_iff_getElem?.mp hx
            exact hts j x hj
          · rw [← et]
            exact new_at upd_same hr
      · obtain ⟨fs, hfs, hf2⟩ := All2.of (R := FileV H6) (PP := fun i (f : FileP) => ys[i]? = some f.1 ∧ f.2.length ≤ 60 ∧ ∀ x ∈ f.2, isLine x = true) 0 (l := xs) fun i v h => by
          rw [Nat.zero_add]
          exact hev i v h
        have e1 : fs.map (·.1) = ys := all2_map (f := fun f : FileP => f.1) hfs (by rw [hl6, List.length_map]) fun i f h => by
          have z := (hf2 i f h).1
          rw [Nat.zero_add] at z
          exact z
        refine ⟨D, _, rfl, .inl ⟨SqL.of hx6, fun t ht => ?_⟩⟩
        have hyl' : (ys.length : Int) = m := by omega
        refine q _ t fs ((f5.trans f6).trans (Frm.new ht)) ((hp6.upd (hp6.ne ht)).mono ?_) ⟨xs, upd_same, hfs.mono fun _ _ x => x.ts fun b o e => new_at e ht⟩ ⟨?_, ?_, ?_, ?_⟩
        · rw [List.length_map]
          omega
        · have : fs.length = ys.length := by rw [← e1, List.length_map]
          omega
        · rw [e1]
          exact hya
        · intro f hf
          refine hym f.1 ?_
          rw [← e1]
          exact List.mem_map.mpr ⟨f, hf, rfl⟩
        · intro f hf
          obtain ⟨j, hj⟩ := List.mem_iff_getElem?.mp hf
          exact (hf2 j f hj).2
    · intro R r
      refine ⟨_, rfl, (by show 4 ≤ sizeLine; decide), fun l hl => ⟨p, n + 1, hp2.upd (hp2.ne hl), by omega, .inl ⟨l, _, rfl, SqL.of upd_same, hp2.ne hl, by simp, by simp, fun H3 v f3 hp3 hv => ?_⟩⟩⟩
      obtain ⟨k, rfl, k0, k1⟩ := ints_mem (ns := [1, 2, 4, 61]) (p := fun m => 0 < m ∧ m ≤ 61) hv (by decide)
      exact r _ _ ⟨k, rfl, g2.trans ((Frm.new hl).trans f3), hp3.mono (by omega), k0, k1⟩
    · intro R r
      exact r _ _ ⟨5, rfl, g2, hp2.mono (by omega), by decide, by decide⟩
end
end Sk
/-! K93H: the text of files, as the law writes it. -/
namespace Sk
open PySem PySem.Spec PyProof.Rows L2
def natS (n : Nat) : Str := Str.ofString (toString (n : Int))
def headRow (f : FileP) : Str := (("file " : Str) ++ f.1 ++ " ") ++ natS f.2.length
def rowsOf : List FileP → List Str
  | [] => []
  | f :: r => headRow f :: (f.2 ++ rowsOf r)
def pageOf (fs : List FileP) : Str := Txt.join "\n" (rowsOf fs)
theorem rowsOf_app : ∀ (a b : List FileP), rowsOf (a ++ b) = rowsOf a ++ rowsOf b
  | [], _ => rfl
  | f :: r, b => by
    show headRow f :: (f.2 ++ rowsOf (r ++ b)) = headRow f :: (f.2 ++ rowsOf r) ++ rowsOf b
    rw [rowsOf_app r b, List.cons_append, List.append_assoc]
theorem natS_len {n : Nat} (h : n ≤ 60) : (natS n).length ≤ 2 := by
  have key : ∀ m : Fin 61, (natS m.1).length ≤ 2 := by decide +kernel
  exact key ⟨n, by omega⟩
theorem isLine_len {x : Str} (h : isLine x = true) : x.length ≤ 80 := by
  unfold isLine at h
  rw [Bool.and_eq_true] at h
  exact of_decide_eq_true h.2
theorem isName_len {x : Str} (h : isName x = true) : x.length ≤ 8 := by
  unfold isName at h
  rw [Bool.and_eq_true] at h
  exact (of_decide_eq_true h.1).2
theorem headRow_len {f : FileP} (h1 : isName f.1 = true) (h2 : f.2.length ≤ 60) : (headRow f).length ≤ 16 := by
  have a := isName_len h1
  have b := natS_len h2
  have e1 : ("file " : Str).length = 5 := by decide +kernel
  have e2 : (" " : Str).length = 1 := by decide +kernel
  unfold headRow
  rw [len_app, len_app, len_app]
  omega
theorem rowsOf_small : ∀ {fs : List FileP}, (∀ f ∈ fs, isName f.1 = true) → (∀ f ∈ fs, f.2.length ≤ 60 ∧ ∀ x ∈ f.2, isLine x = true) → (rowsOf fs).length ≤ 61 * fs.length ∧ ∀ x ∈ rowsOf fs, x.length ≤ 80
  | [], _, _ => ⟨by simp [rowsOf], fun x h => nomatch h⟩
  | f :: r, h1, h2 => by
    obtain ⟨a, b⟩ := rowsOf_small (fs := r) (fun g hg => h1 g (List.mem_cons_of_mem _ hg)) (fun g hg => h2 g (List.mem_cons_of_mem _ hg))
    obtain ⟨c, d⟩ := h2 f List.mem_cons_self
    constructor
    · show (headRow f :: (f.2 ++ rowsOf r)).length ≤ _
      rw [List.length_cons, List.length_append, List.length_cons]
      omega
    · intro x hx
      rcases List.mem_cons.mp hx with e | hx
      · rw [e]
        exact Nat.le_trans (headRow_len (h1 f List.mem_cons_self) c) (by decide)
      · rcases List.mem_append.mp hx with hx | hx
        · exact isLine_len (d x hx)
        · exact b x hx
theorem sum_le : ∀ {l : List Str} {k : Nat}, (∀ x ∈ l, x.length ≤ k) → (l.map (·.length)).sum ≤ k * l.length
  | [], _, _ => by simp
  | x :: r, k, h => by
    have ih := sum_le (l := r) fun y hy => h y (List.mem_cons_of_mem _ hy)
    have h0 := h x List.mem_cons_self
    rw [List.map_cons, List.sum_cons, List.length_cons, Nat.mul_add]
    omega
theorem take_snoc {α : Type} {l : List α} {i : Nat} {x : α} (h : l[i]? = some x) : l.take (i + 1) = l.take i ++ [x] := by
  rw [List.take_add_one, h]
  rfl
section
variable {P : Program} {w : World} {K : PySem.W.Frag} {mg : Str → Option Value} {base : Heap}
def spWritten : Sp := fun vs H Q _ => ∃ (t : Addr) (fs : List FileP), vs = [.ref t] ∧ FsAt H t fs ∧ Good fs ∧ ∀ H', Same H H' → Q (.str (pageOf fs)) H'
abbrev N_law_written : List Str := ["_law_files", "_law_rows", "_law_name", "_law_texts"]
theorem sc_law_written : FnScope N_law_written ["_law_files"] (defScope s_law_written) := ⟨rfl, rfl, rfl, by decide +kernel, rfl, by decide +kernel, by decide +kernel⟩
theorem ok_law_written (T : Wt K mg) : Def P w K mg base 1 d_law_written ["_law_files"] spWritten := by
  refine mk_def (F_law_written T) rfl sc_law_written (fun vs H Q E h => ?_) (fun _ _ _ _ _ _ us hl => match us, hl with | [_], _ => rfl) (fun cdv A outer s H vs Q E hr h => ?_)
  · obtain ⟨t, fs, rfl, _⟩ := h
    rfl
  · have sc := sc_law_written
    obtain ⟨t, fs, rfl, ⟨vs, ht, hvs⟩, hg, q⟩ := h
    refine ⟨_, (pss_cons (ps_set (i := 1) sc.nd rfl (Or.inl rfl) (pe_lst pa_nil))
      (pss_cons (ps_for PassesOwn.never rfl (pi_tup (pv 0)) (pg_tup rfl (pgs_cons (pg_name (i := 2) sc.nd rfl (Or.inl rfl)) (pgs_cons (pg_name (i := 3) sc.nd rfl (Or.inl rfl)) pgs_nil)))
        (pss_one (ps_set (i := 1) sc.nd rfl (Or.inl rfl) (pe_op op_cat (pe_op op_cat (pv 1) (pe_lst (pa_cons (pe_op op_add_str (pe_op op_add_str (pe_op op_add_str pe_str (pv 2)) pe_str) (pe_callTy (T := "str") call_str_int (by rfl) (z_str T) (by decide +kernel) (pa_cons (pe_callB call_len_seq (by rfl) (z_len T) (by decide +kernel) (pa_cons (pv 3) pa_nil)) pa_nil))) pa_nil))) (pe_callTy (T := "list") call_list_of (by rfl) (z_list T) (by decide +kernel) (pa_cons (pv 3) pa_nil))))))
      (pss_one (ps_ret (pe_join pe_str (pv 1)))))), ?_⟩
    have hlen := hvs.len
    have hfl := hg.len
    have hsm := rowsOf_small (fun f hf => (hg.nm f hf).1) hg.tx
    refine ⟨(by show 0 ≤ sizeLine; decide), fun l0 h0 => set_ ?_⟩
    have s0 : Same H (upd H l0 (.lst [])) := fun b o e => new_at e h0
    refine ⟨_, rfl, t, rfl, ⟨_, SqT.of (s0 _ _ ht)⟩, ?_⟩
    refine for_tup (K := K) (xs := vs) (fun i σ H' => ∃ l a b, σ = [some (.ref t), some (.ref l), a, b] ∧ H' l = some (.lst ((rowsOf (fs.take i)).map V.str)) ∧ Same H H') ⟨l0, none, none, rfl, upd_same, s0⟩ (fun i σ H' _ ⟨l, a, b, _, _, s⟩ => SqT.of (s _ _ ht)) (fun i x σ H' hx ⟨l, a, b, eσ, hl, s⟩ => ?_) (fun σ H' ⟨l, a, b, eσ, hl, s⟩ => ?_)
    · subst eσ
      obtain ⟨f, hf, r, u, rfl, hr, hu⟩ := hvs.at1 hx
      have hil : i < fs.length := (List.getElem?_eq_some_iff.mp hf).1
      obtain ⟨g1, g2⟩ := hg.tx f (List.mem_of_getElem? hf)
      have g3 := (hg.nm f (List.mem_of_getElem? hf)).1
      have e1 : ("file " : Str).length = 5 := by decide +kernel
      have e2 : (" " : Str).length = 1 := by decide +kernel
      have nl := isName_len g3
      have ns := natS_len g1
      have small : ∀ {k : Nat}, k ≤ 10000 → k ≤ sizeLine := fun h => Nat.le_trans h (by decide)
      have hsub : (rowsOf (fs.take i)).length ≤ 61 * 12 := by
        obtain ⟨z, _⟩ := rowsOf_small (fs := fs.take i) (fun f hf => (hg.nm f (List.mem_of_mem_take hf)).1) (fun f hf => hg.tx f (List.mem_of_mem_take hf))
        rw [List.length_take] at z
        exact Nat.le_trans z (Nat.mul_le_mul_left _ (by omega))
      have a1 := len_app "file " f.1
      have a2 := len_app (("file " : Str) ++ f.1) " "
      have z0 : (natS f.2.length).length ≤ 2 := ns
      refine ⟨r, _, rfl, SqT.of (s _ _ hr), rfl, _, _, rfl, _, _, rfl, rfl, ?_⟩
      refine ⟨_, rfl, _, rfl, _, _, rfl, rfl, small (by omega), _, _, rfl, rfl, small (by omega), _, rfl, u, _, rfl, .inr (SqT.of (s _ _ hu)), ?_⟩
      have eL : ((f.2.map V.str).length : Int) = (f.2.length : Int) := by rw [List.length_map]
      rw [eL]
      refine ⟨_, rfl, ?_, ?_⟩
      · have : Nat.log2 ((f.2.length : Int)).natAbs ≤ ((f.2.length : Int)).natAbs := Nat.log2_le_self _
        omega
      refine ⟨_, _, rfl, rfl, ?_, (by show 1 ≤ sizeLine; decide), fun l1 h1 => ?_⟩
      · show (("file " : Str) ++ f.1 ++ " ").length + (natS f.2.length).length ≤ sizeLine
        exact small (by omega)
      refine ⟨l, l1, _, _, rfl, rfl, new_at hl h1, upd_same, ?_, fun l2 h2 => ?_⟩
      · rw [List.length_map]
        exact small (by rw [List.length_singleton]; omega)
      refine ⟨_, rfl, u, _, rfl, .inr (SqT.of (nw (nw s h1) h2 _ _ hu)), fun l3 h3 => ?_⟩
      refine ⟨l2, l3, _, _, rfl, rfl, new_at upd_same h3, upd_same, ?_, fun l4 h4 => ?_⟩
      · rw [List.length_append, List.length_map, List.length_map]
        exact small (by rw [List.length_singleton]; omega)
      refine set_ ⟨l4, _, _, rfl, ?_, nw (nw (nw (nw s h1) h2) h3) h4⟩
      rw [upd_same, take_snoc hf, rowsOf_app]
      simp [rowsOf, headRow, natS]
    · subst eσ
      have e : fs.take vs.length = fs := List.take_of_length_le (by omega)
      rw [e] at hl
      refine ⟨⟨_, rfl⟩, _, rfl, "\n", l, _, rfl, rfl, .inl (SqL.of hl), ?_, q _ s⟩
      have b1 := sum_le hsm.2
      have e1 : ("\n" : Str).length = 1 := by decide +kernel
      rw [e1]
      omega
end
end Sk
/-! K93I: the program's reader of files. -/
namespace Sk
open PySem PySem.Spec PyProof.Rows L2
/-- all but S stands -/
def Kp (S : List Addr) (H H' : Hp) : Prop := ∀ q o, q ∉ S → H q = some o → H' q = some o
namespace Kp
variable {S : List Addr} {H H1 H2 : Hp}
theorem refl (S : List Addr) (H : Hp) : Kp S H H := fun _ _ _ h => h
theorem trans (a : Kp S H H1) (b : Kp S H1 H2) : Kp S H H2 := fun q o n h => b q o n (a q o n h)
theorem same (s : L2.Same H H1) : Kp S H H1 := fun q o _ h => s q o h
theorem nw {q : Addr} {o : HO} (a : Kp S H H1) (h : H1 q = none) : Kp S H (upd H1 q o) := fun r u n e => by
  have z := a r u n e
  rw [upd_ne (ne_of_none z h)]
  exact z
theorem put {q : Addr} {o : HO} (a : Kp S H H1) (h : q ∈ S) : Kp S H (upd H1 q o) := fun r u n e => by
  rw [upd_ne (fun z => n (by rw [z]; exact h))]
  exact a r u n e
theorem sub {S' : List Addr} (a : Kp S H H1) (h : ∀ q ∈ S, q ∈ S') : Kp S' H H1 := fun q o n e => a q o (fun z => n (h q z)) e
theorem ts (a : Kp S H H1) (h : ∀ q ∈ S, ∀ xs, H q ≠ some (.tup xs)) : TSame H H1 := fun b xs e => a b _ (fun z => h b z xs e) e
/-- what is new does not count -/
theorem cut {q : Addr} (a : Kp (q :: S) H H1) (h : H q = none) : Kp S H H1 := fun r o n e => a r o (fun z => by
  rcases List.mem_cons.mp z with z | z
  · rw [z, h] at e
    cases e
  · exact n z) e
theorem to_same (a : Kp [] H H1) : L2.Same H H1 := fun q o e => a q o (by simp) e
end Kp
def badAt : List Str → Nat → Option Nat
  | _, 0 => none
  | [], _ + 1 => some 0
  | r :: rs, k + 1 => if isLine r = true then (badAt rs k).map (· + 1) else some 0
/-- one file read: the row that cannot stand, or the file and the row behind it -/
def stepR (rows : List Str) (found : List FileP) (n : Nat) : Nat ⊕ (FileP × Nat) := match headIn ((rows[n]?).getD "") with
  | none => .inl n
  | some (nm, k) => if found.length < 12 ∧ (found = [] ∨ ∃ f, found.getLast? = some f ∧ cl f.1 < cl nm) then (match badAt (rows.drop (n + 1)) k.toNat with
      | some j => .inl (n + 1 + j)
      | none => .inr ((nm, (rows.drop (n + 1)).take k.toNat), n + 1 + k.toNat)) else .inl n
abbrev rdF (R : Addr) (n : Nat) (F : Addr) : List (Str × V) := [("all_rows", .ref R), ("row_now", .int n), ("files_read", .ref F)]
section
variable {P : Program} {w : World} {K : PySem.W.Frag} {mg : Str → Option Value} {base : Heap}
abbrev cFR (K : PySem.W.Frag) : Addr := He.ga K "FileReader"
def spRdInit (K : PySem.W.Frag) : Sp := fun vs H Q _ => ∃ x dx R, vs = [.ref x, .ref R] ∧ H x = some (.ins (cFR K) dx []) ∧ ∀ H' F, Kp [x] H H' → H F = none → H' x = some (.ins (cFR K) dx (rdF R 0 F)) → H' F = some (.lst []) → Q .non H'
abbrev N_FileReader_init : List Str := ["self", "rows"]
theorem sc_FileReader_init : FnScope N_FileReader_init ["self", "rows"] (defScope s_FileReader_init) := ⟨rfl, rfl, rfl, by decide +kernel, rfl, by decide +kernel, by decide +kernel⟩
theorem ok_rdinit (T : Wt K mg) : Def P w K mg base 1 d_FileReader_init ["self", "rows"] (spRdInit K) := by
  refine mk_def (F_FileReader_init T) rfl sc_FileReader_init (fun vs H Q E h => ?_) (fun _ _ _ _ _ _ us hl => match us, hl with | [_, _], _ => rfl) (fun cdv A outer s H vs Q E hr h => ?_)
  · obtain ⟨x, dx, R, rfl, _⟩ := h
    rfl
  · have sc := sc_FileReader_init
    obtain ⟨x, dx, R, rfl, hx, q⟩ := h
    refine ⟨_, (pss_cons (ps_fld (pv 0) (pv 1) rfl)
      (pss_cons (ps_fld (pv 0) pe_int rfl)
      (pss_one (ps_fld (pv 0) (pe_lst pa_nil) rfl)))), ?_⟩
    have c := c_FileReader T
    refine ⟨_, rfl, _, rfl, x, _, dx, _, rfl, hx, c, n_FileReader_all_rows T, (show 0 < 1000 by decide), ?_⟩
    refine ⟨_, rfl, x, _, dx, _, rfl, upd_same, c, n_FileReader_row_now T, (show 1 < 1000 by decide), ?_⟩
    refine ⟨(by show 0 ≤ sizeLine; decide), fun F hF => ⟨_, rfl, x, _, dx, _, rfl, (new_at upd_same hF), c, n_FileReader_files_read T, (show 2 < 1000 by decide), ?_⟩⟩
    have nFx : F ≠ x := fun z => by
      rw [z, upd_same] at hF
      cases hF
    have h1 : H F = none := by
      rw [upd_ne nFx, upd_ne nFx] at hF
      exact hF
    refine q _ F ?_ h1 upd_same ?_
    · exact ((((Kp.refl [x] H).put (by simp)).put (by simp)).nw hF).put (by simp)
    · rw [upd_ne nFx]
      exact upd_same
/-- where the error is told: BadFiles with a row -/
def BadF (K : PySem.W.Frag) (n : Nat) (H : Hp) (E : XK) : Prop := ∀ d, H d = none → E (.ref (He.ga K "BadFiles")) (some d) (upd H d (.xd [("row", .int n)]))
def spDemand (K : PySem.W.Frag) : Sp := fun vs H Q E => ∃ (x dx R F : Addr) (n : Nat) (b : Bool), vs = [.ref x, .bl b] ∧ H x = some (.ins (cFR K) dx (rdF R n F)) ∧ (b = true → Q .non H) ∧ (b = false → BadF K n H E)
abbrev N_FileReader_demand : List Str := ["self", "is_right"]
theorem sc_FileReader_demand : FnScope N_FileReader_demand ["self", "is_right"] (defScope s_FileReader_demand) := ⟨rfl, rfl, rfl, by decide +kernel, rfl, by decide +kernel, by decide +kernel⟩
theorem ok_demand (G : PgOk P) (T : Wt K mg) : Def P w K mg base 3 d_FileReader_demand ["self", "is_right"] (spDemand K) := by
  refine mk_defX (F_FileReader_demand T) rfl sc_FileReader_demand (fun vs H Q E h => ?_) (fun _ _ _ _ _ _ us hl => match us, hl with | [_, _], _ => rfl) (fun cdv A outer s H vs Q E hr h => ?_)
  · obtain ⟨x, dx, R, F, n, b, rfl, _⟩ := h
    rfl
  · have sc := sc_FileReader_demand
    obtain ⟨x, dx, R, F, n, b, rfl, hx, q1, q2⟩ := h
    refine ⟨_, (pss_one (ps_if (pt_not (pt_val (pv 1)))
        (pss_one (ps_raise rfl (takes_of rfl rfl rfl rfl) (pmk_err (r_BadFiles G T) (hr.mono (by decide)) (by rfl) (pa_cons (pe_fld (pv 0) rfl) pa_nil))))
        pss_nil)), ?_⟩
    have c := c_FileReader T
    refine ⟨_, rfl, b, rfl, itnb (fun hb => nxt_ (q1 hb)) (fun hb => ?_)⟩
    exact ⟨_, rfl, x, _, dx, _, _, rfl, hx, c, n_FileReader_row_now T, rfl, err_ (q2 hb)⟩
/-- a reader at work -/
structure RdAt (K : PySem.W.Frag) (H : Hp) (x dx R : Addr) (n : Nat) (F : Addr) (rows : List Str) (found : List FileP) : Prop where
  ins : H x = some (.ins (cFR K) dx (rdF R n F))
  rows : H R = some (.lst (rows.map V.str))
  files : ∃ vs, H F = some (.lst vs) ∧ All2 (FileV H) vs found
def spNextRow (K : PySem.W.Frag) : Sp := fun vs H Q E => ∃ (x dx R F : Addr) (n : Nat) (rows : List Str) (found : List FileP), vs = [.ref x] ∧ RdAt K H x dx R n F rows found ∧ (∀ r, rows[n]? = some r → Q (.str r) H) ∧ (rows[n]? = none → BadF K n H E)
abbrev N_FileReader_next_row : List Str := ["self"]
theorem sc_FileReader_next_row : FnScope N_FileReader_next_row ["self"] (defScope s_FileReader_next_row) := ⟨rfl, rfl, rfl, by decide +kernel, rfl, by decide +kernel, by decide +kernel⟩
theorem ok_next_row (G : PgOk P) (T : Wt K mg) : Def P w K mg base 4 d_FileReader_next_row ["self"] (spNextRow K) := by
  have D_FileReader_demand := ok_demand (P := P) (w := w) (base := base) G T
  refine mk_defX (F_FileReader_next_row T) rfl sc_FileReader_next_row (fun vs H Q E h => ?_) (fun _ _ _ _ _ _ us hl => match us, hl with | [_], _ => rfl) (fun cdv A outer s H vs Q E hr h => ?_)
  · obtain ⟨x, dx, R, F, n, rows, found, rfl, _⟩ := h
    rfl
  · have sc := sc_FileReader_next_row
    obtain ⟨x, dx, R, F, n, rows, found, rfl, hx, q1, q2⟩ := h
    refine ⟨_, (pss_cons (ps_expr (pmeth (pv 0) (c_FileReader T) (m_FileReader_demand T) D_FileReader_demand rfl (hr.mono (by decide)) (passes_call (takes_of rfl rfl rfl rfl) fun _ _ _ _ h => h) (pa_cons (pe_cmpR op_lt (pe_fld (pv 0) rfl) (pe_callB call_len_seq (by rfl) (z_len T) (by decide +kernel) (pa_cons (pe_fld (pv 0) rfl) pa_nil)) (nomark _)) pa_nil)))
      (pss_one (ps_ret (pe_ix ix_list (pe_fld (pv 0) rfl) (pe_fld (pv 0) rfl) (fun _ _ => rfl))))), ?_⟩
    have c := c_FileReader T
    have nm := n_FileReader_row_now T
    have na := n_FileReader_all_rows T
    refine ⟨_, rfl, x, dx, _, rfl, hx.ins, rfl, _, rfl, x, _, dx, _, _, rfl, hx.ins, c, nm, rfl, _, rfl, x, _, dx, _, _, rfl, hx.ins, c, na, rfl, R, _, rfl, .inl (SqL.of hx.rows), _, _, rfl, rfl, ?_⟩
    refine ⟨x, dx, R, F, n, _, rfl, hx.ins, fun hb => ?_, fun hb => q2 ?_⟩
    · have hlt : n < rows.length := by
        have z := of_decide_eq_true hb
        rw [List.length_map] at z
        omega
      refine ⟨_, rfl, x, _, dx, _, _, rfl, hx.ins, c, na, rfl, _, rfl, x, _, dx, _, _, rfl, hx.ins, c, nm, rfl, R, _, _, _, rfl, rfl, SqL.of hx.rows, atI_nat (j := n) (v := .str rows[n]) (by simp [hlt]), q1 rows[n] (by simp [hlt])⟩
    · have z := of_decide_eq_false hb
      rw [List.length_map] at z
      exact List.getElem?_eq_none_iff.mpr (by omega)
end
end Sk
/-! K93J: one file read, all files read. -/
namespace Sk
open PySem PySem.Spec PyProof.Rows L2
/-! ### texts and files as data -/
def txD (ts : List Str) : PyData := .tuple (ts.map PyData.str)
def fileD (f : FileP) : PyData := .tuple [.str f.1, txD f.2]
section
variable {K : PySem.W.Frag} {H : Hp}
theorem dp_strs : ∀ ts : List Str, DpAll K H (ts.map V.str) (ts.map PyData.str)
  | [] => .nil
  | x :: r => .cons (.str x) (dp_strs r)
theorem dp_txs {t : Addr} {ts : List Str} (h : H t = some (.tup (ts.map V.str))) : Dp K H (.ref t) (txD ts) := .tup (SqT.of h) (dp_strs ts)
theorem dp_file {v : V} {f : FileP} (h : FileV H v f) : Dp K H v (fileD f) := by
  obtain ⟨r, t, rfl, h1, h2⟩ := h
  exact .tup (SqT.of h1) (.cons (.str _) (.cons (dp_txs h2) .nil))
theorem dp_files {vs : List V} {fs : List FileP} (h : All2 (FileV H) vs fs) : DpAll K H vs (fs.map fileD) := by
  induction h with
  | nil => exact .nil
  | cons a _ ih => exact .cons (dp_file a) ih
end
theorem lay_strs : ∀ ts : List Str, (∀ x ∈ ts, PyData.strOk x = true) → PyData.canLayAll0 (ts.map PyData.str) = true ∧ PyData.depthAll (ts.map PyData.str) = 0
  | [], _ => ⟨by simp [PyData.canLayAll0], by simp [PyData.depthAll]⟩
  | x :: r, h => by
    obtain ⟨a, b⟩ := lay_strs r fun y hy => h y (List.mem_cons_of_mem _ hy)
    have c := h x List.mem_cons_self
    constructor
    · simp only [List.map_cons, PyData.canLayAll0, PyData.canLay0, c, a, Bool.and_true]
    · simp only [List.map_cons, PyData.depthAll, PyData.depth, b, Nat.max_self]
theorem letters_small : ∀ c ∈ lettersL, c < 1114112 := by decide +kernel
theorem smalls_small : ∀ c ∈ smallL, c < 1114112 := by decide +kernel
theorem strOk_of {x : Str} (h : ∀ c ∈ cl x, c < 1114112) : PyData.strOk x = true := by
  unfold PyData.strOk
  rw [← Array.all_toList, List.all_eq_true]
  exact fun c hc => decide_eq_true (h c hc)
theorem line_cl {x : Str} (h : isLine x = true) : ∀ c ∈ cl x, c ∈ lettersL := by
  unfold isLine isText at h
  rw [Bool.and_eq_true, List.all_eq_true] at h
  exact fun c hc => of_decide_eq_true (h.1 c hc)
theorem name_cl {x : Str} (h : isName x = true) : ∀ c ∈ cl x, c ∈ smallL := by
  unfold isName at h
  rw [Bool.and_eq_true, List.all_eq_true] at h
  exact fun c hc => of_decide_eq_true (h.2 c hc)
theorem line_ok {x : Str} (h : isLine x = true) : PyData.strOk x = true := strOk_of fun c hc => letters_small c (line_cl h c hc)
theorem name_ok {x : Str} (h : isName x = true) : PyData.strOk x = true := strOk_of fun c hc => smalls_small c (name_cl h c hc)
/-- what files that were read are like -/
def Fine (fs : List FileP) : Prop := ∀ f ∈ fs, isName f.1 = true ∧ ∀ x ∈ f.2, isLine x = true
theorem lay_files : ∀ fs : List FileP, Fine fs → PyData.canLayAll0 (fs.map fileD) = true ∧ PyData.depthAll (fs.map fileD) ≤ 2
  | [], _ => ⟨by simp [PyData.canLayAll0], by simp [PyData.depthAll]⟩
  | f :: r, h => by
    obtain ⟨a, b⟩ := lay_files r fun y hy => h y (List.mem_cons_of_mem _ hy)
    obtain ⟨c, d⟩ := h f List.mem_cons_self
    obtain ⟨e1, e2⟩ := lay_strs f.2 fun x hx => line_ok (d x hx)
    constructor
    · simp only [List.map_cons, fileD, txD, PyData.canLayAll0, PyData.canLay0, name_ok c, e1, a, Bool.and_true]
    · simp only [List.map_cons, fileD, txD, PyData.depthAll, PyData.depth, e2]
      omega
theorem shaped_files {fs : List FileP} (h : Fine fs) : SeqAt.shaped (.list (fs.map fileD)) = true := by
  obtain ⟨a, b⟩ := lay_files fs h
  have c1 : PyData.canLay0 (.list (fs.map fileD)) = true := by
    simp only [PyData.canLay0]
    exact a
  have c2 : PyData.depth (.list (fs.map fileD)) ≤ 64 := by
    simp only [PyData.depth]
    omega
  unfold SeqAt.shaped
  rw [c1, Bool.true_and]
  exact decide_eq_true c2
theorem shaped_nil : SeqAt.shaped (.list []) = true := by decide
theorem eqv_nil : ∀ fs : List FileP, PyData.eqv (.list (fs.map fileD)) (.list []) = decide (fs = [])
  | [] => by simp [PyData.eqv, PyData.eqvAll]
  | f :: r => by simp [PyData.eqv, PyData.eqvAll]
theorem num_nn {x : Str} (h : 1 ≤ x.length ∧ x.length ≤ 2) (hd : isNum x = true) : 0 ≤ numVal x := by
  have h1 : ∀ a ∈ digitsL, 0 ≤ numVal ⟨#[a]⟩ := by decide +kernel
  have h2 : ∀ a ∈ digitsL, ∀ b ∈ digitsL, 0 ≤ numVal ⟨#[a, b]⟩ := by decide +kernel
  have hl := str_len x
  have ha : ∀ c ∈ x.cps.toList, c ∈ digitsL := fun c hc => of_decide_eq_true (List.all_eq_true.mp hd c hc)
  cases e : x.cps.toList with
  | nil => rw [e] at hl; simp at hl; omega
  | cons a r =>
    cases r with
    | nil =>
      rw [str_of_list e]
      exact h1 a (ha a (by rw [e]; simp))
    | cons b r2 =>
      cases r2 with
      | nil =>
        rw [str_of_list e]
        exact h2 a (ha a (by rw [e]; simp)) b (ha b (by rw [e]; simp))
      | cons c r3 =>
        rw [e] at hl
        simp at hl
        omega
theorem numIn_some {x : Str} {n : Int} (h : numIn x = some n) : 0 ≤ n ∧ n ≤ 60 := by
  unfold numIn at h
  split at h
  · rename_i h1
    split at h
    · cases h
    · rename_i h2
      cases h
      exact ⟨num_nn h1.1 h1.2, by
        have z : ¬ 60 < numVal x := fun z => h2 (.inr z)
        omega⟩
  · cases h
theorem headIn_some {x b : Str} {n : Int} (h : headIn x = some (b, n)) : isName b = true ∧ 0 ≤ n ∧ n ≤ 60 := by
  unfold headIn at h
  split at h
  · rename_i a b' c' e
    split at h
    · rename_i h1
      obtain ⟨m, hm, e2⟩ := Option.map_eq_some_iff.mp h
      cases e2
      exact ⟨h1.2, numIn_some hm⟩
    · cases h
  · cases h
theorem atI_last {α : Type} {xs : List α} {v : α} (h : xs.getLast? = some v) : atI xs (-1) = some v := by
  cases xs with
  | nil => simp at h
  | cons x r =>
    rw [List.getLast?_eq_getElem?] at h
    unfold atI ixN
    rw [if_neg (by decide), if_pos (by rw [List.length_cons]; omega), Option.bind_some]
    have e : ((-1 : Int) + ((x :: r).length : Nat)).toNat = (x :: r).length - 1 := by
      rw [List.length_cons]
      omega
    rw [e]
    exact h
theorem all2_last {α β : Type} {R : α → β → Prop} {l : List α} {m : List β} (h : All2 R l m) {b : β} (e : m.getLast? = some b) : ∃ a, l.getLast? = some a ∧ R a b := by
  rw [List.getLast?_eq_getElem?] at e ⊢
  rw [h.len]
  exact h.at2 e
theorem badAt_snoc : ∀ {l : List Str} {i : Nat} {r : Str}, badAt l i = none → l[i]? = some r → isLine r = true → badAt l (i + 1) = none
  | [], i, r, _, h, _ => by simp at h
  | x :: l, 0, r, _, h, hr => by
    have e : x = r := by simpa using h
    subst e
    simp [badAt, hr]
  | x :: l, i + 1, r, hb, h, hr => by
    have h' : l[i]? = some r := by simpa using h
    unfold badAt at hb
    split at hb
    · rename_i hx
      have hb' : badAt l i = none := by simpa using hb
      have ih := badAt_snoc hb' h' hr
      show badAt (x :: l) (i + 1 + 1) = none
      unfold badAt
      rw [if_pos hx, ih]
      rfl
    · cases hb
theorem badAt_hit : ∀ {l : List Str} {i k : Nat}, badAt l i = none → i < k → (∀ r, l[i]? = some r → isLine r = false) → badAt l k = some i
  | [], 0, k + 1, _, _, _ => rfl
  | [], i + 1, _, h, _, _ => by cases h
  | x :: l, 0, k + 1, _, _, hr => by
    have z := hr x rfl
    unfold badAt
    rw [z]
    rfl
  | x :: l, i + 1, k + 1, h, hk, hr => by
    unfold badAt at h
    split at h
    · rename_i hx
      have h' : badAt l i = none := by simpa using h
      have ih := badAt_hit h' (by omega : i < k) fun r e => hr r (by simpa using e)
      unfold badAt
      rw [if_pos hx, ih]
      rfl
    · cases h
theorem badAt_len : ∀ {l : List Str} {i : Nat}, badAt l i = none → i ≤ l.length
  | _, 0, _ => Nat.zero_le _
  | [], i + 1, h => by cases h
  | x :: l, i + 1, h => by
    unfold badAt at h
    split at h
    · have h' : badAt l i = none := by simpa using h
      have := badAt_len h'
      rw [List.length_cons]
      omega
    · cases h
theorem badAt_all : ∀ {l : List Str} {i : Nat}, badAt l i = none → ∀ x ∈ l.take i, isLine x = true
  | _, 0, _ => by simp
  | [], i + 1, h => by cases h
  | x :: l, i + 1, h => by
    unfold badAt at h
    split at h
    · rename_i hx
      have h' : badAt l i = none := by simpa using h
      intro y hy
      rw [List.take_succ_cons] at hy
      rcases List.mem_cons.mp hy with e | hy
      · rw [e]
        exact hx
      · exact badAt_all h' y hy
    · cases h
section
variable {P : Program} {w : World} {K : PySem.W.Frag} {mg : Str → Option Value} {base : Heap}
theorem RdAt.ts {H H' : Hp} {x dx R F : Addr} {n : Nat} {rows : List Str} {found : List FileP} (h : RdAt K H x dx R n F rows found) (s : ∀ q o, H q = some o → (q = x ∨ q = R ∨ q = F ∨ ∃ xs, o = .tup xs) → H' q = some o) : RdAt K H' x dx R n F rows found := by
  obtain ⟨h1, h2, vs, h3, h4⟩ := h
  exact ⟨s _ _ h1 (.inl rfl), s _ _ h2 (.inr (.inl rfl)), vs, s _ _ h3 (.inr (.inr (.inl rfl))), h4.mono fun _ _ z => z.ts fun b xs e => s _ _ e (.inr (.inr (.inr ⟨xs, rfl⟩)))⟩
theorem RdAt.same {H H' : Hp} {x dx R F : Addr} {n : Nat} {rows : List Str} {found : List FileP} (h : RdAt K H x dx R n F rows found) (s : L2.Same H H') : RdAt K H' x dx R n F rows found := h.ts fun q o e _ => s q o e
def spReadFile (K : PySem.W.Frag) : Sp := fun vs H Q E => ∃ (x dx R F : Addr) (n : Nat) (rows : List Str) (found : List FileP), vs = [.ref x] ∧ RdAt K H x dx R n F rows found ∧ n < rows.length ∧ x ≠ F ∧ R ≠ F ∧ R ≠ x ∧ (∀ r ∈ rows, r.length + 2 ≤ sizeLine) ∧ rows.length ≤ 1000000 ∧ Fine found ∧ found.length ≤ 12 ∧
  (∀ H' f n', stepR rows found n = .inr (f, n') → Kp [x, F] H H' → RdAt K H' x dx R n' F rows (found ++ [f]) → Q .non H') ∧
  (∀ H' j d, stepR rows found n = .inl j → Kp [x, F] H H' → H' d = some (.xd [("row", .int (j : Nat))]) → E (.ref (He.ga K "BadFiles")) (some d) H')
abbrev N_FileReader_read_file : List Str := ["self", "head", "texts", "row"]
theorem sc_FileReader_read_file : FnScope N_FileReader_read_file ["self"] (defScope s_FileReader_read_file) := ⟨rfl, rfl, rfl, by decide +kernel, rfl, by decide +kernel, by decide +kernel⟩
theorem ok_read_file (G : PgOk P) (T : Wt K mg) : Def P w K mg base 5 d_FileReader_read_file ["self"] (spReadFile K) := by
  have D_FileReader_demand := ok_demand (P := P) (w := w) (base := base) G T
  have D_FileReader_next_row := ok_next_row (P := P) (w := w) (base := base) G T
  have D_head_in := ok_head_in (P := P) (w := w) (base := base) T
  have D_is_line_text := ok_is_line_text (P := P) (w := w) (base := base) T
  refine mk_defX (F_FileReader_read_file T) rfl sc_FileReader_read_file (fun vs H Q E h => ?_) (fun _ _ _ _ _ _ us hl => match us, hl with | [_], _ => rfl) (fun cdv A outer s H vs Q E hr h => ?_)
  · obtain ⟨x, dx, R, F, n, rows, found, rfl, _⟩ := h
    rfl
  · have sc := sc_FileReader_read_file
    obtain ⟨x, dx, R, F, n, rows, found, rfl, hx, hn, nxF, nRF, nRx, hrl, hrn, hfine, hfl, qi, qe⟩ := h
    refine ⟨_, (pss_cons (ps_set (i := 1) sc.nd rfl (Or.inl rfl) (pcall D_head_in (hr.mono (by decide)) (by rfl) (g_head_in T) passL (pa_cons (pmeth0 (pv 0) (c_FileReader T) (m_FileReader_next_row T) D_FileReader_next_row rfl (hr.mono (by decide)) (passes_call (takes_of rfl rfl rfl rfl) fun _ _ _ _ h => h)) pa_nil)))
      (pss_cons (ps_expr (pmeth (pv 0) (c_FileReader T) (m_FileReader_demand T) D_FileReader_demand rfl (hr.mono (by decide)) (passes_call (takes_of rfl rfl rfl rfl) fun _ _ _ _ h => h) (pa_cons (pe_and (pe_cmpR op_notN (pv 1) pe_non (nomark _)) (pe_one (pe_cmpR op_lt (pe_callB call_len_seq (by rfl) (z_len T) (by decide +kernel) (pa_cons (pe_fld (pv 0) rfl) pa_nil)) (pgi (v_MOST_FILES_sheets T)) (nomark _)))) pa_nil)))
      (pss_cons (ps_expr (pmeth (pv 0) (c_FileReader T) (m_FileReader_demand T) D_FileReader_demand rfl (hr.mono (by decide)) (passes_call (takes_of rfl rfl rfl rfl) fun _ _ _ _ h => h) (pa_cons (pe_or (pe_cmpR (op_eqD hr.units) (pe_fld (pv 0) rfl) (pe_lst pa_nil) (nomark _)) (pe_one (pe_cmpR op_lt_str (pe_ix ix_tup (pe_ix ix_list (pe_fld (pv 0) rfl) (pe_un un_neg pe_int) (fun _ _ => rfl)) pe_int (fun _ _ => rfl)) (pe_ix ix_tup (pv 1) pe_int (fun _ _ => rfl)) (nomark _)))) pa_nil)))
      (pss_cons (ps_fldaug (pv 0) pe_int in_add)
      (pss_cons (ps_set (i := 2) sc.nd rfl (Or.inl rfl) (pe_lst pa_nil))
      (pss_cons (ps_while (passes_of rfl) (pt_cmpR op_lt (pe_callB call_len_seq (by rfl) (z_len T) (by decide +kernel) (pa_cons (pv 2) pa_nil)) (pe_ix ix_tup (pv 1) pe_int (fun _ _ => rfl)) (nomark _))
        (pss_cons (ps_set (i := 3) sc.nd rfl (Or.inl rfl) (pmeth0 (pv 0) (c_FileReader T) (m_FileReader_next_row T) D_FileReader_next_row rfl (hr.mono (by decide)) (passes_call (takes_of rfl rfl rfl rfl) fun _ _ _ _ h => h)))
        (pss_cons (ps_expr (pmeth (pv 0) (c_FileReader T) (m_FileReader_demand T) D_FileReader_demand rfl (hr.mono (by decide)) (passes_call (takes_of rfl rfl rfl rfl) fun _ _ _ _ h => h) (pa_cons (pcall D_is_line_text (hr.mono (by decide)) (by rfl) (g_is_line_text T) passL (pa_cons (pv 3) pa_nil)) pa_nil)))
        (pss_cons (ps_expr (pe_bm PySem.F.plainAttrs_list PySem.F.slot_list_append PySem.F.type_list_append mt_append (pv 2) (pa_cons (pv 3) pa_nil)))
        (pss_one (ps_fldaug (pv 0) pe_int in_add))))))
      (pss_one (ps_expr (pe_bm PySem.F.plainAttrs_list PySem.F.slot_list_append PySem.F.type_list_append mt_append (pe_fld (pv 0) rfl) (pa_cons (pe_tup (pa_cons (pe_ix ix_tup (pv 1) pe_int (fun _ _ => rfl)) (pa_cons (pe_callTy (T := "tuple") call_tuple_of (by rfl) (z_tuple T) (by decide +kernel) (pa_cons (pv 2) pa_nil)) pa_nil))) pa_nil)))))))))), ?_⟩
    have c := c_FileReader T
    have nm := n_FileReader_row_now T
    have na := n_FileReader_all_rows T
    have nf := n_FileReader_files_read T
    obtain ⟨r0, hr0⟩ : ∃ r, rows[n]? = some r := ⟨rows[n], by simp [hn]⟩
    have hr0l := hrl r0 (List.mem_of_getElem? hr0)
    have step0 : stepR rows found n = match headIn r0 with
      | none => .inl n
      | some (nm, k) => if found.length < 12 ∧ (found = [] ∨ ∃ f, found.getLast? = some f ∧ cl f.1 < cl nm) then (match badAt (rows.drop (n + 1)) k.toNat with
          | some j => .inl (n + 1 + j)
          | none => .inr ((nm, (rows.drop (n + 1)).take k.toNat), n + 1 + k.toNat)) else .inl n := by
      unfold stepR
      rw [hr0]
      rfl
    have bad : ∀ H', Kp [x, F] H H' → stepR rows found n = .inl n → BadF K n H' E := fun H' kp e d hd => qe _ n d e (kp.nw hd) upd_same
    refine ⟨_, rfl, x, dx, _, rfl, hx.ins, rfl, x, dx, R, F, n, rows, found, rfl, hx, fun r hr1 => ?_, fun z => ?_⟩
    · obtain rfl : r0 = r := Option.some.inj (hr0.symm.trans hr1)
      refine ⟨r0, rfl, hr0l, fun H1 hv s1 hh => set_ ?_⟩
      have hx1 : RdAt K H1 x dx R n F rows found := hx.same s1
      obtain ⟨vs, hF1, hvs⟩ := hx1.files
      rcases e0 : headIn r0 with _ | ⟨b, k⟩
      · rw [e0] at hh step0
        have eh : hv = .non := hh
        subst eh
        refine ⟨_, rfl, x, dx, _, rfl, hx1.ins, rfl, _, rfl, rfl, _, rfl, ?_⟩
        refine itn (fun _ => ?_) (fun z => absurd rfl z)
        exact ⟨x, dx, R, F, n, false, rfl, hx1.ins, (fun z => by cases z), fun _ => bad H1 (Kp.same s1) step0⟩
      · rw [e0] at hh step0
        obtain ⟨p, rfl, hp1⟩ := hh
        obtain ⟨hb, k0, k60⟩ := headIn_some e0
        have hlen := hvs.len
        refine ⟨_, rfl, x, dx, _, rfl, hx1.ins, rfl, _, rfl, rfl, _, rfl, ?_⟩
        refine itn (fun z => by cases z) (fun _ => ?_)
        refine ⟨_, rfl, x, _, dx, _, _, rfl, hx1.ins, c, nf, rfl, F, vs, rfl, .inl (SqL.of hF1), _, _, rfl, rfl, ?_⟩
        refine ⟨x, dx, R, F, n, _, rfl, hx1.ins, fun h12 => ?_, fun h12 => ?_⟩
        · have h12' : found.length < 12 := by
            have z := of_decide_eq_true h12
            omega
          refine ⟨_, rfl, x, dx, _, rfl, hx1.ins, rfl, _, rfl, x, _, dx, _, _, rfl, hx1.ins, c, nf, rfl, (by show 0 ≤ sizeLine; decide), fun l0 h0 => ?_⟩
          have hx2 : RdAt K (upd H1 l0 (.lst [])) x dx R n F rows found := hx1.same (nw (L2.Same.refl _) h0)
          have kp2 : Kp [x, F] H (upd H1 l0 (.lst [])) := (Kp.same s1).nw h0
          have hp2 : (upd H1 l0 (.lst [])) p = some (.tup [.str b, .int k]) := new_at hp1 h0
          have hl0 : (upd H1 l0 (.lst [])) l0 = some (.lst []) := upd_same
          generalize upd H1 l0 (.lst []) = H2 at hx2 kp2 hp2 hl0
          obtain ⟨vs2, hF2, hvs2⟩ := hx2.files
          refine ⟨.list (found.map fileD), .list [], .lst (SqL.of hF2) (dp_files hvs2), .lst (SqL.of (xs := []) hl0) .nil, shaped_files hfine, shaped_nil, ?_⟩
          rw [eqv_nil]
          refine ⟨_, rfl, if_any (ta := tC (.bl true)) (S := fun v H3 => ∃ bb : Bool, v = .bl bb ∧ H3 = H2 ∧ (bb = true ↔ (found = [] ∨ ∃ f, found.getLast? = some f ∧ cl f.1 < cl b))) ?_ (fun h R r => r _ _ ⟨true, rfl, rfl, ⟨fun _ => .inl h, fun _ => rfl⟩⟩) (fun h R r => ?_)⟩
          · rintro _ H3' ⟨bb, rfl, e3, hbb⟩
            rw [e3]
            refine ⟨x, dx, R, F, n, bb, rfl, hx2.ins, fun hb1 => ?_, fun hb1 => ?_⟩
            · have hok := hbb.mp hb1
              have step1 : stepR rows found n = match badAt (rows.drop (n + 1)) k.toNat with
                  | some j => .inl (n + 1 + j)
                  | none => .inr ((b, (rows.drop (n + 1)).take k.toNat), n + 1 + k.toNat) := by
                rw [step0]
                exact if_pos ⟨h12', hok⟩
              refine ⟨_, rfl, x, _, dx, _, _, rfl, hx2.ins, c, nm, rfl, _, _, rfl, rfl, dx, _, hx2.ins, (show 3 < 1000 by decide), ?_⟩
              have pnx : p ≠ x := fun z => by rw [z, hx2.ins] at hp2; cases hp2
              have Fnx : F ≠ x := Ne.symm nxF
              have hx3 : RdAt K (upd H2 x (.ins (cFR K) dx (rdF R (n + 1) F))) x dx R (n + 1) F rows found := by
                refine ⟨upd_same, ?_, vs2, ?_, hvs2.mono fun _ _ z => z.ts fun b xs e => ?_⟩
                · rw [upd_ne nRx]
                  exact hx2.rows
                · rw [upd_ne Fnx]
                  exact hF2
                · rw [upd_ne (ne_of e hx2.ins (by intro z; cases z))]
                  exact e
              have kp3 : Kp [x, F] H (upd H2 x (.ins (cFR K) dx (rdF R (n + 1) F))) := kp2.put (by simp)
              have hp3 : (upd H2 x (.ins (cFR K) dx (rdF R (n + 1) F))) p = some (.tup [.str b, .int k]) := by
                rw [upd_ne pnx]
                exact hp2
              show tSeq _ _ _ _ (upd H2 x (.ins (cFR K) dx (rdF R (n + 1) F)))
              generalize upd H2 x (.ins (cFR K) dx (rdF R (n + 1) F)) = H3 at hx3 kp3 hp3
              refine ⟨(by show 0 ≤ sizeLine; decide), fun t ht => set_ ?_⟩
              have hx4 : RdAt K (upd H3 t (.lst [])) x dx R (n + 1) F rows found := hx3.same (nw (L2.Same.refl _) ht)
              have kp4 : Kp [x, F] H (upd H3 t (.lst [])) := kp3.nw ht
              have hp4 : (upd H3 t (.lst [])) p = some (.tup [.str b, .int k]) := new_at hp3 ht
              have ht4 : (upd H3 t (.lst [])) t = some (.lst []) := upd_same
              have tnx : t ≠ x := fun z => by rw [z, hx3.ins] at ht; cases ht
              have tnR : t ≠ R := fun z => by rw [z, hx3.rows] at ht; cases ht
              have tnF : t ≠ F := fun z => by
                obtain ⟨u, e, _⟩ := hx3.files
                rw [z, e] at ht
                cases ht
              have htH : H t = none := by
                cases q : H t with
                | none => rfl
                | some o =>
                  have z := kp3 t o (by simp [tnx, tnF]) q
                  rw [ht] at z
                  cases z
              have tnp : t ≠ p := fun z => by rw [z, hp3] at ht; cases ht
              generalize upd H3 t (.lst []) = H4 at hx4 kp4 hp4 ht4
              refine ⟨fun m σ H' => ∃ (i : Nat) (a : Option V), m = k.toNat - i ∧ i ≤ k.toNat ∧ σ = [some (.ref x), some (.ref p), some (.ref t), a] ∧ RdAt K H' x dx R (n + 1 + i) F rows found ∧ H' p = some (.tup [.str b, .int k]) ∧
                H' t = some (.lst (((rows.drop (n + 1)).take i).map V.str)) ∧ Kp [x, F] H H' ∧ badAt (rows.drop (n + 1)) i = none, ⟨_, 0, none, rfl, Nat.zero_le _, rfl, hx4, hp4, ht4, kp4, by unfold badAt; cases rows.drop (n + 1) <;> rfl⟩, ?_⟩
              rintro m σ H' ⟨i, a, rfl, hik, rfl, hxi, hpi, hti, kpi, hbi⟩
              have hil := badAt_len hbi
              refine ⟨_, rfl, t, _, rfl, .inl (SqL.of hti), _, rfl, p, _, _, _, rfl, rfl, SqT.of hpi, atI_nat (j := 1) rfl, _, _, rfl, rfl, _, rfl, itd (fun hlt => ?_) (fun hlt => ?_)⟩
              · have hi : i < k.toNat := by
                  rw [List.length_map, List.length_take] at hlt
                  omega
                refine ⟨fun σ' H' => ∃ a : Option V, σ' = [some (.ref x), some (.ref p), some (.ref t), a] ∧ RdAt K H' x dx R (n + 1 + (i + 1)) F rows found ∧ H' p = some (.tup [.str b, .int k]) ∧
                  H' t = some (.lst (((rows.drop (n + 1)).take (i + 1)).map V.str)) ∧ Kp [x, F] H H' ∧ badAt (rows.drop (n + 1)) (i + 1) = none, fun σ' H' ⟨a, w1, w2, w3, w4, w5, w6⟩ => ⟨k.toNat - (i + 1), by omega, i + 1, a, rfl, hi, w1, w2, w3, w4, w5, w6⟩, ?_⟩
                refine ⟨_, rfl, x, dx, _, rfl, hxi.ins, rfl, x, dx, R, F, n + 1 + i, rows, found, rfl, hxi, fun r hr => set_ ?_, fun hnone d hd => qe _ (n + 1 + i) d ?_ (kpi.nw hd) upd_same⟩
                · have hri : (rows.drop (n + 1))[i]? = some r := by
                    rw [List.getElem?_drop]
                    exact hr
                  have hrl2 := hrl r (List.mem_of_getElem? hr)
                  refine ⟨_, rfl, x, dx, _, rfl, hxi.ins, rfl, _, rfl, r, rfl, by omega, fun H6 s6 => ⟨x, dx, R, F, n + 1 + i, _, rfl, (hxi.same s6).ins, fun hb2 => ?_, fun hb2 d hd => qe _ (n + 1 + i) d ?_ ((kpi.trans (Kp.same s6)).nw hd) upd_same⟩⟩
                  · have hx6 := hxi.same s6
                    have kp6 := kpi.trans (Kp.same (S := [x, F]) s6)
                    have hp6 := s6 _ _ hpi
                    have ht6 := s6 _ _ hti
                    refine ⟨_, rfl, .inl ⟨rfl, _, SqL.of ht6⟩, _, rfl, t, _, _, rfl, rfl, ht6, ?_, ?_⟩
                    · rw [List.length_map, List.length_take]
                      exact Nat.lt_of_lt_of_le (by omega : _ < 100) (by decide)
                    have hx7 : RdAt K (upd H6 t (.lst (((rows.drop (n + 1)).take i).map V.str ++ [.str r]))) x dx R (n + 1 + i) F rows found := hx6.ts fun q o e w => by
                      rw [upd_ne ?_]
                      · exact e
                      · rcases w with w | w | w | ⟨xs, w⟩
                        · rw [w]
                          exact Ne.symm tnx
                        · rw [w]
                          exact Ne.symm tnR
                        · rw [w]
                          exact Ne.symm tnF
                        · rw [w] at e
                          exact ne_of e ht6 (by intro z; cases z)
                    have kp7 : Kp [x, F] H (upd H6 t (.lst (((rows.drop (n + 1)).take i).map V.str ++ [.str r]))) := fun q o nq e => by
                      rw [upd_ne (ne_of_none e htH)]
                      exact kp6 q o nq e
                    have hp7 : (upd H6 t (.lst (((rows.drop (n + 1)).take i).map V.str ++ [.str r]))) p = some (.tup [.str b, .int k]) := by
                      rw [upd_ne (Ne.symm tnp)]
                      exact hp6
                    have ht7 : (upd H6 t (.lst (((rows.drop (n + 1)).take i).map V.str ++ [.str r]))) t = some (.lst (((rows.drop (n + 1)).take (i + 1)).map V.str)) := by
                      rw [upd_same, take_snoc hri, List.map_append]
                      rfl
                    show tSeq _ _ _ _ _
                    generalize upd H6 t (.lst (((rows.drop (n + 1)).take i).map V.str ++ [.str r])) = H7 at hx7 kp7 hp7 ht7
                    refine ⟨_, rfl, x, _, dx, _, _, rfl, hx7.ins, c, nm, rfl, _, _, rfl, rfl, dx, _, hx7.ins, (show 3 < 1000 by decide), ?_⟩
                    obtain ⟨vs7, hF7, hvs7⟩ := hx7.files
                    refine ⟨some (.str r), rfl, ⟨?_, ?_, vs7, ?_, hvs7.mono fun _ _ z => z.ts fun b xs e => ?_⟩, ?_, ?_, kp7.put (by simp), badAt_snoc hbi hri hb2⟩
                    · rw [upd_same]
                      rfl
                    · rw [upd_ne nRx]
                      exact hx7.rows
                    · rw [upd_ne Fnx]
                      exact hF7
                    · rw [upd_ne pnx]
                      exact hp7
                    · rw [upd_ne tnx]
                      exact ht7
                    · rw [upd_ne (ne_of e hx7.ins (by intro z; cases z))]
                      exact e
                  · rw [step1, badAt_hit hbi hi fun r' e => ?_]
                    rw [hri] at e
                    cases e
                    exact hb2
                · rw [step1, badAt_hit hbi hi fun r' e => ?_]
                  rw [List.getElem?_drop, hnone] at e
                  cases e
              · have ei : i = k.toNat := by
                  rw [List.length_map, List.length_take] at hlt
                  omega
                subst ei
                obtain ⟨vi, hFi, hvi⟩ := hxi.files
                have ni : F ≠ p := fun z => by
                  rw [← z, hFi] at hpi
                  cases hpi
                refine ⟨_, rfl, x, _, dx, _, _, rfl, hxi.ins, c, nf, rfl, .inl ⟨rfl, _, SqL.of hFi⟩, _, rfl, p, _, _, _, rfl, rfl, SqT.of hpi, atI_nat (j := 0) rfl, _, rfl, t, _, rfl, .inl ⟨SqL.of hti, fun u hu => ⟨(by show 2 ≤ sizeLine; decide), fun f hf => ⟨F, vi, _, rfl, rfl, new_at (new_at hFi hu) hf, ?_, ?_⟩⟩⟩⟩
                · have := hvi.len
                  exact Nat.lt_of_lt_of_le (by omega : _ < 100) (by decide)
                · refine qi _ (b, (rows.drop (n + 1)).take k.toNat) (n + 1 + k.toNat) ?_ (((kpi.nw hu).nw hf).put (by simp)) ⟨?_, ?_, vi ++ [.ref f], upd_same, All2.app (hvi.mono fun _ _ z => z.ts fun b xs e => ?_) (.cons ⟨f, u, rfl, ?_, ?_⟩ .nil)⟩
                  · rw [step1, hbi]
                  · rw [upd_ne nxF]
                    exact new_at (new_at hxi.ins hu) hf
                  · rw [upd_ne nRF]
                    exact new_at (new_at hxi.rows hu) hf
                  · have nf' : f ≠ F := fun z => by
                      rw [z, new_at hFi hu] at hf
                      cases hf
                    rw [upd_ne nf']
                    exact upd_same
                  · have nu' : u ≠ F := fun z => by
                      rw [z, hFi] at hu
                      cases hu
                    rw [upd_ne nu']
                    exact new_at upd_same hf
                  · rw [upd_ne (ne_of e hFi (by intro z; cases z))]
                    exact new_at (new_at e hu) hf
            · refine bad _ kp2 ?_
              rw [step0]
              refine if_neg fun z => ?_
              rw [hbb.mpr z.2] at hb1
              cases hb1
          · obtain ⟨f, hf⟩ : ∃ f, found.getLast? = some f := by
              cases q : found.getLast? with
              | none => exact absurd (List.getLast?_eq_none_iff.mp q) h
              | some f => exact ⟨f, rfl⟩
            obtain ⟨v, hv1, r1, t1, rfl, hr1', _⟩ := all2_last hvs2 hf
            refine ⟨_, rfl, x, _, dx, _, _, rfl, hx2.ins, c, nf, rfl, _, rfl, F, vs2, _, _, rfl, rfl, SqL.of hF2, atI_last hv1, ?_⟩
            refine ⟨r1, _, _, _, rfl, rfl, SqT.of hr1', atI_nat (j := 0) rfl, ?_⟩
            refine ⟨_, rfl, p, _, _, _, rfl, rfl, SqT.of hp2, atI_nat (j := 0) rfl, _, _, rfl, rfl, ?_⟩
            refine r _ _ ⟨_, rfl, rfl, ?_⟩
            rw [decide_eq_true_eq]
            constructor
            · intro z
              exact .inr ⟨f, hf, z⟩
            · rintro (z | ⟨f', hf', z⟩)
              · exact absurd z h
              · rw [hf] at hf'
                cases hf'
                exact z
        · have h12' : ¬ found.length < 12 := by
            have z := of_decide_eq_false h12
            omega
          refine bad H1 (Kp.same s1) ?_
          rw [step0]
          exact if_neg fun z => h12' z.1
    · rw [hr0] at z
      cases z
end
end Sk
/-! K93K: all files read. -/
namespace Sk
open PySem PySem.Spec PyProof.Rows L2
/-- what reading comes to: the row that cannot stand, or the files -/
def readN (rows : List Str) : Nat → List FileP → Nat → Nat ⊕ List FileP
  | 0, _, n => .inl n
  | k + 1, found, n => if n < rows.length then (match stepR rows found n with
      | .inl j => .inl j
      | .inr (f, m) => readN rows k (found ++ [f]) m) else .inr found
def readR (rows : List Str) : Nat ⊕ List FileP := readN rows (rows.length + 1) [] 0
theorem stepR_inr {rows : List Str} {found : List FileP} {n m : Nat} {f : FileP} (h : stepR rows found n = .inr (f, m)) : n < m ∧ isName f.1 = true ∧ (∀ x ∈ f.2, isLine x = true) ∧ found.length < 12 ∧ f.2.length ≤ 60 := by
  unfold stepR at h
  split at h
  · cases h
  · rename_i nm k e
    obtain ⟨h1, h2, h3⟩ := headIn_some e
    split at h
    · rename_i hc
      split at h
      · cases h
      · rename_i hb
        cases h
        exact ⟨by omega, h1, badAt_all hb, hc.1, by simp only [List.length_take]; omega⟩
    · cases h
theorem stepR_le {rows : List Str} {found : List FileP} {n m : Nat} {f : FileP} (h : stepR rows found n = .inr (f, m)) (hn : n < rows.length) : m ≤ rows.length := by
  unfold stepR at h
  split at h
  · cases h
  · split at h
    · split at h
      · cases h
      · rename_i hb
        have z := badAt_len hb
        rw [List.length_drop] at z
        cases h
        omega
    · cases h
theorem readN_fuel (rows : List Str) : ∀ (k j : Nat) (found : List FileP) (n : Nat), rows.length + 1 ≤ k + n → rows.length + 1 ≤ j + n → n ≤ rows.length → readN rows k found n = readN rows j found n
  | 0, _, _, _, h, _, hn => absurd h (by omega)
  | _ + 1, 0, _, _, _, h, hn => absurd h (by omega)
  | k + 1, j + 1, found, n, h1, h2, hn => by
    unfold readN
    split
    · rename_i hlt
      split
      · rfl
      · rename_i f m e
        have := (stepR_inr e).1
        exact readN_fuel rows k j _ m (by omega) (by omega) (stepR_le e hlt)
    · rfl
section
variable {P : Program} {w : World} {K : PySem.W.Frag} {mg : Str → Option Value} {base : Heap}
def spReadAll (K : PySem.W.Frag) : Sp := fun vs H Q E => ∃ (x dx R F : Addr) (rows : List Str), vs = [.ref x] ∧ RdAt K H x dx R 0 F rows [] ∧ x ≠ F ∧ R ≠ F ∧ R ≠ x ∧ (∀ r ∈ rows, r.length + 2 ≤ sizeLine) ∧ rows.length ≤ 1000000 ∧
  (∀ H' p fs, readR rows = .inr fs → Kp [x, F] H H' → FsAt H' p fs → Fine fs → fs.length ≤ 12 → Q (.ref p) H') ∧
  (∀ H' j d, readR rows = .inl j → Kp [x, F] H H' → H' d = some (.xd [("row", .int (j : Nat))]) → E (.ref (He.ga K "BadFiles")) (some d) H')
abbrev N_FileReader_read_all : List Str := ["self"]
theorem sc_FileReader_read_all : FnScope N_FileReader_read_all ["self"] (defScope s_FileReader_read_all) := ⟨rfl, rfl, rfl, by decide +kernel, rfl, by decide +kernel, by decide +kernel⟩
theorem ok_read_all (G : PgOk P) (T : Wt K mg) : Def P w K mg base 6 d_FileReader_read_all ["self"] (spReadAll K) := by
  have D_FileReader_read_file := ok_read_file (P := P) (w := w) (base := base) G T
  refine mk_defX (F_FileReader_read_all T) rfl sc_FileReader_read_all (fun vs H Q E h => ?_) (fun _ _ _ _ _ _ us hl => match us, hl with | [_], _ => rfl) (fun cdv A outer s H vs Q E hr h => ?_)
  · obtain ⟨x, dx, R, F, rows, rfl, _⟩ := h
    rfl
  · have sc := sc_FileReader_read_all
    obtain ⟨x, dx, R, F, rows, rfl, hx, nxF, nRF, nRx, hrl, hrn, qi, qe⟩ := h
    refine ⟨_, (pss_cons (ps_while (passes_of rfl) (pt_cmpR op_lt (pe_fld (pv 0) rfl) (pe_callB call_len_seq (by rfl) (z_len T) (by decide +kernel) (pa_cons (pe_fld (pv 0) rfl) pa_nil)) (nomark _))
        (pss_one (ps_expr (pmeth0 (pv 0) (c_FileReader T) (m_FileReader_read_file T) D_FileReader_read_file rfl (hr.mono (by decide)) (passes_call (takes_of rfl rfl rfl rfl) fun _ _ _ _ h => h)))))
      (pss_one (ps_ret (pe_callTy (T := "tuple") call_tuple_of (by rfl) (z_tuple T) (by decide +kernel) (pa_cons (pe_fld (pv 0) rfl) pa_nil))))), ?_⟩
    have c := c_FileReader T
    have nm := n_FileReader_row_now T
    have na := n_FileReader_all_rows T
    have nf := n_FileReader_files_read T
    refine ⟨fun m σ H' => ∃ (n : Nat) (found : List FileP), m = rows.length + 1 - n ∧ σ = [some (.ref x)] ∧ RdAt K H' x dx R n F rows found ∧ Kp [x, F] H H' ∧ Fine found ∧ found.length ≤ 12 ∧ readR rows = readN rows (rows.length + 1 - n) found n ∧ n ≤ rows.length, ⟨_, 0, [], rfl, rfl, hx, Kp.refl _ _, (fun _ z => nomatch z), by simp, rfl, Nat.zero_le _⟩, ?_⟩
    rintro m σ H' ⟨n, found, rfl, rfl, hx', kp, hfine, hfl, hread, hnl⟩
    refine ⟨_, rfl, x, _, dx, _, _, rfl, hx'.ins, c, nm, rfl, _, rfl, x, _, dx, _, _, rfl, hx'.ins, c, na, rfl, R, _, rfl, .inl (SqL.of hx'.rows), _, _, rfl, rfl, _, rfl, itd (fun hlt => ?_) (fun hlt => ?_)⟩
    · have hn : n < rows.length := by
        rw [List.length_map] at hlt
        omega
      refine ⟨fun σ' H2 => ∃ (n2 : Nat) (found2 : List FileP), n < n2 ∧ σ' = [some (.ref x)] ∧ RdAt K H2 x dx R n2 F rows found2 ∧ Kp [x, F] H H2 ∧ Fine found2 ∧ found2.length ≤ 12 ∧ readR rows = readN rows (rows.length + 1 - n2) found2 n2 ∧ n2 ≤ rows.length,
        fun σ' H2 ⟨n2, found2, w0, w1, w2, w3, w4, w5, w6, w7⟩ => ⟨rows.length + 1 - n2, by omega, n2, found2, rfl, w1, w2, w3, w4, w5, w6, w7⟩, ?_⟩
      have e1 : rows.length + 1 - n = (rows.length - n) + 1 := by omega
      have hstep : readR rows = match stepR rows found n with
          | .inl j => .inl j
          | .inr (f, m) => readN rows (rows.length - n) (found ++ [f]) m := by
        rw [hread, e1]
        conv => lhs; unfold readN
        rw [if_pos hn]
      refine ⟨_, rfl, x, dx, _, rfl, hx'.ins, rfl, x, dx, R, F, n, rows, found, rfl, hx', hn, nxF, nRF, nRx, hrl, hrn, hfine, hfl, fun H2 f m e kp2 hx2 => ?_, fun H2 j d e kp2 hd => ?_⟩
      · obtain ⟨g1, g2, g3, g4, g5⟩ := stepR_inr e
        have g6 := stepR_le e hn
        refine ⟨m, found ++ [f], g1, rfl, hx2, kp.trans kp2, fun y hy => ?_, by rw [List.length_append, List.length_singleton]; omega, ?_, g6⟩
        · rcases List.mem_append.mp hy with z | z
          · exact hfine y z
          · rw [List.mem_singleton.mp z]
            exact ⟨g2, g3⟩
        · rw [hstep, e]
          exact readN_fuel rows _ _ _ _ (by omega) (by omega) g6
      · refine qe H2 j d ?_ (kp.trans kp2) hd
        rw [hstep, e]
    · have en : n = rows.length := by
        rw [List.length_map] at hlt
        omega
      obtain ⟨vs, hF, hvs⟩ := hx'.files
      have hres : readR rows = .inr found := by
        rw [hread, show rows.length + 1 - n = 0 + 1 by omega]
        unfold readN
        rw [if_neg (by omega)]
      refine ⟨_, rfl, x, _, dx, _, _, rfl, hx'.ins, c, nf, rfl, F, _, rfl, .inl ⟨SqL.of hF, fun t ht => ?_⟩⟩
      exact qi _ t found hres (kp.nw ht) ⟨vs, upd_same, hvs.mono fun _ _ z => z.ts fun b o e => new_at e ht⟩ hfine hfl
theorem join_many {sep : Str} (h1 : sep.length = 1) : ∀ ps : List Str, ps.length ≤ (Str.join sep ps).length + 1
  | [] => Nat.zero_le _
  | [x] => by simp
  | x :: y :: r => by
    have e : Str.join sep (x :: y :: r) = x ++ sep ++ Str.join sep (y :: r) := rfl
    have ih := join_many h1 (y :: r)
    rw [e, len_app, len_app, List.length_cons]
    omega
theorem split_many {x sep : Str} (h1 : sep.length = 1) : (Txt.split x sep).length ≤ x.length + 1 := by
  have z := join_many h1 (Txt.split x sep)
  rw [StrLaws.join_split x sep] at z
  exact z
theorem if_anyN {S : V → Hp → Prop} {p : Prop} [Decidable p] {ta tb : TE} {σ : L2.St} {H : Hp} {Q : VK} (k : ∀ v H', S v H' → Q v H') (h1 : p → ∀ R : VK, (∀ v H', S v H' → R v H') → tb σ H R) (h2 : ¬ p → ∀ R : VK, (∀ v H', S v H' → R v H') → ta σ H R) :
    if (!decide p) = true then ta σ H Q else tb σ H Q := itn (fun h => h1 h Q k) (fun h => h2 h Q k)
def spReadFiles (K : PySem.W.Frag) : Sp := fun vs H Q E => ∃ v, vs = [v] ∧
  ((∃ s : Str, v = .str s ∧ s.length + 4 ≤ 1000000 ∧ ∃ rows, rows = (if s = "" then [] else Txt.split s "\n") ∧
    (∀ H' p fs, readR rows = .inr fs → Same H H' → FsAt H' p fs → Fine fs → fs.length ≤ 12 → Q (.ref p) H') ∧
    (∀ H' j d, readR rows = .inl j → Same H H' → H' d = some (.xd [("row", .int (j : Nat))]) → E (.ref (He.ga K "BadFiles")) (some d) H')) ∨
   ((∃ t, TyX K H v t ∧ PySem.W.kitOne K t (.type "str") = some false) ∧ ∀ H' d, Same H H' → H' d = some (.xd [("row", .int 0)]) → E (.ref (He.ga K "BadFiles")) (some d) H'))
abbrev N_read_files : List Str := ["text"]
theorem sc_read_files : FnScope N_read_files ["text"] (defScope s_read_files) := ⟨rfl, rfl, rfl, by decide +kernel, rfl, by decide +kernel, by decide +kernel⟩
theorem ok_read_files (G : PgOk P) (T : Wt K mg) : Def P w K mg base 7 d_read_files ["text"] (spReadFiles K) := by
  have D_FileReader_read_all := ok_read_all (P := P) (w := w) (base := base) G T
  have D_FileReader_init := ok_rdinit (P := P) (w := w) (base := base) T
  refine mk_defX (F_read_files T) rfl sc_read_files (fun vs H Q E h => ?_) (fun _ _ _ _ _ _ us hl => match us, hl with | [_], _ => rfl) (fun cdv A outer s H vs Q E hr h => ?_)
  · obtain ⟨v, rfl, _⟩ := h
    rfl
  · have sc := sc_read_files
    obtain ⟨v, rfl, h⟩ := h
    refine ⟨_, (pss_cons (ps_if (pt_not (pt_val (pe_callB call_isi (by rfl) (z_isinstance T) (by decide +kernel) (pa_cons (pv 0) (pa_cons (pty (n := "str") (z_str T) (by decide +kernel)) pa_nil)))))
        (pss_one (ps_raise rfl (takes_of rfl rfl rfl rfl) (pmk_err (r_BadFiles G T) (hr.mono (by decide)) (by rfl) (pa_cons pe_int pa_nil))))
        pss_nil)
      (pss_one (ps_ret (pmeth0 (pmake (k_FileReader T) D_FileReader_init rfl (hr.mono (by decide)) (by rfl) (g_FileReader T) passL (pa_cons (pe_ifExp (pt_cmpR op_ne (pv 0) pe_str (nomark _)) (pe_split (pv 0) (pgs (v_FEED_sheets T))) (pe_lst pa_nil)) pa_nil)) (c_FileReader T) (m_FileReader_read_all T) D_FileReader_read_all rfl (hr.mono (by decide)) (passes_call (takes_of rfl rfl rfl rfl) fun _ _ _ _ h => h))))), ?_⟩
    have c := c_FileReader T
    rcases h with ⟨z, rfl, hz, rows, erows, qi, qe⟩ | ⟨⟨t, ty, hk⟩, qe⟩
    · have e0 : PySem.W.kitOne K (.type "str") (.type "str") = some true := by kernel_rfl
      refine ⟨_, rfl, _, _, _, _, true, rfl, .ty _, .base (.str z), rfl, true, rfl, itnb (fun _ => nxt_ ?_) (fun w => by cases w)⟩
      have hl1 : ("\n" : Str).length = 1 := by decide +kernel
      refine ⟨_, rfl, rfl, _, rfl, if_anyN (S := fun v H1 => ∃ R, v = .ref R ∧ Same H H1 ∧ H1 R = some (.lst (rows.map V.str)) ∧ H R = none) ?_ (fun h R r => ?_) (fun h R r => ?_)⟩
      · rintro _ H1 ⟨R, rfl, s1, hR, hR0⟩
        refine fun x dx hx hdx hne => ⟨x, dx, R, rfl, upd_same, fun H2 F kp2 hF hx2 hF2 => ⟨rfl, x, dx, _, rfl, hx2, rfl, x, dx, R, F, rows, rfl, ?_⟩⟩
        have hF : (upd (upd H1 dx (.own x)) x (.ins (cFR K) dx [])) F = none := hF
        have Rnx : R ≠ x := fun w => by rw [w, hx] at hR; cases hR
        have Rnd : R ≠ dx := fun w => by rw [w, hdx] at hR; cases hR
        have hR1 : (upd (upd H1 dx (.own x)) x (.ins (cFR K) dx [])) R = some (.lst (rows.map V.str)) := by
          rw [upd_ne Rnx, upd_ne Rnd]
          exact hR
        have Fnx : x ≠ F := fun w => by rw [← w, upd_same] at hF; cases hF
        have RnF : R ≠ F := fun w => by rw [← w, hR1] at hF; cases hF
        have up : ∀ {q : Addr} {o : HO}, H q = some o → (upd (upd H1 dx (.own x)) x (.ins (cFR K) dx [])) q = some o := fun {q o} e => by
          have e1 := s1 q o e
          rw [upd_ne (ne_of_none e1 hx), upd_ne (ne_of_none e1 hdx)]
          exact e1
        have s2 : Same H H2 := fun q o e => kp2 q o (by
          rw [List.mem_singleton]
          exact ne_of_none (s1 q o e) hx) (up e)
        have s3 : ∀ {H3 : Hp}, Kp [x, F] H2 H3 → Same H H3 := fun {H3} kp q o e => kp q o (by
          have n1 : q ≠ x := ne_of_none (s1 q o e) hx
          have n2 : q ≠ F := ne_of_none (up e) hF
          simp [n1, n2]) (s2 q o e)
        refine ⟨⟨hx2, kp2 _ _ (by simp [Rnx]) hR1, [], hF2, .nil⟩, Fnx, RnF, Rnx, fun r hr => ?_, ?_, fun H3 p fs e kp => qi H3 p fs e (s3 kp), fun H3 j d e kp => qe H3 j d e (s3 kp)⟩
        · rw [erows] at hr
          split at hr
          · cases hr
          · have := split_piece hr
            exact Nat.le_trans (by omega : _ ≤ 1000000) (by decide)
        · rw [erows]
          split
          · simp
          · have := split_many (x := z) hl1
            omega
      · have ez : z = "" := by injection h
        refine ⟨(by show 0 ≤ sizeLine; decide), fun l hl => r _ _ ⟨l, rfl, nw (Same.refl _) hl, ?_, hl⟩⟩
        rw [upd_same, erows, if_pos ez]
        rfl
      · have ez : z ≠ "" := fun w => h (by rw [w])
        refine ⟨_, rfl, ⟨_, rfl⟩, z, "\n", rfl, rfl, (by rw [hl1]; rfl), Nat.le_trans (by omega : _ ≤ 1000000) (by decide), fun l hl => r _ _ ⟨l, rfl, nw (Same.refl _) hl, ?_, hl⟩⟩
        rw [upd_same, erows, if_neg ez]
    · refine ⟨_, rfl, v, .ty "str", t, .type "str", false, rfl, .ty _, ty, hk, false, rfl, itnb (fun w => by cases w) (fun _ => ?_)⟩
      exact err_ fun d hd => qe _ d (nw (Same.refl _) hd) upd_same
end
end Sk
/-! K93L: the law's own reading of a text. -/
namespace Sk
open PySem PySem.Spec PyProof.Rows L2
theorem badAt_good : ∀ {l : List Str} {i : Nat}, (∀ j, j < i → ∃ r, l[j]? = some r ∧ isLine r = true) → badAt l i = none
  | l, 0, _ => by unfold badAt; cases l <;> rfl
  | [], i + 1, h => by
    obtain ⟨r, e, _⟩ := h 0 (by omega)
    simp at e
  | x :: l, i + 1, h => by
    obtain ⟨r, e, hr⟩ := h 0 (by omega)
    have ex : x = r := by simpa using e
    subst ex
    have ih := badAt_good (l := l) (i := i) fun j hj => by
      obtain ⟨r, e, hr⟩ := h (j + 1) (by omega)
      exact ⟨r, by simpa using e, hr⟩
    unfold badAt
    rw [if_pos hr, ih]
    rfl
/-- the places of texts that are none, among the first n -/
def wrongs (ts : List Str) (n : Nat) : List Nat := (List.range n).filter fun j => !isLine ((ts[j]?).getD "")
theorem wrongs_succ {ts : List Str} {n : Nat} {r : Str} (h : ts[n]? = some r) : wrongs ts (n + 1) = if isLine r = true then wrongs ts n else wrongs ts n ++ [n] := by
  unfold wrongs
  rw [List.range_succ, List.filter_append]
  by_cases hr : isLine r = true
  · rw [if_pos hr]
    simp [h, hr]
  · have hr' : isLine r = false := by simpa using hr
    rw [if_neg hr]
    simp [h, hr']
theorem wrongs_head {ts : List Str} {w : Nat} {r : List Nat} (h : wrongs ts ts.length = w :: r) : w < ts.length ∧ badAt ts w = none ∧ ∀ r, ts[w]? = some r → isLine r = false := by
  have e : (List.range ts.length).find? (fun j => !isLine ((ts[j]?).getD "")) = some w := by
    rw [← List.head?_filter]
    unfold wrongs at h
    rw [h]
    rfl
  rw [List.find?_range_eq_some] at e
  obtain ⟨h1, h2, h3⟩ := e
  have hw : w < ts.length := by simpa using h2
  refine ⟨hw, badAt_good fun j hj => ?_, fun r hr => ?_⟩
  · have z := h3 j hj
    have hjl : j < ts.length := by omega
    refine ⟨ts[j], by simp [hjl], ?_⟩
    simpa [hjl] using z
  · rw [hr] at h1
    simpa using h1
theorem wrongs_nil {ts : List Str} (h : wrongs ts ts.length = []) : badAt ts ts.length = none := badAt_good fun j hj => by
  unfold wrongs at h
  rw [List.filter_eq_nil_iff] at h
  have z := h j (by simpa using hj)
  refine ⟨ts[j], by simp [hj], ?_⟩
  simpa [hj] using z
theorem badAt_take : ∀ {l : List Str} {i k : Nat}, i ≤ k → badAt (l.take k) i = badAt l i
  | l, 0, k, _ => by unfold badAt; cases l <;> cases k <;> rfl
  | [], i + 1, k, _ => by cases k <;> rfl
  | x :: l, i + 1, k + 1, h => by
    rw [List.take_succ_cons]
    unfold badAt
    rw [badAt_take (by omega : i ≤ k)]
/-- how a result stands in the heap -/
def ResV (H : Hp) (v : V) : Nat ⊕ List FileP → Prop
  | .inl j => ∃ p, v = .ref p ∧ H p = some (.tup [.str "bad", .int (j : Nat)])
  | .inr fs => ∃ p t, v = .ref p ∧ H p = some (.tup [.str "files", .ref t]) ∧ FsAt H t fs
def rowsIn (z : Str) : List Str := if z = "" then [] else Txt.split z "\n"
theorem cut_rows {xs : List V} {n k : Nat} (h : n ≤ xs.length) : cutV xs (some (n : Int)) (some ((n : Int) + (k : Int))) = (xs.drop n).take k := by
  unfold cutV
  rw [show (n : Int) + (k : Int) = ((n + k : Nat) : Int) by omega, HT.sIx_nat, HT.sIx_nat, Nat.min_eq_left h, List.take_eq_take_iff, List.length_drop]
  omega
abbrev ixD (ws : List Nat) : PyData := .list (ws.map fun j => PyData.int (j : Nat))
theorem dp_ixs {K : PySem.W.Frag} {H : Hp} : ∀ ws : List Nat, DpAll K H (ws.map fun j => V.int (j : Nat)) (ws.map fun j => PyData.int (j : Nat))
  | [] => .nil
  | x :: r => .cons (.int _) (dp_ixs r)
theorem lay_ixs : ∀ ws : List Nat, PyData.canLayAll0 (ws.map fun j => PyData.int (j : Nat)) = true ∧ PyData.depthAll (ws.map fun j => PyData.int (j : Nat)) = 0
  | [] => ⟨by simp [PyData.canLayAll0], by simp [PyData.depthAll]⟩
  | x :: r => by
    obtain ⟨a, b⟩ := lay_ixs r
    exact ⟨by simp only [List.map_cons, PyData.canLayAll0, PyData.canLay0, a, Bool.and_true], by simp only [List.map_cons, PyData.depthAll, PyData.depth, b, Nat.max_self]⟩
theorem shaped_ixs (ws : List Nat) : SeqAt.shaped (ixD ws) = true := by
  obtain ⟨a, b⟩ := lay_ixs ws
  have c1 : PyData.canLay0 (ixD ws) = true := by
    simp only [PyData.canLay0]
    exact a
  have c2 : PyData.depth (ixD ws) ≤ 64 := by
    simp only [PyData.depth]
    omega
  unfold SeqAt.shaped
  rw [c1, Bool.true_and]
  exact decide_eq_true c2
theorem eqv_ixs : ∀ ws : List Nat, PyData.eqv (ixD ws) (.list []) = decide (ws = [])
  | [] => by simp [PyData.eqv, PyData.eqvAll]
  | x :: r => by simp [PyData.eqv, PyData.eqvAll]
/-- a test whose answer tells of ok -/
theorem fork {t : TT} {σ : L2.St} {H : Hp} {G : Bool → Hp → Prop} (ok : Prop) (S : Hp → Prop) (k : ∀ R : Bool → Hp → Prop, (∀ H3, S H3 → ok → R false H3) → (∀ H3, S H3 → ¬ ok → R true H3) → t σ H R) (h1 : ∀ H3, S H3 → ok → G false H3) (h2 : ∀ H3, S H3 → ¬ ok → G true H3) : t σ H G := k G h1 h2
section
variable {P : Program} {w : World} {K : PySem.W.Frag} {mg : Str → Option Value} {base : Heap}
def spDue (K : PySem.W.Frag) : Sp := fun vs H Q _ => ∃ v, vs = [v] ∧
  ((∃ z : Str, v = .str z ∧ z.length + 4 ≤ 1000000 ∧ ∀ H' u, Same H H' → ResV H' u (readR (rowsIn z)) → (∀ fs, readR (rowsIn z) = .inr fs → Fine fs ∧ fs.length ≤ 12) → Q u H') ∨
   ((∃ t, TyX K H v t ∧ PySem.W.kitOne K t (.type "str") = some false) ∧ ∀ H' u, Same H H' → ResV H' u (.inl 0) → Q u H'))
abbrev N_law_due : List Str := ["_law_value_here", "_law_rows", "_law_at", "_law_found", "_law_head_here", "_law_texts", "_law_wrong", "_law_spot", "_law_row"]
theorem sc_law_due : FnScope N_law_due ["_law_value_here"] (defScope s_law_due) := ⟨rfl, rfl, rfl, by decide +kernel, rfl, by decide +kernel, by decide +kernel⟩
theorem ok_law_due (T : Wt K mg) : Def P w K mg base 4 d_law_due ["_law_value_here"] (spDue K) := by
  have D_law_head := ok_law_head (P := P) (w := w) (base := base) T
  have D_law_is_text := ok_law_is_text (P := P) (w := w) (base := base) T
  refine mk_def (F_law_due T) rfl sc_law_due (fun vs H Q E h => ?_) (fun _ _ _ _ _ _ us hl => match us, hl with | [_], _ => rfl) (fun cdv A outer s H vs Q E hr h => ?_)
  · obtain ⟨v, rfl, _⟩ := h
    rfl
  · have sc := sc_law_due
    obtain ⟨v, rfl, h⟩ := h
    refine ⟨_, (pss_cons (ps_if (pt_not (pt_val (pe_callB call_isi (by rfl) (z_isinstance T) (by decide +kernel) (pa_cons (pv 0) (pa_cons (pty (n := "str") (z_str T) (by decide +kernel)) pa_nil)))))
        (pss_one (ps_ret (pe_tup (pa_cons pe_str (pa_cons pe_int pa_nil)))))
        pss_nil)
      (pss_cons (ps_par3 (i := 1) (j := 2) (l := 3) rfl sc.nd rfl rfl rfl (by decide) (by decide) (by decide) rfl rfl rfl (pa_cons (pe_ifExp (pt_cmpR op_ne (pv 0) pe_str (nomark _)) (pe_split (pv 0) pe_str) (pe_lst pa_nil)) (pa_cons pe_int (pa_cons (pe_lst pa_nil) pa_nil))) (by rfl))
      (pss_cons (ps_while PassesOwn.never (pt_cmpR op_lt (pv 2) (pe_callB call_len_seq (by rfl) (z_len T) (by decide +kernel) (pa_cons (pv 1) pa_nil)) (nomark _))
        (pss_cons (ps_set (i := 4) sc.nd rfl (Or.inl rfl) (pcall D_law_head (hr.mono (by decide)) (by rfl) (g_law_head T) passL (pa_cons (pe_ix ix_list (pv 1) (pv 2) (fun _ _ => rfl)) pa_nil)))
        (pss_cons (ps_if (PW.pt (pw_or (pt_cmpR op_isN (pv 4) pe_non (nomark _)) (pw_or (pt_cmpR op_eq (pe_callB call_len_seq (by rfl) (z_len T) (by decide +kernel) (pa_cons (pv 3) pa_nil)) pe_int (nomark _)) (pw_or1 (PW.pt (pw_and (pt_cmpR (op_neD hr.units) (pv 3) (pe_lst pa_nil) (nomark _)) (pw_and1 (pt_cmpR op_ge_str (pe_ix ix_tup (pe_ix ix_list (pv 3) (pe_un un_neg pe_int) (fun _ _ => rfl)) pe_int (fun _ _ => rfl)) (pe_ix ix_tup (pv 4) pe_int (fun _ _ => rfl)) (nomark _)))))))))
          (pss_one (ps_ret (pe_tup (pa_cons pe_str (pa_cons (pv 2) pa_nil)))))
          pss_nil)
        (pss_cons (ps_set (i := 5) sc.nd rfl (Or.inl rfl) (pe_slice sl_list (pv 1) (po_some (pe_op op_add (pv 2) pe_int)) (po_some (pe_op op_add (pe_op op_add (pv 2) pe_int) (pe_ix ix_tup (pv 4) pe_int (fun _ _ => rfl))))))
        (pss_cons (ps_setLc (i := 6) (own := [("_law_spot", 7), ("_law_row", 8)]) rfl sc.nd rfl rfl (sw_true rfl rfl rfl (by decide +kernel)) (pi_enum (by rfl) (z_enumerate T) (pa_cons (pv 5) pa_nil)) (blkOk_by (N := N_law_due) (sc := defScope s_law_due) (by decide +kernel)) (fun _ _ _ _ _ => (pg_tupK (K := K) (n := 2) rfl (pgs_cons (pg_name (i := 7) sc.nd rfl (Or.inl rfl)) (pgs_cons (pg_name (i := 8) sc.nd rfl (Or.inl rfl)) pgs_nil)))) (fun _ _ _ _ _ => pts_one (pt_not (pt_val (pcall D_law_is_text (hr.mono (by decide)) (by rfl) (g_law_is_text T) passL (pa_cons (pv 8) pa_nil))))) (fun _ _ _ _ _ => (pv 7)))
        (pss_cons (ps_if (pt_cmpR (op_neD hr.units) (pv 6) (pe_lst pa_nil) (nomark _))
          (pss_one (ps_ret (pe_tup (pa_cons pe_str (pa_cons (pe_op op_add (pe_op op_add (pv 2) pe_int) (pe_ix ix_list (pv 6) pe_int (fun _ _ => rfl))) pa_nil)))))
          pss_nil)
        (pss_cons (ps_if (pt_cmpR op_lt (pe_callB call_len_seq (by rfl) (z_len T) (by decide +kernel) (pa_cons (pv 5) pa_nil)) (pe_ix ix_tup (pv 4) pe_int (fun _ _ => rfl)) (nomark _))
          (pss_one (ps_ret (pe_tup (pa_cons pe_str (pa_cons (pe_callB call_len_seq (by rfl) (z_len T) (by decide +kernel) (pa_cons (pv 1) pa_nil)) pa_nil)))))
          pss_nil)
        (pss_cons (ps_expr (pe_bm PySem.F.plainAttrs_list PySem.F.slot_list_append PySem.F.type_list_append mt_append (pv 3) (pa_cons (pe_tup (pa_cons (pe_ix ix_tup (pv 4) pe_int (fun _ _ => rfl)) (pa_cons (pe_callTy (T := "tuple") call_tuple_of (by rfl) (z_tuple T) (by decide +kernel) (pa_cons (pv 5) pa_nil)) pa_nil))) pa_nil)))
        (pss_one (ps_set (i := 2) sc.nd rfl (Or.inl rfl) (pe_op op_add (pe_op op_add (pv 2) pe_int) (pe_ix ix_tup (pv 4) pe_int (fun _ _ => rfl)))))))))))))
      (pss_one (ps_ret (pe_tup (pa_cons pe_str (pa_cons (pe_callTy (T := "tuple") call_tuple_of (by rfl) (z_tuple T) (by decide +kernel) (pa_cons (pv 3) pa_nil)) pa_nil)))))))), ?_⟩
    rcases h with ⟨z, rfl, hz, q⟩ | ⟨⟨t, ty, hk⟩, q⟩
    · have e0 : PySem.W.kitOne K (.type "str") (.type "str") = some true := by kernel_rfl
      refine ⟨_, rfl, _, _, _, _, true, rfl, .ty _, .base (.str z), rfl, true, rfl, itnb (fun _ => nxt_ ?_) (fun w => by cases w)⟩
      have hl1 : ("\n" : Str).length = 1 := by decide +kernel
      refine ⟨_, rfl, rfl, _, rfl, if_anyN (S := fun v H1 => ∃ R, v = .ref R ∧ Same H H1 ∧ H1 R = some (.lst ((rowsIn z).map V.str)) ∧ H R = none) ?_ (fun h R r => ?_) (fun h R r => ?_)⟩
      · rintro _ H1 ⟨R, rfl, s1, hR, hR0⟩
        have hrn : (rowsIn z).length ≤ 1000000 := by
          unfold rowsIn
          split
          · simp
          · have := split_many (x := z) hl1
            omega
        have hrl : ∀ r ∈ rowsIn z, r.length + 2 ≤ sizeLine := fun r hr => by
          unfold rowsIn at hr
          split at hr
          · cases hr
          · have := split_piece hr
            exact Nat.le_trans (by omega : _ ≤ 1000000) (by decide)
        generalize rowsIn z = rows at hR hrn hrl q
        refine ⟨(by show 0 ≤ sizeLine; decide), fun F hF => ⟨_, _, _, rfl, ?_⟩⟩
        have RnF : R ≠ F := ne_of_none hR hF
        have s2 : Kp [F] H (upd H1 F (.lst [])) := (Kp.same s1).nw hF
        have hF0 : H F = none := by
          cases q2 : H F with
          | none => rfl
          | some o => rw [s1 _ _ q2] at hF; cases hF
        refine ⟨fun m σ H' => ∃ (n : Nat) (found : List FileP) (vs : List V) (a b c d e : Option V), m = rows.length + 1 - n ∧ σ = [some (.str z), some (.ref R), some (.int (n : Nat)), some (.ref F), a, b, c, d, e] ∧ H' R = some (.lst (rows.map V.str)) ∧ H' F = some (.lst vs) ∧ All2 (FileV H') vs found ∧
          Kp [F] H H' ∧ Fine found ∧ found.length ≤ 12 ∧ readR rows = readN rows (rows.length + 1 - n) found n ∧ n ≤ rows.length, ⟨_, 0, [], [], none, none, none, none, none, rfl, rfl, new_at hR hF, upd_same, .nil, s2, (fun _ z => nomatch z), by simp, rfl, Nat.zero_le _⟩, ?_⟩
        rintro m σ H' ⟨n, found, vs, a, b, c, d, e, rfl, rfl, hR', hF', hvs, kp, hfine, hfl, hread, hnl⟩
        refine ⟨_, rfl, _, rfl, R, _, rfl, .inl (SqL.of hR'), _, _, rfl, rfl, _, rfl, itd (fun hlt => ?_) (fun hlt => ?_)⟩
        · have hn : n < rows.length := by
            rw [List.length_map] at hlt
            omega
          obtain ⟨r0, hr0⟩ : ∃ r, rows[n]? = some r := ⟨rows[n], by simp [hn]⟩
          have hr0l := hrl r0 (List.mem_of_getElem? hr0)
          have step0 : stepR rows found n = match headIn r0 with
            | none => .inl n
            | some (nm, k) => if found.length < 12 ∧ (found = [] ∨ ∃ f, found.getLast? = some f ∧ cl f.1 < cl nm) then (match badAt (rows.drop (n + 1)) k.toNat with
                | some j => .inl (n + 1 + j)
                | none => .inr ((nm, (rows.drop (n + 1)).take k.toNat), n + 1 + k.toNat)) else .inl n := by
            unfold stepR
            rw [hr0]
            rfl
          have e1 : rows.length + 1 - n = (rows.length - n) + 1 := by omega
          have hstep : readR rows = match stepR rows found n with
              | .inl j => .inl j
              | .inr (f, m) => readN rows (rows.length - n) (found ++ [f]) m := by
            rw [hread, e1]
            conv => lhs; unfold readN
            rw [if_pos hn]
            all_goals (rcases stepR rows found n with j | ⟨f, m⟩ <;> rfl)
          have toS : ∀ {H2 : Hp}, Kp [F] H H2 → Same H H2 := fun {H2} k q o e => k q o (by
            rw [List.mem_singleton]
            exact ne_of_none e hF0) e
          have bad : ∀ {H2 : Hp} {p : Addr} {j : Nat}, Kp [F] H H2 → H2 p = none → stepR rows found n = .inl j → Q (.ref p) (upd H2 p (.tup [.str "bad", .int (j : Nat)])) := fun {H2 p j} k hp e => by
            have er : readR rows = .inl j := by rw [hstep, e]
            refine q _ _ (toS (k.nw hp)) ?_ (fun fs e2 => by rw [er] at e2; cases e2)
            rw [er]
            exact ⟨p, rfl, upd_same⟩
          refine ⟨fun σ' H2 => ∃ (n2 : Nat) (found2 : List FileP) (vs2 : List V) (a b c d e : Option V), n < n2 ∧ σ' = [some (.str z), some (.ref R), some (.int (n2 : Nat)), some (.ref F), a, b, c, d, e] ∧ H2 R = some (.lst (rows.map V.str)) ∧ H2 F = some (.lst vs2) ∧ All2 (FileV H2) vs2 found2 ∧
            Kp [F] H H2 ∧ Fine found2 ∧ found2.length ≤ 12 ∧ readR rows = readN rows (rows.length + 1 - n2) found2 n2 ∧ n2 ≤ rows.length,
            fun σ' H2 ⟨n2, found2, vs2, a, b, c, d, e, w0, w1, w2, w3, w4, w5, w6, w7, w8, w9⟩ => ⟨rows.length + 1 - n2, by omega, n2, found2, vs2, a, b, c, d, e, rfl, w1, w2, w3, w4, w5, w6, w7, w8, w9⟩, ?_⟩
          refine ⟨_, rfl, _, rfl, R, _, _, _, rfl, rfl, SqL.of hR', atI_nat (j := n) (v := .str r0) (by simp [hr0]), r0, rfl, hr0l, fun H2 hv s3 hh => set_ ?_⟩
          have hR2 := s3 _ _ hR'
          have hF2 := s3 _ _ hF'
          have hvs2 := hvs.mono fun _ _ x => x.ts (same_ts s3)
          have kp2 := kp.trans (Kp.same (S := [F]) s3)
          have hlen := hvs.len
          rcases e0 : headIn r0 with _ | ⟨nm, k⟩
          · rw [e0] at hh step0
            have eh : hv = .non := hh
            subst eh
            refine ⟨_, rfl, rfl, _, rfl, itd (fun _ => itb (fun _ => ?_) (fun w => by cases w)) (fun w => absurd rfl w)⟩
            exact ⟨_, rfl, (by show 2 ≤ sizeLine; decide), fun p hp => bad kp2 hp step0⟩
          · rw [e0] at hh step0
            obtain ⟨p, rfl, hp2⟩ := hh
            obtain ⟨hb, k0, k60⟩ := headIn_some e0
            refine ⟨_, rfl, rfl, _, rfl, itd (fun w => by cases w) (fun _ => ?_)⟩
            have hcnt : (decide (V.int (vs.length : Nat) = V.int 12) = true) ↔ ¬ found.length < 12 := by
              rw [decide_eq_true_eq]
              constructor
              · intro w
                injection w with w
                omega
              · intro w
                have : vs.length = 12 := by omega
                rw [this]
                rfl
            have badq : ∀ {H3 : Hp}, Kp [F] H H3 → ¬ (found.length < 12 ∧ (found = [] ∨ ∃ f, found.getLast? = some f ∧ cl f.1 < cl nm)) → ∀ p', H3 p' = none → Q (.ref p') (upd H3 p' (.tup [.str "bad", .int (n : Nat)])) := fun {H3} k3 hno p' hp' => bad k3 hp' (by rw [step0]; exact if_neg hno)
            refine ⟨_, rfl, F, _, rfl, .inl (SqL.of hF2), rfl, _, rfl, itb (fun hq => itb (fun _ => ?_) (fun w => by cases w)) (fun hq => ?_)⟩
            · exact ⟨_, rfl, (by show 2 ≤ sizeLine; decide), fun p' hp' => badq kp2 (fun w => hcnt.mp hq w.1) p' hp'⟩
            have h12 : found.length < 12 := by
              refine Decidable.byContradiction fun w => ?_
              have w2 := hcnt.mpr w
              rw [w2] at hq
              cases hq
            refine fork (found = [] ∨ ∃ f, found.getLast? = some f ∧ cl f.1 < cl nm) (fun H3 => H3 R = some (.lst (rows.map V.str)) ∧ H3 F = some (.lst vs) ∧ H3 p = some (.tup [.str nm, .int k]) ∧ All2 (FileV H3) vs found ∧ Kp [F] H H3) (fun G g1 g2 => ?_) (fun H3 hS hok => ?_) (fun H3 hS hno => ?_)
            · refine ⟨_, rfl, (by show 0 ≤ sizeLine; decide), fun l0 h0 => ?_⟩
              have hl0 : (upd H2 l0 (.lst [])) l0 = some (.lst []) := upd_same
              have hS : (upd H2 l0 (.lst [])) R = some (.lst (rows.map V.str)) ∧ (upd H2 l0 (.lst [])) F = some (.lst vs) ∧ (upd H2 l0 (.lst [])) p = some (.tup [.str nm, .int k]) ∧ All2 (FileV (upd H2 l0 (.lst []))) vs found ∧ Kp [F] H (upd H2 l0 (.lst [])) :=
                ⟨new_at hR2 h0, new_at hF2 h0, new_at hp2 h0, hvs2.mono fun _ _ x => x.ts fun b o e => new_at e h0, kp2.nw h0⟩
              generalize upd H2 l0 (.lst []) = H3 at hl0 hS
              refine ⟨.list (found.map fileD), .list [], .lst (SqL.of hS.2.1) (dp_files hS.2.2.2.1), .lst (SqL.of (xs := []) hl0) .nil, shaped_files hfine, shaped_nil, ?_⟩
              rw [eqv_nil]
              refine ⟨_, rfl, itn (fun hfe => g1 _ hS (.inl hfe)) (fun hfe => ?_)⟩
              obtain ⟨f, hf⟩ : ∃ f, found.getLast? = some f := by
                cases q2 : found.getLast? with
                | none => exact absurd (List.getLast?_eq_none_iff.mp q2) hfe
                | some f => exact ⟨f, rfl⟩
              obtain ⟨v, hv1, r1, t1, rfl, hr1', _⟩ := all2_last hS.2.2.2.1 hf
              refine ⟨_, rfl, _, rfl, F, vs, _, _, rfl, rfl, SqL.of hS.2.1, atI_last hv1, ?_⟩
              have pick : ∀ bb : Bool, (bb = true ↔ ¬ (found = [] ∨ ∃ f, found.getLast? = some f ∧ cl f.1 < cl nm)) → G bb H3 := fun bb hbb => by
                cases bb with
                | true => exact g2 _ hS (hbb.mp rfl)
                | false => exact g1 _ hS (Decidable.byContradiction fun w => by cases hbb.mpr w)
              refine ⟨r1, _, _, _, rfl, rfl, SqT.of hr1', atI_nat (j := 0) rfl, _, rfl, p, _, _, _, rfl, rfl, SqT.of hS.2.2.1, atI_nat (j := 0) rfl, _, _, rfl, rfl, _, rfl, pick _ ?_⟩
              rw [Bool.not_eq_true', decide_eq_false_iff_not]
              constructor
              · rintro w (w2 | ⟨f', hf', w2⟩)
                · exact hfe w2
                · rw [hf] at hf'
                  cases hf'
                  exact w w2
              · exact fun w w2 => w (.inr ⟨f, hf, w2⟩)
            · refine itb (fun w => by cases w) (fun _ => nxt_ ?_)
              obtain ⟨hR3, hF3, hp3, hvs3, kp3⟩ := hS
              have step1 : stepR rows found n = match badAt (rows.drop (n + 1)) k.toNat with
                  | some j => .inl (n + 1 + j)
                  | none => .inr ((nm, (rows.drop (n + 1)).take k.toNat), n + 1 + k.toNat) := by
                rw [step0]
                exact if_pos ⟨h12, hok⟩
              obtain ⟨kk, rfl⟩ := Int.eq_ofNat_of_zero_le k0
              refine ⟨_, rfl, _, rfl, _, _, rfl, rfl, _, rfl, _, rfl, _, _, rfl, rfl, _, rfl, p, _, _, _, rfl, rfl, SqT.of hp3, atI_nat (j := 1) rfl, _, _, rfl, rfl, _, rfl, R, _, rfl, SqL.of hR3, fun tt htt => set_ ?_⟩
              have ecut : cutV (rows.map V.str) (some ((n : Int) + 1)) (some ((n : Int) + 1 + (kk : Int))) = ((rows.drop (n + 1)).take kk).map V.str := by
                have z := cut_rows (xs := rows.map V.str) (n := n + 1) (k := kk) (by rw [List.length_map]; omega)
                rw [List.map_take, List.map_drop]
                exact z
              have ht4 : (upd H3 tt (.lst (cutV (rows.map V.str) (some ((n : Int) + 1)) (some ((n : Int) + 1 + (kk : Int)))))) tt = some (.lst (((rows.drop (n + 1)).take kk).map V.str)) := by
                rw [upd_same, ecut]
              have s4 : Same H3 (upd H3 tt (.lst (cutV (rows.map V.str) (some ((n : Int) + 1)) (some ((n : Int) + 1 + (kk : Int)))))) := nw (Same.refl _) htt
              show tSeq _ _ _ _ (upd H3 tt (.lst (cutV (rows.map V.str) (some ((n : Int) + 1)) (some ((n : Int) + 1 + (kk : Int))))))
              generalize upd H3 tt (.lst (cutV (rows.map V.str) (some ((n : Int) + 1)) (some ((n : Int) + 1 + (kk : Int))))) = H4 at ht4 s4
              have hts : ∀ r ∈ (rows.drop (n + 1)).take kk, r.length + 2 ≤ sizeLine := fun r hr => hrl r (List.mem_of_mem_drop (List.mem_of_mem_take hr))
              have htl : ((rows.drop (n + 1)).take kk).length ≤ 60 := by
                rw [List.length_take]
                omega
              refine ⟨_, rfl, tt, _, rfl, SqL.of ht4, fun D hD => ?_⟩
              refine lc_it (walk_enum (K := K) (a := tt) (xs := ((rows.drop (n + 1)).take kk).map V.str)) (fun i H5 => H5 D = some (.lst ((wrongs ((rows.drop (n + 1)).take kk) i).map fun j => V.int (j : Nat))) ∧ Same H4 H5) ⟨by rw [upd_same]; rfl, nw (Same.refl _) hD⟩ (fun i H5 _ h5 => SqL.of (h5.2 _ _ ht4)) (fun i v H5 H6 hi h5 hy => ?_) (fun H5 h5 => ?_)
              · obtain ⟨T1, x1, y1, rfl, hT, rfl, ex1, ey1⟩ := hy
                rw [List.length_map] at hi
                obtain ⟨row, hrow⟩ : ∃ r, ((rows.drop (n + 1)).take kk)[i]? = some r := ⟨_, List.getElem?_eq_getElem hi⟩
                have e1' : x1 = .int (i : Nat) := (Option.some.inj ex1).symm
                have e2' : y1 = .str row := by
                  have ey2 : (((rows.drop (n + 1)).take kk).map V.str)[i]? = some y1 := ey1
                  rw [List.getElem?_map, hrow] at ey2
                  exact (Option.some.inj ey2).symm
                subst e1' e2'
                obtain ⟨h5D, h5S⟩ := h5
                have hrl5 := hts row (List.mem_of_getElem? hrow)
                have nTD : T1 ≠ D := fun w => by rw [w, h5D] at hT; cases hT
                refine ⟨T1, _, rfl, SqT.of upd_same, rfl, _, _, rfl, _, _, rfl, rfl, rfl, _, rfl, row, rfl, by omega, fun H7 s7 => ⟨_, rfl, ?_⟩⟩
                have h7D := s7 _ _ (new_at h5D hT)
                have s74 : Same H4 H7 := (nw h5S hT).trans s7
                refine itnb (fun hl => ⟨?_, s74⟩) (fun hl => ⟨_, rfl, _, h7D, ?_, ?_, ?_⟩)
                · rw [h7D, wrongs_succ hrow, if_pos hl]
                · rw [List.length_map]
                  have z1 : (wrongs ((rows.drop (n + 1)).take kk) i).length ≤ i := by
                    unfold wrongs
                    exact Nat.le_trans (List.length_filter_le _ _) (Nat.le_of_eq List.length_range)
                  exact Nat.lt_of_le_of_lt (by omega : _ ≤ 60) (by decide)
                · have hl' : ¬ isLine row = true := by
                    rw [hl]
                    decide
                  rw [upd_same, wrongs_succ hrow, if_neg hl', List.map_append]
                  rfl
                · exact fun q2 o e2 => by
                    rw [upd_ne (ne_of_none e2 hD)]
                    exact s74 q2 o e2
              · obtain ⟨h5D, h5S⟩ := h5
                rw [List.length_map] at h5D
                have kp5 : Kp [F] H H5 := kp3.trans ((Kp.same s4).trans (Kp.same h5S))
                refine set_ ⟨_, rfl, (by show 0 ≤ sizeLine; decide), fun l1 h1 => ?_⟩
                have hl1' : (upd H5 l1 (.lst [])) l1 = some (.lst []) := upd_same
                have h6D : (upd H5 l1 (.lst [])) D = _ := new_at h5D h1
                have s6 : Same H3 (upd H5 l1 (.lst [])) := nw (s4.trans h5S) h1
                have kp6 : Kp [F] H (upd H5 l1 (.lst [])) := kp5.nw h1
                have ht6 : (upd H5 l1 (.lst [])) tt = _ := new_at (h5S _ _ ht4) h1
                generalize upd H5 l1 (.lst []) = H6 at hl1' h6D s6 kp6 ht6
                refine ⟨ixD _, .list [], .lst (SqL.of h6D) (dp_ixs _), .lst (SqL.of (xs := []) hl1') .nil, shaped_ixs _, shaped_nil, ?_⟩
                rw [eqv_ixs]
                refine ⟨_, rfl, itn (fun hw => nxt_ ?_) (fun hw => ?_)⟩
                · have hgood := wrongs_nil hw
                  rw [badAt_take (by rw [List.length_take]; omega)] at hgood
                  have hp6 := s6 _ _ hp3
                  have hF6 := s6 _ _ hF3
                  have hR6 := s6 _ _ hR3
                  refine ⟨_, rfl, tt, _, rfl, .inl (SqL.of ht6), _, rfl, p, _, _, _, rfl, rfl, SqT.of hp6, atI_nat (j := 1) rfl, _, _, rfl, rfl, _, rfl, itd (fun hlt2 => ?_) (fun hlt2 => nxt_ ?_)⟩
                  · rw [List.length_map] at hlt2
                    have hl3 : ((rows.drop (n + 1)).take kk).length = rows.length - (n + 1) := by
                      rw [List.length_take, List.length_drop] at hlt2 ⊢
                      omega
                    rw [hl3] at hgood hlt2
                    have hbad : badAt (rows.drop (n + 1)) kk = some (rows.length - (n + 1)) := badAt_hit hgood (by omega) fun r hr => by
                      rw [List.getElem?_eq_none_iff.mpr (by rw [List.length_drop]; omega)] at hr
                      cases hr
                    refine ⟨_, rfl, R, _, rfl, .inl (SqL.of hR6), (by show 2 ≤ sizeLine; decide), fun p' hp' => ?_⟩
                    have z := bad (j := n + 1 + (rows.length - (n + 1))) kp6 hp' (by rw [step1]; show (match badAt (rows.drop (n + 1)) kk with | some j => Sum.inl (n + 1 + j) | none => _) = _; rw [hbad])
                    rw [show n + 1 + (rows.length - (n + 1)) = (rows.map V.str).length by rw [List.length_map]; omega] at z
                    exact z
                  · rw [List.length_map] at hlt2
                    have hk : ((rows.drop (n + 1)).take kk).length = kk := by
                      rw [List.length_take] at hlt2 ⊢
                      omega
                    rw [hk] at hgood
                    refine ⟨_, rfl, .inl ⟨rfl, _, SqL.of hF6⟩, _, rfl, p, _, _, _, rfl, rfl, SqT.of hp6, atI_nat (j := 0) rfl, _, rfl, tt, _, rfl, .inl ⟨SqL.of ht6, fun u hu => ⟨(by show 2 ≤ sizeLine; decide), fun f hf => ⟨F, vs, _, rfl, rfl, new_at (new_at hF6 hu) hf, ?_, ?_⟩⟩⟩⟩
                    · exact Nat.lt_of_lt_of_le (by omega : _ < 100) (by decide)
                    · have pF : p ≠ F := fun w => by rw [w, hF6] at hp6; cases hp6
                      have fF : f ≠ F := fun w => by rw [w, new_at hF6 hu] at hf; cases hf
                      have uF : u ≠ F := fun w => by rw [w, hF6] at hu; cases hu
                      have hstepR : stepR rows found n = .inr ((nm, (rows.drop (n + 1)).take kk), n + 1 + kk) := by
                        rw [step1]
                        show (match badAt (rows.drop (n + 1)) kk with | some j => Sum.inl (n + 1 + j) | none => _) = _
                        rw [hgood]
                        rfl
                      obtain ⟨y1, y2, y3, y4, y5⟩ := stepR_inr hstepR
                      have y6 := stepR_le hstepR hn
                      refine ⟨_, rfl, _, _, rfl, rfl, _, rfl, p, _, _, _, rfl, rfl, SqT.of (by rw [upd_ne pF]; exact new_at (new_at hp6 hu) hf), atI_nat (j := 1) rfl, _, _, rfl, rfl, ?_⟩
                      refine set_ ⟨n + 1 + kk, found ++ [(nm, (rows.drop (n + 1)).take kk)], vs ++ [.ref f], _, _, _, _, _, y1, rfl, ?_, upd_same, ?_, ((kp6.nw hu).nw hf).put (by simp), ?_, ?_, ?_, y6⟩
                      · rw [upd_ne RnF]
                        exact new_at (new_at hR6 hu) hf
                      · refine All2.app (hvs3.mono fun _ _ x => x.ts fun b xs e => ?_) (.cons ⟨f, u, rfl, ?_, ?_⟩ .nil)
                        · rw [upd_ne fF]
                          exact upd_same
                        · rw [upd_ne uF]
                          exact new_at upd_same hf
                        · have e6 := s6 _ _ e
                          rw [upd_ne (ne_of e6 hF6 (by intro w; cases w))]
                          exact new_at (new_at e6 hu) hf
                      · intro y hy
                        rcases List.mem_append.mp hy with w | w
                        · exact hfine y w
                        · rw [List.mem_singleton.mp w]
                          exact ⟨y2, y3⟩
                      · rw [List.length_append, List.length_singleton]
                        omega
                      · rw [hstep, hstepR]
                        exact readN_fuel rows _ _ _ _ (by omega) (by omega) y6
                · obtain ⟨w0, wr, ew⟩ : ∃ w0 wr, wrongs ((rows.drop (n + 1)).take kk) ((rows.drop (n + 1)).take kk).length = w0 :: wr := by
                    cases q2 : wrongs ((rows.drop (n + 1)).take kk) ((rows.drop (n + 1)).take kk).length with
                    | nil => exact absurd q2 hw
                    | cons w0 wr => exact ⟨w0, wr, rfl⟩
                  obtain ⟨g1, g2, g3⟩ := wrongs_head ew
                  have g1' : w0 < kk := by
                    rw [List.length_take] at g1
                    omega
                  have hbad : badAt (rows.drop (n + 1)) kk = some w0 := by
                    rw [badAt_take (by omega)] at g2
                    refine badAt_hit g2 g1' fun r hr => g3 r ?_
                    rw [List.getElem?_take_of_lt g1']
                    exact hr
                  rw [ew] at h6D
                  refine ⟨_, rfl, _, _, rfl, rfl, _, rfl, D, _, _, _, rfl, rfl, SqL.of h6D, atI_nat (j := 0) rfl, _, _, rfl, rfl, (by show 2 ≤ sizeLine; decide), fun p' hp' => ?_⟩
                  have z := bad (j := n + 1 + w0) kp6 hp' (by rw [step1]; show (match badAt (rows.drop (n + 1)) kk with | some j => Sum.inl (n + 1 + j) | none => _) = _; rw [hbad])
                  exact z
            · refine itb (fun _ => ?_) (fun w => by cases w)
              exact ⟨_, rfl, (by show 2 ≤ sizeLine; decide), fun p' hp' => badq hS.2.2.2.2 (fun w => hno w.2) p' hp'⟩
        · have en : n = rows.length := by
            rw [List.length_map] at hlt
            omega
          have hres : readR rows = .inr found := by
            rw [hread, show rows.length + 1 - n = 0 + 1 by omega]
            unfold readN
            rw [if_neg (by omega)]
          refine ⟨_, rfl, F, _, rfl, .inl ⟨SqL.of hF', fun t ht => ⟨(by show 2 ≤ sizeLine; decide), fun p hp => ?_⟩⟩⟩
          refine q _ _ (Kp.to_same ((((kp.nw ht).nw hp)).cut hF0)) ?_ (fun fs e2 => ?_)
          · rw [hres]
            exact ⟨p, t, rfl, upd_same, vs, new_at upd_same hp, hvs.mono fun _ _ x => x.ts fun b o e => new_at (new_at e ht) hp⟩
          · rw [hres] at e2
            cases e2
            exact ⟨hfine, hfl⟩
      · have ez : z = "" := by injection h
        refine ⟨(by show 0 ≤ sizeLine; decide), fun l hl => r _ _ ⟨l, rfl, nw (Same.refl _) hl, ?_, hl⟩⟩
        rw [upd_same]
        unfold rowsIn
        rw [if_pos ez]
        rfl
      · have ez : z ≠ "" := fun w => h (by rw [w])
        refine ⟨_, rfl, ⟨_, rfl⟩, z, "\n", rfl, rfl, (by rw [hl1]; rfl), Nat.le_trans (by omega : _ ≤ 1000000) (by decide), fun l hl => r _ _ ⟨l, rfl, nw (Same.refl _) hl, ?_, hl⟩⟩
        rw [upd_same]
        unfold rowsIn
        rw [if_neg ez]
    · refine ⟨_, rfl, v, .ty "str", t, .type "str", false, rfl, .ty _, ty, hk, false, rfl, itnb (fun w => by cases w) (fun _ => ?_)⟩
      exact ⟨(by show 2 ≤ sizeLine; decide), fun p hp => q _ _ (nw (Same.refl _) hp) ⟨p, rfl, upd_same⟩⟩
end
end Sk
/-! K93M: what the law hears of the program's reading. -/
namespace Sk
open PySem PySem.Spec PyProof.Rows L2
theorem no_of {K : PySem.W.Frag} {C : Addr} {f file : Str} (b : iniB K C f file = true) : PySem.W.findIn K (.ref C) f = some none := by
  obtain ⟨_, h⟩ := He.ba b
  obtain ⟨_, h⟩ := He.ba h
  obtain ⟨_, h⟩ := He.ba h
  obtain ⟨_, h⟩ := He.ba h
  obtain ⟨_, h⟩ := He.ba h
  obtain ⟨b5, _⟩ := He.ba h
  exact He.eqO_ok b5
/-- f(e, ..) in the body of a try -/
theorem pcallS {X : Cx} {d : DX} {ps : List Str} {k : Nat} {sp : Sp} {x : Str} {p pos : Pos} {e : Expr} {es : List Expr} {t : TA} {E : L2.St → XK} (D : Def X.prog X.w X.K X.mg X.base k d ps sp) (hr : Room k X.A) (hg : Gl X x) (hm : X.mg x = some (.ref (pAd X.K d.at_)))
    (hx : ∀ σ, PassesAt (L2.CX X.prog X.w) X σ (E σ)) (ha : PA X (e :: es) t) (hdb : (x == ("__debug__" : Str)) = false := by decide) (he : starEach (e :: es) X.env = (false, eval e X.env) :: starEach es X.env := by rfl) (hpl : (backTo pos (starEach es X.env)).any (·.1) = false := by rfl) :
    PE X (.Call (.Name x p) (e :: es) [] pos) (tCallS sp E t) := by
  obtain ⟨fd, F, b⟩ := D.ex
  exact pe_callS F hr hg hm D.kp b hx ha hdb he hpl
section
variable {P : Program} {w : World} {K : PySem.W.Frag} {mg : Str → Option Value} {base : Heap}
abbrev N_law_heard : List Str := ["_law_value_here", "_law_caught", "error"]
theorem sc_law_heard : FnScope N_law_heard ["_law_value_here"] (defScope s_law_heard) := ⟨rfl, rfl, rfl, by decide +kernel, rfl, by decide +kernel, by decide +kernel⟩
theorem ok_law_heard (G : PgOk P) (T : Wt K mg) : Def P w K mg base 8 d_law_heard ["_law_value_here"] (spDue K) := by
  have D_read_files := ok_read_files (P := P) (w := w) (base := base) G T
  refine mk_def (F_law_heard T) rfl sc_law_heard (fun vs H Q E h => ?_) (fun _ _ _ _ _ _ us hl => match us, hl with | [_], _ => rfl) (fun cdv A outer s H vs Q E hr h => ?_)
  · obtain ⟨v, rfl, _⟩ := h
    rfl
  · have sc := sc_law_heard
    obtain ⟨v, rfl, h⟩ := h
    refine ⟨_, (pss_cons (ps_set (i := 1) sc.nd rfl (Or.inl rfl) pe_non)
      (pss_cons (ps_try_keep (i := 2) (j := 1) rfl rfl rfl sc.nd rfl rfl rfl rfl ⟨by rfl, by decide, .inl (g_SiftError T)⟩ (fun W pn xe tk _ =>
        (pss_one (ps_ret (pe_tup (pa_cons pe_str (pa_cons (pcallS D_read_files (hr.mono (by decide)) (by rfl) (g_read_files T) (fun σ => passAt tk σ) (pa_cons (pv 0) pa_nil)) pa_nil)))))) (by decide) (by decide))
      (pss_cons (ps_if (PW.pt (pw_or (pt_not (pt_val (pe_callB call_isK (by rfl) (z_isinstance T) (by decide +kernel) (pa_cons (pv 1) (pa_cons (pe_glob (v := .ref (He.ga K "BadFiles")) (by rfl) (g_BadFiles T) rfl) pa_nil))))) (pw_or (pt_val (pe_callB call_isK (by rfl) (z_isinstance T) (by decide +kernel) (pa_cons (pv 1) (pa_cons (pe_glob (v := .ref (He.ga K "BadLine")) (by rfl) (g_BadLine T) rfl) pa_nil)))) (pw_or1 (pt_not (pt_val (pe_callB call_isK (by rfl) (z_isinstance T) (by decide +kernel) (pa_cons (pv 1) (pa_cons (pty (n := "ValueError") (z_ValueError T) (by decide +kernel)) pa_nil)))))))))
        (pss_one (ps_ret (pe_tup (pa_cons pe_str (pa_cons pe_non pa_nil)))))
        pss_nil)
      (pss_one (ps_ret (pe_tup (pa_cons pe_str (pa_cons (pe_xk (pv 1)) pa_nil)))))))), ?_⟩
    rcases h with ⟨z, rfl, hz, q⟩ | ⟨⟨t, ty, hk⟩, q⟩
    · refine set_ ⟨_, rfl, _, rfl, .inl ⟨z, rfl, hz, rowsIn z, rfl, fun H' p fs e s1 hfs hfine hfl => ?_, fun H' j d e s1 hd => ⟨e_BadFiles_SiftError T, fun a ha => ?_⟩⟩⟩
      · refine ⟨(by show 2 ≤ sizeLine; decide), fun t ht => q _ _ (nw s1 ht) ?_ (fun fs' e' => ?_)⟩
        · rw [e]
          exact ⟨t, p, rfl, upd_same, hfs.ts fun b o e2 => new_at e2 ht⟩
        · rw [e] at e'
          cases e'
          exact ⟨hfine, hfl⟩
      · refine ⟨_, rfl, a, _, d, _, _, _, true, rfl, upd_same, new_at hd ha, ek_BadFiles T, (fun u r => r), ki_BadFiles_BadFiles T, true, rfl, itb (fun w => by cases w) (fun _ => ?_)⟩
        refine ⟨_, rfl, a, _, d, _, _, _, false, rfl, upd_same, new_at hd ha, ek_BadFiles T, (fun u r => r), ki_BadFiles_BadLine T, false, rfl, itb (fun w => by cases w) (fun _ => ?_)⟩
        refine ⟨_, rfl, a, _, d, _, _, _, true, rfl, upd_same, new_at hd ha, ek_BadFiles T, (fun u r => r), ki_BadFiles_ValueError T, true, rfl, itb (fun w => by cases w) (fun _ => nxt_ ?_)⟩
        refine ⟨_, rfl, a, _, d, _, _, rfl, upd_same, new_at hd ha, xf_BadFiles T, no_of (ib_BadFiles T), rfl, (by show 2 ≤ sizeLine; decide), fun p hp => q _ _ (nw (nw s1 ha) hp) ?_ (fun fs' e' => ?_)⟩
        · rw [e]
          exact ⟨p, rfl, upd_same⟩
        · rw [e] at e'
          cases e'
    · refine set_ ⟨_, rfl, _, rfl, .inr ⟨⟨t, ty, hk⟩, fun H' d s1 hd => ⟨e_BadFiles_SiftError T, fun a ha => ?_⟩⟩⟩
      refine ⟨_, rfl, a, _, d, _, _, _, true, rfl, upd_same, new_at hd ha, ek_BadFiles T, (fun u r => r), ki_BadFiles_BadFiles T, true, rfl, itb (fun w => by cases w) (fun _ => ?_)⟩
      refine ⟨_, rfl, a, _, d, _, _, _, false, rfl, upd_same, new_at hd ha, ek_BadFiles T, (fun u r => r), ki_BadFiles_BadLine T, false, rfl, itb (fun w => by cases w) (fun _ => ?_)⟩
      refine ⟨_, rfl, a, _, d, _, _, _, true, rfl, upd_same, new_at hd ha, ek_BadFiles T, (fun u r => r), ki_BadFiles_ValueError T, true, rfl, itb (fun w => by cases w) (fun _ => nxt_ ?_)⟩
      exact ⟨_, rfl, a, _, d, _, _, rfl, upd_same, new_at hd ha, xf_BadFiles T, no_of (ib_BadFiles T), rfl, (by show 2 ≤ sizeLine; decide), fun p hp => q _ _ (nw (nw s1 ha) hp) ⟨p, rfl, upd_same⟩⟩
end
end Sk
/-! K93N: what a store is made of. -/
namespace Sk
open PySem PySem.Spec PyProof.Rows L2
/-! ### heaps by what stands in them -/
structure Hs (H : Hp) (l : List (Addr × HO)) : Prop where
  at_ : ∀ (i : Nat) (a : Addr) (o : HO), l[i]? = some (a, o) → H a = some o
  nd : (l.map (·.1)).Nodup
namespace Hs
variable {H : Hp} {l : List (Addr × HO)} {a p : Addr} {o u : HO}
theorem nil (H : Hp) : Hs H [] := ⟨fun i a o e => by simp at e, List.nodup_nil⟩
theorem get (h : Hs H l) (i : Nat) (e : l[i]? = some (a, o) := by rfl) : H a = some o := h.at_ i a o e
theorem mem (h : Hs H l) {q : Addr × HO} (e : q ∈ l) : H q.1 = some q.2 := by
  obtain ⟨i, hi⟩ := List.mem_iff_getElem?.mp e
  exact h.at_ i q.1 q.2 hi
theorem new (h : Hs H l) (hp : H p = none) : Hs (upd H p o) (l ++ [(p, o)]) := by
  refine ⟨fun i a u e => ?_, ?_⟩
  · by_cases hi : i < l.length
    · rw [List.getElem?_append_left hi] at e
      exact new_at (h.at_ i a u e) hp
    · rw [List.getElem?_append_right (by omega)] at e
      have z : i - l.length = 0 := by
        cases q : i - l.length with
        | zero => rfl
        | succ m => rw [q] at e; simp at e
      rw [z] at e
      have e2 : (p, o) = (a, u) := by simpa using e
      injection e2 with e3 e4
      subst e3 e4
      exact upd_same
  · rw [List.map_append, List.nodup_append]
    refine ⟨h.nd, by simp, fun x hx y hy => ?_⟩
    have ey : y = p := by simpa using hy
    subst ey
    obtain ⟨q, hq, rfl⟩ := List.mem_map.mp hx
    exact ne_of_none (h.mem hq) hp
theorem put (h : Hs H l) (i : Nat) (e : l[i]? = some (a, o) := by rfl) : Hs (upd H a u) (l.set i (a, u)) := by
  have hil : i < l.length := (List.getElem?_eq_some_iff.mp e).1
  have em : (l.set i (a, u)).map (·.1) = l.map (·.1) := by
    refine List.ext_getElem? fun j => ?_
    rw [List.getElem?_map, List.getElem?_map, List.getElem?_set]
    by_cases hj : i = j
    · subst hj
      rw [if_pos rfl, if_pos hil, e]
      rfl
    · rw [if_neg hj]
  refine ⟨fun j b w e2 => ?_, by rw [em]; exact h.nd⟩
  rw [List.getElem?_set] at e2
  by_cases hj : i = j
  · subst hj
    rw [if_pos rfl, if_pos hil] at e2
    have e3 : (a, u) = (b, w) := Option.some.inj e2
    injection e3 with e4 e5
    subst e4 e5
    exact upd_same
  · rw [if_neg hj] at e2
    have nb : b ≠ a := fun z => by
      have h1 : (l.map (·.1))[i]? = some a := by rw [List.getElem?_map, e]; rfl
      have h2 : (l.map (·.1))[j]? = some a := by rw [List.getElem?_map, e2, ← z]; rfl
      have hjl : j < (l.map (·.1)).length := (List.getElem?_eq_some_iff.mp h2).1
      exact hj ((List.getElem?_inj (by rw [List.length_map]; exact hil) h.nd).mp (h1.trans h2.symm))
    rw [upd_ne nb]
    exact h.at_ j b w e2
theorem same {H' : Hp} (h : Hs H l) (s : L2.Same H H') : Hs H' l := ⟨fun i a o e => s _ _ (h.at_ i a o e), h.nd⟩
theorem ne (h : Hs H l) (i j : Nat) {b : Addr} {w : HO} (hij : i ≠ j) (e1 : l[i]? = some (a, o) := by rfl) (e2 : l[j]? = some (b, w) := by rfl) : a ≠ b := fun z => by
  have h1 : (l.map (·.1))[i]? = some a := by rw [List.getElem?_map, e1]; rfl
  have h2 : (l.map (·.1))[j]? = some a := by rw [List.getElem?_map, e2, ← z]; rfl
  exact hij ((List.getElem?_inj (List.getElem?_eq_some_iff.mp h1).1 h.nd).mp (h1.trans h2.symm))
end Hs
theorem putF_new {f : Str} {v : V} : ∀ {fs : List (Str × V)}, (fs.all fun p => !decide (p.1 = f)) = true → putF f v fs = fs ++ [(f, v)]
  | [], _ => rfl
  | (g, x) :: r, h => by
    have h2 : (!decide (g = f) && r.all fun p => !decide (p.1 = f)) = true := h
    obtain ⟨h3, h4⟩ := He.ba h2
    have hg : ¬ g = f := by simpa using h3
    show (if g = f then _ else _) = _
    rw [if_neg hg, putF_new h4]
    rfl
/-- what is being made: the heap H, from H0, all but S as it was; of l it is known what stands there -/
structure Mkg (S : List Addr) (H0 H : Hp) (l : List (Addr × HO)) : Prop where
  hs : Hs H l
  kp : Kp S H0 H
  nw : ∀ p ∈ l, p.1 ∈ S ∨ H0 p.1 = none
namespace Mkg
variable {S : List Addr} {H0 H : Hp} {l : List (Addr × HO)} {a p x C dx : Addr} {o u : HO} {f : Str} {v : V} {fs : List (Str × V)}
theorem start1 {S : List Addr} {H : Hp} {x : Addr} {o : HO} (hx : H x = some o) (hS : x ∈ S) : Mkg S H H [(x, o)] := by
  refine ⟨⟨fun i a u e => ?_, by simp⟩, Kp.refl S H, fun p hp => ?_⟩
  · cases i with
    | zero =>
      have z : (x, o) = (a, u) := by simpa using e
      injection z with z1 z2
      rw [← z1, ← z2]
      exact hx
    | succ i => simp at e
  · rw [List.mem_singleton.mp hp]
    exact .inl hS
theorem get (M : Mkg S H0 H l) (i : Nat) (e : l[i]? = some (a, o) := by rfl) : H a = some o := M.hs.get i e
theorem fresh (M : Mkg S H0 H l) (hp : H p = none) (hS : p ∉ S) : H0 p = none := by
  cases q : H0 p with
  | none => rfl
  | some w =>
    rw [M.kp p w hS q] at hp
    cases hp
theorem none0 (M : Mkg S H0 H l) (hS : ∀ q ∈ S, H q ≠ none) (hp : H p = none) : H0 p = none := M.fresh hp fun z => hS p z hp
theorem new (M : Mkg S H0 H l) (hS : ∀ q ∈ S, H q ≠ none) (hp : H p = none) : Mkg S H0 (upd H p o) (l ++ [(p, o)]) := by
  refine ⟨M.hs.new hp, M.kp.nw hp, fun q hq => ?_⟩
  rcases List.mem_append.mp hq with z | z
  · exact M.nw q z
  · rw [List.mem_singleton.mp z]
    exact .inr (M.none0 hS hp)
theorem put (M : Mkg S H0 H l) (i : Nat) (e : l[i]? = some (a, o) := by rfl) : Mkg S H0 (upd H a u) (l.set i (a, u)) := by
  refine ⟨M.hs.put i e, ?_, fun q hq => ?_⟩
  · have em := List.mem_of_getElem? e
    rcases M.nw _ em with z | z
    · exact M.kp.put z
    · intro r w hr hw
      rw [upd_ne (ne_of_none hw z)]
      exact M.kp r w hr hw
  · rcases List.mem_or_eq_of_mem_set hq with z | z
    · exact M.nw q z
    · rw [z]
      exact M.nw (a, o) (List.mem_of_getElem? e)
theorem sub (M : Mkg S H0 H l) (e : ∀ q ∈ S, H q ≠ none) (hp : H p = none) (n : ∀ q ∈ S, q ≠ p) : ∀ q ∈ S, (upd H p o) q ≠ none := fun q hq => by
  rw [upd_ne (n q hq)]
  exact e q hq
/-- the object's address is tracked -/
theorem one (M : Mkg [x] H0 H ((x, o) :: l)) : ∀ q ∈ [x], H q ≠ none := fun q hq => by
  rw [List.mem_singleton.mp hq, M.get 0]
  simp
theorem old (M : Mkg [x] H0 H ((x, o) :: l)) (i : Nat) (e : l[i]? = some (a, u) := by rfl) : H0 a = none := by
  rcases M.nw (a, u) (List.mem_cons_of_mem _ (List.mem_of_getElem? e)) with z | z
  · have z2 : a = x := by simpa using z
    exact absurd z2.symm (M.hs.ne 0 (i + 1) (by omega) rfl (by simpa using e))
  · exact z
/-- one of the heap's new objects, stored -/
theorem fnew {nx : Hp → Prop} (M : Mkg [x] H0 H ((x, .ins C dx fs) :: l)) (hp : H p = none) (k : ∀ H', Mkg [x] H0 H' ((x, .ins C dx (fs ++ [(f, v)])) :: (l ++ [(p, o)])) → H0 p = none → nx H') (hn : (fs.all fun p => !decide (p.1 = f)) = true := by rfl) :
    nx (upd (upd H p o) x (.ins C dx (putF f v fs))) := by
  rw [putF_new hn]
  exact k _ ((M.new M.one hp).put 0) (M.none0 M.one hp)
theorem fput {nx : Hp → Prop} (M : Mkg [x] H0 H ((x, .ins C dx fs) :: l)) (k : ∀ H', Mkg [x] H0 H' ((x, .ins C dx (fs ++ [(f, v)])) :: l) → nx H') (hn : (fs.all fun p => !decide (p.1 = f)) = true := by rfl) :
    nx (upd H x (.ins C dx (putF f v fs))) := by
  rw [putF_new hn]
  exact k _ (M.put 0)
theorem new1 {nx : Hp → Prop} (M : Mkg [x] H0 H ((x, .ins C dx fs) :: l)) (hp : H p = none) (k : ∀ H', Mkg [x] H0 H' ((x, .ins C dx fs) :: (l ++ [(p, o)])) → H0 p = none → nx H') : nx (upd H p o) := k _ (M.new M.one hp) (M.none0 M.one hp)
end Mkg
/-! ### a state -/
/-- a line: text, origin, birth -/
structure LD where
  text : Str
  origin : Option Int
  born : Int
/-- a file of a version: number, name, lines -/
structure FR where
  num : Int
  name : Str
  lines : List Int
structure StD where
  book : List (Int × LD)
  lc : Int
  fc : Int
  vers : List (Int × List Int × List FR)
  vc : Int
  heads : List (Str × Int)
  wait : List Str
  kept : List (Key × V)
  watch : List (Key × V)
  nc : Int
structure StA where
  dx : Addr
  lb : Addr
  vb : Addr
  hb : Addr
  wt : Addr
  bt : Addr
  kb : Addr
  ob : Addr
  nr : Addr
def orgV : Option Int → V
  | none => .non
  | some i => .int i
def LineV (H : Hp) (q : Key × V) (d : Int × LD) : Prop := q.1 = .inl d.1 ∧ ∃ a, q.2 = .ref a ∧ H a = some (.tup [.str d.2.text, orgV d.2.origin, .int d.2.born])
def RowV (H : Hp) (v : V) (r : FR) : Prop := ∃ p t, v = .ref p ∧ H p = some (.tup [.int r.num, .str r.name, .ref t]) ∧ H t = some (.tup (r.lines.map V.int))
def RowsAt (H : Hp) (p : Addr) (rs : List FR) : Prop := ∃ vs, H p = some (.tup vs) ∧ All2 (RowV H) vs rs
def VerV (H : Hp) (q : Key × V) (d : Int × List Int × List FR) : Prop := q.1 = .inl d.1 ∧ ∃ a p f, q.2 = .ref a ∧ H a = some (.tup [.ref p, .ref f]) ∧ H p = some (.tup (d.2.1.map V.int)) ∧ RowsAt H f d.2.2
theorem RowV.ts {H H' : Hp} {v : V} {r : FR} (h : RowV H v r) (s : TSame H H') : RowV H' v r := by
  obtain ⟨p, t, e, h1, h2⟩ := h
  exact ⟨p, t, e, s _ _ h1, s _ _ h2⟩
theorem RowsAt.ts {H H' : Hp} {p : Addr} {rs : List FR} (h : RowsAt H p rs) (s : TSame H H') : RowsAt H' p rs := by
  obtain ⟨vs, h1, h2⟩ := h
  exact ⟨vs, s _ _ h1, h2.mono fun _ _ x => x.ts s⟩
theorem LineV.ts {H H' : Hp} {q : Key × V} {d : Int × LD} (h : LineV H q d) (s : TSame H H') : LineV H' q d := by
  obtain ⟨e, a, e2, h1⟩ := h
  exact ⟨e, a, e2, s _ _ h1⟩
theorem VerV.ts {H H' : Hp} {q : Key × V} {d : Int × List Int × List FR} (h : VerV H q d) (s : TSame H H') : VerV H' q d := by
  obtain ⟨e, a, p, f, e2, h1, h2, h3⟩ := h
  exact ⟨e, a, p, f, e2, s _ _ h1, s _ _ h2, h3.ts s⟩
abbrev stF (A : StA) (D : StD) : List (Str × V) := [("line_book", .ref A.lb), ("line_count", .int D.lc), ("file_count", .int D.fc), ("version_book", .ref A.vb), ("version_count", .int D.vc), ("head_book", .ref A.hb), ("waiting_texts", .ref A.wt), ("block_texts", .ref A.bt),
  ("kept_book", .ref A.kb), ("watch_book", .ref A.ob), ("notice_rows", .ref A.nr), ("notice_count", .int D.nc)]
abbrev cSt (K : PySem.W.Frag) : Addr := He.ga K "State"
def headK (l : List (Str × Int)) : List (Key × V) := l.map fun p => (.inr p.1, .int p.2)
structure StAt (K : PySem.W.Frag) (H : Hp) (s : Addr) (A : StA) (D : StD) : Prop where
  ins : H s = some (.ins (cSt K) A.dx (stF A D))
  book : ∃ kvs, H A.lb = some (.dK kvs) ∧ All2 (LineV H) kvs D.book
  vers : ∃ kvs, H A.vb = some (.dK kvs) ∧ All2 (VerV H) kvs D.vers
  heads : H A.hb = some (.dK (headK D.heads))
  wait : H A.wt = some (.tup (D.wait.map V.str))
  bt : ∃ xs, H A.bt = some (.tup xs)
  kept : H A.kb = some (.dK D.kept)
  watch : H A.ob = some (.dK D.watch)
  nr : ∃ xs, H A.nr = some (.tup xs)
  nd : [s, A.lb, A.vb, A.hb, A.kb, A.ob].Nodup
/-- all but S stands: a state off S stands -/
theorem StAt.kp {K : PySem.W.Frag} {H H' : Hp} {s : Addr} {A : StA} {D : StD} {S : List Addr} (h : StAt K H s A D) (k : Kp S H H') (hS : ∀ q ∈ [s, A.lb, A.vb, A.hb, A.kb, A.ob], q ∉ S) (ts : TSame H H') : StAt K H' s A D := by
  obtain ⟨b1, b2, b3⟩ := h.book
  obtain ⟨v1, v2, v3⟩ := h.vers
  obtain ⟨x1, x2⟩ := h.bt
  obtain ⟨y1, y2⟩ := h.nr
  exact ⟨k _ _ (hS _ (by simp)) h.ins, ⟨b1, k _ _ (hS _ (by simp)) b2, b3.mono fun _ _ z => z.ts ts⟩, ⟨v1, k _ _ (hS _ (by simp)) v2, v3.mono fun _ _ z => z.ts ts⟩, k _ _ (hS _ (by simp)) h.heads, ts _ _ h.wait, ⟨x1, ts _ _ x2⟩,
    k _ _ (hS _ (by simp)) h.kept, k _ _ (hS _ (by simp)) h.watch, ⟨y1, ts _ _ y2⟩, h.nd⟩
theorem StAt.same {K : PySem.W.Frag} {H H' : Hp} {s : Addr} {A : StA} {D : StD} (h : StAt K H s A D) (k : L2.Same H H') : StAt K H' s A D := h.kp (Kp.same (S := []) k) (fun _ _ => by simp) (same_ts k)
/-- a state that was just made -/
def stD0 : StD := ⟨[], 0, 0, [(0, [], [])], 1, [("main", 0)], [], [], [], 0⟩
section
variable {P : Program} {w : World} {K : PySem.W.Frag} {mg : Str → Option Value} {base : Heap}
def spStInit (K : PySem.W.Frag) : Sp := fun vs H Q _ => ∃ x dx, vs = [.ref x] ∧ H x = some (.ins (cSt K) dx []) ∧ ∀ H' A, Kp [x] H H' → StAt K H' x A stD0 → (∀ q ∈ [A.lb, A.vb, A.hb, A.kb, A.ob], H q = none) → A.dx = dx → Q .non H'
abbrev N_State_init : List Str := ["self"]
theorem sc_State_init : FnScope N_State_init ["self"] (defScope s_State_init) := ⟨rfl, rfl, rfl, by decide +kernel, rfl, by decide +kernel, by decide +kernel⟩
theorem ok_stinit (T : Wt K mg) : Def P w K mg base 1 d_State_init ["self"] (spStInit K) := by
  refine mk_def (F_State_init T) rfl sc_State_init (fun vs H Q E h => ?_) (fun _ _ _ _ _ _ us hl => match us, hl with | [_], _ => rfl) (fun cdv A outer s H vs Q E hr h => ?_)
  · obtain ⟨x, dx, rfl, _⟩ := h
    rfl
  · have sc := sc_State_init
    obtain ⟨x, dx, rfl, hx, q⟩ := h
    refine ⟨_, (pss_cons (ps_fld (pv 0) pe_dnewK rfl)
      (pss_cons (ps_fld (pv 0) pe_int rfl)
      (pss_cons (ps_fld (pv 0) pe_int rfl)
      (pss_cons (ps_fld (pv 0) (pe_disp (pps_cons pe_int (pe_tup (pa_cons (pe_tup pa_nil) (pa_cons (pe_tup pa_nil) pa_nil))) pps_nil) (by rfl) (by rfl) (fun z => by cases z) (by decide)) rfl)
      (pss_cons (ps_fld (pv 0) pe_int rfl)
      (pss_cons (ps_fld (pv 0) (pe_disp (pps_cons (pgs (v_MAIN T)) pe_int pps_nil) (by rfl) (by rfl) (fun z => by cases z) (by decide)) rfl)
      (pss_cons (ps_fld (pv 0) (pe_tup pa_nil) rfl)
      (pss_cons (ps_fld (pv 0) (pe_tup pa_nil) rfl)
      (pss_cons (ps_fld (pv 0) pe_dnewK rfl)
      (pss_cons (ps_fld (pv 0) pe_dnewK rfl)
      (pss_cons (ps_fld (pv 0) (pe_tup pa_nil) rfl)
      (pss_one (ps_fld (pv 0) pe_int rfl))))))))))))), ?_⟩
    have c := c_State T
    have M := Mkg.start1 hx (List.mem_singleton.mpr rfl)
    have z0 : (0 : Nat) ≤ sizeLine := by decide
    have z2 : (2 : Nat) ≤ sizeLine := by decide
    refine fun lb hlb => ⟨_, rfl, x, _, dx, _, rfl, (M.new M.one hlb).get 0, c, n_State_line_book T, (Nat.lt_of_sub_pos (by exact Nat.zero_lt_succ _)), M.fnew hlb fun H1 M f1 => ?_⟩
    refine ⟨_, rfl, x, _, dx, _, rfl, M.get 0, c, n_State_line_count T, (Nat.lt_of_sub_pos (by exact Nat.zero_lt_succ _)), M.fput fun H2 M => ?_⟩
    refine ⟨_, rfl, x, _, dx, _, rfl, M.get 0, c, n_State_file_count T, (Nat.lt_of_sub_pos (by exact Nat.zero_lt_succ _)), M.fput fun H3 M => ?_⟩
    refine fun vb hvb => ?_
    have Mv := M.new (o := .dK []) M.one hvb
    refine ⟨z0, fun e1 he1 => ?_⟩
    have Me1 := Mv.new (o := .tup []) Mv.one he1
    refine ⟨z0, fun e2 he2 => ?_⟩
    have Me2 := Me1.new (o := .tup []) Me1.one he2
    refine ⟨z2, fun t ht => ⟨(Me2.new (o := .tup [.ref e1, .ref e2]) Me2.one ht).get 2, [(.inl 0, .ref t)], rfl, (by show 1 ≤ 15; decide), ?_⟩⟩
    have Mt := (Me2.new (o := .tup [.ref e1, .ref e2]) Me2.one ht).put 2 (u := .dK [(.inl 0, .ref t)])
    refine ⟨_, rfl, x, _, dx, _, rfl, Mt.get 0, c, n_State_version_book T, (Nat.lt_of_sub_pos (by exact Nat.zero_lt_succ _)), Mt.fput fun H4 M => ?_⟩
    refine ⟨_, rfl, x, _, dx, _, rfl, M.get 0, c, n_State_version_count T, (Nat.lt_of_sub_pos (by exact Nat.zero_lt_succ _)), M.fput fun H5 M => ?_⟩
    refine fun hb hhb => ?_
    have Mh := M.new (o := .dK []) M.one hhb
    refine ⟨Mh.get 6, [(.inr "main", .int 0)], rfl, (by show 1 ≤ 15; decide), ?_⟩
    have Mh2 := Mh.put 6 (u := .dK [(.inr "main", .int 0)])
    refine ⟨_, rfl, x, _, dx, _, rfl, Mh2.get 0, c, n_State_head_book T, (Nat.lt_of_sub_pos (by exact Nat.zero_lt_succ _)), Mh2.fput fun H6 M => ?_⟩
    refine ⟨z0, fun wt hwt => ⟨_, rfl, x, _, dx, _, rfl, (M.new M.one hwt).get 0, c, n_State_waiting_texts T, (Nat.lt_of_sub_pos (by exact Nat.zero_lt_succ _)), M.fnew hwt fun H7 M f7 => ?_⟩⟩
    refine ⟨z0, fun bt hbt => ⟨_, rfl, x, _, dx, _, rfl, (M.new M.one hbt).get 0, c, n_State_block_texts T, (Nat.lt_of_sub_pos (by exact Nat.zero_lt_succ _)), M.fnew hbt fun H8 M f8 => ?_⟩⟩
    refine fun kb hkb => ⟨_, rfl, x, _, dx, _, rfl, (M.new M.one hkb).get 0, c, n_State_kept_book T, (Nat.lt_of_sub_pos (by exact Nat.zero_lt_succ _)), M.fnew hkb fun H9 M f9 => ?_⟩
    refine fun ob hob => ⟨_, rfl, x, _, dx, _, rfl, (M.new M.one hob).get 0, c, n_State_watch_book T, (Nat.lt_of_sub_pos (by exact Nat.zero_lt_succ _)), M.fnew hob fun H10 M f10 => ?_⟩
    refine ⟨z0, fun nr hnr => ⟨_, rfl, x, _, dx, _, rfl, (M.new M.one hnr).get 0, c, n_State_notice_rows T, (Nat.lt_of_sub_pos (by exact Nat.zero_lt_succ _)), M.fnew hnr fun H11 M f11 => ?_⟩⟩
    refine ⟨_, rfl, x, _, dx, _, rfl, M.get 0, c, n_State_notice_count T, (Nat.lt_of_sub_pos (by exact Nat.zero_lt_succ _)), M.fput fun H12 M => ?_⟩
    refine q H12 ⟨dx, lb, vb, hb, wt, bt, kb, ob, nr⟩ M.kp ⟨M.get 0, ⟨[], M.get 1, .nil⟩, ⟨[(.inl 0, .ref t)], M.get 2, .cons ⟨rfl, t, e1, e2, rfl, M.get 5, M.get 3, [], M.get 4, .nil⟩ .nil⟩, M.get 6, M.get 7, ⟨_, M.get 8⟩, M.get 9, M.get 10, ⟨_, M.get 11⟩, ?_⟩ ?_ rfl
    · have nd := M.hs.nd
      exact nd.sublist (.cons₂ _ (.cons₂ _ (.cons₂ _ (.cons _ (.cons _ (.cons _ (.cons₂ _ (.cons _ (.cons _ (.cons₂ _ (.cons₂ _ (.cons _ .slnil))))))))))))
    · intro r hr
      rcases List.mem_cons.mp hr with e | hr
      · rw [e]; exact M.old 0
      rcases List.mem_cons.mp hr with e | hr
      · rw [e]; exact M.old 1
      rcases List.mem_cons.mp hr with e | hr
      · rw [e]; exact M.old 5
      rcases List.mem_cons.mp hr with e | hr
      · rw [e]; exact M.old 8
      · rw [List.mem_singleton.mp hr]; exact M.old 9
end
end Sk
/-! K93O: a state's twin; a store made. -/
namespace Sk
open PySem PySem.Spec PyProof.Rows L2
/-- a def whose last parameters have defaults -/
structure DefW (P : Program) (w : World) (K : PySem.W.Frag) (mg : Str → Option Value) (base : Heap) (k : Nat) (d : DX) (ps : List Str) (dvs : List V) (sp : Sp) : Prop where
  ex : ∃ (fd : FuncData) (ds : List Value), FnOk P w K mg base (L2.CX P w) k (pAd K d.at_) fd ps sp ∧ Vals dvs ds ∧ Binds K fd ps ds
theorem mk_defW {P : Program} {w : World} {K : PySem.W.Frag} {mg : Str → Option Value} {base : Heap} {d : DX} {N ps : List Str} {dvs : List V} {k : Nat} {sp : Sp} (F : ∃ fd, FnX K d fd) (hdv : 0 ≤ 0) (hd : d.dvs K = dvs) (S : FnScope N ps (defScope d.st)) (len : ∀ vs H Q E, sp vs H Q E → vs.length = ps.length)
    (hb : ∀ {fd : FuncData}, FunD K d.nm d.qual (defArgs d.st) (defBody d.st) (defScope d.st) dvs [] (pAd K d.at_) fd → ∃ ds, Vals (dvs.drop 0) ds ∧ Binds K fd ps ds)
    (hbody : ∀ (cdv : Value) (A : Around) (outer : List Env) (s : Shared) (H : Hp) (vs : List V) (Q : VK) (E : XK), Room k (A.deeper (envOfC d.qual (defScope d.st) s.heap.objs.size (pAd K d.at_) cdv)) → sp vs H Q E →
      ∃ t, PSs (cxOf (L2.CX P w) P w K mg base N d.qual (defScope d.st) (pAd K d.at_) cdv A outer s H E).nox (defBody d.st) t ∧ t { nx := fun _ H' => Q .non H', rt := Q } (start N vs) H) : DefW P w K mg base (k + 1) d ps dvs sp := by
  obtain ⟨fd, F⟩ := F
  have F' : FunD K d.nm d.qual (defArgs d.st) (defBody d.st) (defScope d.st) dvs [] (pAd K d.at_) fd := by
    have z := F
    unfold FnX at z
    rw [hd] at z
    exact z
  obtain ⟨ds, h1, h2⟩ := hb F'
  refine ⟨fd, ds, F'.ok S len fun cdv A outer s H vs Q E hr hs => ?_, h1, h2⟩
  obtain ⟨t, h3, h4⟩ := hbody cdv A outer s H vs Q E hr hs
  exact ⟨t, h3.nox, h4⟩
/-- C(), all but self by defaults -/
theorem pmakeW0 {X : Cx} {C f : Addr} {d : DX} {ps : List Str} {dvs : List V} {k : Nat} {sp : Sp} {x : Str} {p pos : Pos} {E : XK} (M : Mk X.K C f) (D : DefW X.prog X.w X.K X.mg X.base k d ps dvs sp) (ef : pAd X.K d.at_ = f) (hr : Room (k + 1) X.A) (hg : Gl X x) (hm : X.mg x = some (.ref C)) (hx : Passes (L2.CX X.prog X.w) X E)
    (hdb : (x == ("__debug__" : Str)) = false := by decide) : PE X (.Call (.Name x p) [] [] pos) (tMake C sp dvs E tNil) := by
  subst ef
  obtain ⟨fd, ds, F, hd, b⟩ := D.ex
  exact pe_make0 M F hr hg hm b hd hx hdb
theorem Mkg.gset {S : List Addr} {H0 H : Hp} {l : List (Addr × HO)} {x : Addr} {o u : HO} {nx : L2.St → Hp → Prop} {σ : L2.St} (M : Mkg S H0 H ((x, o) :: l)) (k : ∀ H', Mkg S H0 H' ((x, u) :: l) → nx σ H') : nx σ (upd H x u) := k _ (M.put 0)
theorem Mkg.newN {H0 H : Hp} {l : List (Addr × HO)} {p : Addr} {o : HO} (M : Mkg [] H0 H l) (hp : H p = none) : Mkg [] H0 (upd H p o) (l ++ [(p, o)]) := M.new (fun q hq => by simp at hq) hp
theorem Mkg.oldN {H0 H : Hp} {l : List (Addr × HO)} {p : Addr} (M : Mkg [] H0 H l) (hp : H p = none) : H0 p = none := M.fresh hp (by simp)
theorem Mkg.same {S : List Addr} {H0 H H1 : Hp} {l : List (Addr × HO)} (M : Mkg S H0 H l) (s : L2.Same H H1) : Mkg S H0 H1 l := ⟨M.hs.same s, M.kp.trans (Kp.same s), M.nw⟩
theorem Mkg.add {S : List Addr} {H0 H : Hp} {l : List (Addr × HO)} {p : Addr} {o : HO} (M : Mkg S H0 H l) (e : H p = some o) (n0 : p ∈ S ∨ H0 p = none) (nl : ∀ q ∈ l, q.1 ≠ p) : Mkg S H0 H (l ++ [(p, o)]) := by
  refine ⟨⟨fun i a u h => ?_, ?_⟩, M.kp, fun q hq => ?_⟩
  · by_cases hi : i < l.length
    · rw [List.getElem?_append_left hi] at h
      exact M.hs.at_ i a u h
    · rw [List.getElem?_append_right (by omega)] at h
      have z : i - l.length = 0 := by
        cases q : i - l.length with
        | zero => rfl
        | succ m => rw [q] at h; simp at h
      rw [z] at h
      have e2 : (p, o) = (a, u) := by simpa using h
      injection e2 with e3 e4
      subst e3 e4
      exact e
  · rw [List.map_append, List.nodup_append]
    refine ⟨M.hs.nd, by simp, fun x hx y hy => ?_⟩
    have ey : y = p := by simpa using hy
    subst ey
    obtain ⟨q, hq, rfl⟩ := List.mem_map.mp hx
    exact nl q hq
  · rcases List.mem_append.mp hq with z | z
    · exact M.nw q z
    · rw [List.mem_singleton.mp z]
      exact n0
/-- H p = none: none of what is there stands at p -/
theorem Mkg.off {S : List Addr} {H0 H : Hp} {l : List (Addr × HO)} {p : Addr} (M : Mkg S H0 H l) (hp : H p = none) : ∀ q ∈ l, q.1 ≠ p := fun _ hq => ne_of_none (M.hs.mem hq) hp
theorem made_same {H H1 : Hp} {x dx : Addr} {o o' : HO} (hx : H x = none) (hd : H dx = none) (k : Kp [x] (upd (upd H dx o) x o') H1) : L2.Same H H1 := fun q u e => k q u (by
  rw [List.mem_singleton]
  exact ne_of_none e hx) (by
  rw [upd_ne (ne_of_none e hx), upd_ne (ne_of_none e hd)]
  exact e)
section
variable {A : StA} {D : StD}
theorem pf_line_book {p : Addr} : putF "line_book" (.ref p) (stF A D) = stF { A with lb := p } D := by rfl
theorem lf_line_book : (stF A D).lookup ("line_book" : Str) = some (V.ref A.lb) := by rfl
theorem pf_line_count {i : Int} : putF "line_count" (.int i) (stF A D) = stF A { D with lc := i } := by rfl
theorem lf_line_count : (stF A D).lookup ("line_count" : Str) = some (V.int D.lc) := by rfl
theorem pf_file_count {i : Int} : putF "file_count" (.int i) (stF A D) = stF A { D with fc := i } := by rfl
theorem lf_file_count : (stF A D).lookup ("file_count" : Str) = some (V.int D.fc) := by rfl
theorem pf_version_book {p : Addr} : putF "version_book" (.ref p) (stF A D) = stF { A with vb := p } D := by rfl
theorem lf_version_book : (stF A D).lookup ("version_book" : Str) = some (V.ref A.vb) := by rfl
theorem pf_version_count {i : Int} : putF "version_count" (.int i) (stF A D) = stF A { D with vc := i } := by rfl
theorem lf_version_count : (stF A D).lookup ("version_count" : Str) = some (V.int D.vc) := by rfl
theorem pf_head_book {p : Addr} : putF "head_book" (.ref p) (stF A D) = stF { A with hb := p } D := by rfl
theorem lf_head_book : (stF A D).lookup ("head_book" : Str) = some (V.ref A.hb) := by rfl
theorem pf_waiting_texts {p : Addr} : putF "waiting_texts" (.ref p) (stF A D) = stF { A with wt := p } D := by rfl
theorem lf_waiting_texts : (stF A D).lookup ("waiting_texts" : Str) = some (V.ref A.wt) := by rfl
theorem pf_block_texts {p : Addr} : putF "block_texts" (.ref p) (stF A D) = stF { A with bt := p } D := by rfl
theorem lf_block_texts : (stF A D).lookup ("block_texts" : Str) = some (V.ref A.bt) := by rfl
theorem pf_kept_book {p : Addr} : putF "kept_book" (.ref p) (stF A D) = stF { A with kb := p } D := by rfl
theorem lf_kept_book : (stF A D).lookup ("kept_book" : Str) = some (V.ref A.kb) := by rfl
theorem pf_watch_book {p : Addr} : putF "watch_book" (.ref p) (stF A D) = stF { A with ob := p } D := by rfl
theorem lf_watch_book : (stF A D).lookup ("watch_book" : Str) = some (V.ref A.ob) := by rfl
theorem pf_notice_rows {p : Addr} : putF "notice_rows" (.ref p) (stF A D) = stF { A with nr := p } D := by rfl
theorem lf_notice_rows : (stF A D).lookup ("notice_rows" : Str) = some (V.ref A.nr) := by rfl
theorem pf_notice_count {i : Int} : putF "notice_count" (.int i) (stF A D) = stF A { D with nc := i } := by rfl
theorem lf_notice_count : (stF A D).lookup ("notice_count" : Str) = some (V.int D.nc) := by rfl
end
theorem len_stF {A : StA} {D : StD} : (stF A D).length < 1000 := by
  show 12 < 1000
  decide
section
variable {P : Program} {w : World} {K : PySem.W.Frag} {mg : Str → Option Value} {base : Heap}
def spTwin (K : PySem.W.Frag) : Sp := fun vs H Q _ => ∃ (s : Addr) (A : StA) (D : StD), vs = [.ref s] ∧ StAt K H s A D ∧
  ∀ H' s' A', Same H H' → StAt K H' s' A' D → (∀ q ∈ [s', A'.lb, A'.vb, A'.hb, A'.kb, A'.ob], H q = none) → Q (.ref s') H'
abbrev N_State_twin : List Str := ["self", "other"]
theorem sc_State_twin : FnScope N_State_twin ["self"] (defScope s_State_twin) := ⟨rfl, rfl, rfl, by decide +kernel, rfl, by decide +kernel, by decide +kernel⟩
theorem ok_twin (T : Wt K mg) : Def P w K mg base 3 d_State_twin ["self"] (spTwin K) := by
  have D_State_init := ok_stinit (P := P) (w := w) (base := base) T
  refine mk_def (F_State_twin T) rfl sc_State_twin (fun vs H Q E h => ?_) (fun _ _ _ _ _ _ us hl => match us, hl with | [_], _ => rfl) (fun cdv A outer s H vs Q E hr h => ?_)
  · obtain ⟨s, A, D, rfl, _⟩ := h
    rfl
  · have sc := sc_State_twin
    obtain ⟨s0, A0, D, rfl, hS, q⟩ := h
    refine ⟨_, (pss_cons (ps_set (i := 1) sc.nd rfl (Or.inl rfl) (pmake0 (k_State T) D_State_init rfl (hr.mono (by decide)) (by rfl) (g_State T) passL))
      (pss_cons (ps_asg (pe_tup (pa_cons (pe_callTy (T := "dict") call_dictD (by rfl) (z_dict T) (by decide +kernel) (pa_cons (pe_fld (pv 0) rfl) pa_nil)) (pa_cons (pe_fld (pv 0) rfl) pa_nil))) (pg_tup rfl (pgs_cons (pg_fld (pv 1)) (pgs_cons (pg_fld (pv 1)) pgs_nil))))
      (pss_cons (ps_asg (pe_tup (pa_cons (pe_callTy (T := "dict") call_dictD (by rfl) (z_dict T) (by decide +kernel) (pa_cons (pe_fld (pv 0) rfl) pa_nil)) (pa_cons (pe_fld (pv 0) rfl) pa_nil))) (pg_tup rfl (pgs_cons (pg_fld (pv 1)) (pgs_cons (pg_fld (pv 1)) pgs_nil))))
      (pss_cons (ps_asg (pe_tup (pa_cons (pe_callTy (T := "dict") call_dictD (by rfl) (z_dict T) (by decide +kernel) (pa_cons (pe_fld (pv 0) rfl) pa_nil)) (pa_cons (pe_fld (pv 0) rfl) pa_nil))) (pg_tup rfl (pgs_cons (pg_fld (pv 1)) (pgs_cons (pg_fld (pv 1)) pgs_nil))))
      (pss_cons (ps_asg (pe_tup (pa_cons (pe_fld (pv 0) rfl) (pa_cons (pe_fld (pv 0) rfl) pa_nil))) (pg_tup rfl (pgs_cons (pg_fld (pv 1)) (pgs_cons (pg_fld (pv 1)) pgs_nil))))
      (pss_cons (ps_asg (pe_tup (pa_cons (pe_callTy (T := "dict") call_dictD (by rfl) (z_dict T) (by decide +kernel) (pa_cons (pe_fld (pv 0) rfl) pa_nil)) (pa_cons (pe_callTy (T := "dict") call_dictD (by rfl) (z_dict T) (by decide +kernel) (pa_cons (pe_fld (pv 0) rfl) pa_nil)) pa_nil))) (pg_tup rfl (pgs_cons (pg_fld (pv 1)) (pgs_cons (pg_fld (pv 1)) pgs_nil))))
      (pss_cons (ps_asg (pe_tup (pa_cons (pe_fld (pv 0) rfl) (pa_cons (pe_fld (pv 0) rfl) pa_nil))) (pg_tup rfl (pgs_cons (pg_fld (pv 1)) (pgs_cons (pg_fld (pv 1)) pgs_nil))))
      (pss_one (ps_ret (pv 1)))))))))), ?_⟩
    have c := c_State T
    have z2 : (2 : Nat) ≤ sizeLine := by decide
    have src : ∀ {H' : Hp}, Kp [] H H' → StAt K H' s0 A0 D := fun k => hS.same k.to_same
    obtain ⟨bk, hbk, ebk⟩ := hS.book
    obtain ⟨vk, hvk, evk⟩ := hS.vers
    refine fun x dx hx hdx hne => ⟨x, dx, rfl, upd_same, fun H1 A1 kp1 S1 fr1 ed => ⟨rfl, set_ ?_⟩⟩
    have s1 := made_same hx hdx kp1
    have M : Mkg [] H H1 [(x, .ins (cSt K) A1.dx (stF A1 stD0))] := ⟨(Mkg.start1 (S := [x]) S1.ins (by simp)).hs, Kp.same s1, fun p hp => by rw [List.mem_singleton.mp hp]; exact .inr hx⟩
    have nx : H x = none := hx
    refine ⟨_, rfl, s0, _, A0.dx, _, _, rfl, (src M.kp).ins, c, n_State_line_book T, lf_line_book, _, _, rfl, .inl (M.kp.to_same _ _ hbk), fun qlb hlb => ?_⟩
    have flb := M.oldN hlb
    have Mlb := M.newN (o := .dK bk) hlb
    refine ⟨_, rfl, s0, _, A0.dx, _, _, rfl, (src Mlb.kp).ins, c, n_State_line_count T, lf_line_count, ?_⟩
    refine ⟨z2, fun t1 ht1 => ?_⟩
    have N1 := Mlb.newN (o := .tup [.ref qlb, .int D.lc]) ht1
    refine ⟨t1, _, rfl, SqT.of upd_same, rfl, _, _, rfl, _, rfl, x, _, _, _, rfl, N1.get 0, c, n_State_line_book T, len_stF, ?_⟩
    have K1 := N1.put 0 (u := .ins (cSt K) A1.dx (stF ⟨A1.dx, qlb, A1.vb, A1.hb, A1.wt, A1.bt, A1.kb, A1.ob, A1.nr⟩ ⟨[], 0, 0, [], 1, [], [], [], [], 0⟩))
    rw [pf_line_book]
    refine ⟨_, _, rfl, _, rfl, x, _, _, _, rfl, K1.get 0, c, n_State_line_count T, len_stF, ?_⟩
    rw [pf_line_count]
    refine ⟨rfl, Mkg.gset (u := .ins (cSt K) A1.dx (stF ⟨A1.dx, qlb, A1.vb, A1.hb, A1.wt, A1.bt, A1.kb, A1.ob, A1.nr⟩ ⟨[], D.lc, 0, [], 1, [], [], [], [], 0⟩)) K1 fun G1 M => ?_⟩
    refine ⟨_, rfl, s0, _, A0.dx, _, _, rfl, (src M.kp).ins, c, n_State_version_book T, lf_version_book, _, _, rfl, .inl (M.kp.to_same _ _ hvk), fun qvb hvb => ?_⟩
    have fvb := M.oldN hvb
    have Mvb := M.newN (o := .dK vk) hvb
    refine ⟨_, rfl, s0, _, A0.dx, _, _, rfl, (src Mvb.kp).ins, c, n_State_version_count T, lf_version_count, ?_⟩
    refine ⟨z2, fun t2 ht2 => ?_⟩
    have N2 := Mvb.newN (o := .tup [.ref qvb, .int D.vc]) ht2
    refine ⟨t2, _, rfl, SqT.of upd_same, rfl, _, _, rfl, _, rfl, x, _, _, _, rfl, N2.get 0, c, n_State_version_book T, len_stF, ?_⟩
    have K2 := N2.put 0 (u := .ins (cSt K) A1.dx (stF ⟨A1.dx, qlb, qvb, A1.hb, A1.wt, A1.bt, A1.kb, A1.ob, A1.nr⟩ ⟨[], D.lc, 0, [], 1, [], [], [], [], 0⟩))
    rw [pf_version_book]
    refine ⟨_, _, rfl, _, rfl, x, _, _, _, rfl, K2.get 0, c, n_State_version_count T, len_stF, ?_⟩
    rw [pf_version_count]
    refine ⟨rfl, Mkg.gset (u := .ins (cSt K) A1.dx (stF ⟨A1.dx, qlb, qvb, A1.hb, A1.wt, A1.bt, A1.kb, A1.ob, A1.nr⟩ ⟨[], D.lc, 0, [], D.vc, [], [], [], [], 0⟩)) K2 fun G2 M => ?_⟩
    refine ⟨_, rfl, s0, _, A0.dx, _, _, rfl, (src M.kp).ins, c, n_State_head_book T, lf_head_book, _, _, rfl, .inl (M.kp.to_same _ _ hS.heads), fun qhb hhb => ?_⟩
    have fhb := M.oldN hhb
    have Mhb := M.newN (o := .dK (headK D.heads)) hhb
    refine ⟨_, rfl, s0, _, A0.dx, _, _, rfl, (src Mhb.kp).ins, c, n_State_file_count T, lf_file_count, ?_⟩
    refine ⟨z2, fun t3 ht3 => ?_⟩
    have N3 := Mhb.newN (o := .tup [.ref qhb, .int D.fc]) ht3
    refine ⟨t3, _, rfl, SqT.of upd_same, rfl, _, _, rfl, _, rfl, x, _, _, _, rfl, N3.get 0, c, n_State_head_book T, len_stF, ?_⟩
    have K3 := N3.put 0 (u := .ins (cSt K) A1.dx (stF ⟨A1.dx, qlb, qvb, qhb, A1.wt, A1.bt, A1.kb, A1.ob, A1.nr⟩ ⟨[], D.lc, 0, [], D.vc, [], [], [], [], 0⟩))
    rw [pf_head_book]
    refine ⟨_, _, rfl, _, rfl, x, _, _, _, rfl, K3.get 0, c, n_State_file_count T, len_stF, ?_⟩
    rw [pf_file_count]
    refine ⟨rfl, Mkg.gset (u := .ins (cSt K) A1.dx (stF ⟨A1.dx, qlb, qvb, qhb, A1.wt, A1.bt, A1.kb, A1.ob, A1.nr⟩ ⟨[], D.lc, D.fc, [], D.vc, [], [], [], [], 0⟩)) K3 fun G3 M => ?_⟩
    refine ⟨_, rfl, s0, _, A0.dx, _, _, rfl, (src M.kp).ins, c, n_State_waiting_texts T, lf_waiting_texts, ?_⟩
    refine ⟨_, rfl, s0, _, A0.dx, _, _, rfl, (src M.kp).ins, c, n_State_block_texts T, lf_block_texts, ?_⟩
    refine ⟨z2, fun t4 ht4 => ?_⟩
    have N4 := M.newN (o := .tup [.ref A0.wt, .ref A0.bt]) ht4
    refine ⟨t4, _, rfl, SqT.of upd_same, rfl, _, _, rfl, _, rfl, x, _, _, _, rfl, N4.get 0, c, n_State_waiting_texts T, len_stF, ?_⟩
    have K4 := N4.put 0 (u := .ins (cSt K) A1.dx (stF ⟨A1.dx, qlb, qvb, qhb, A0.wt, A1.bt, A1.kb, A1.ob, A1.nr⟩ ⟨[], D.lc, D.fc, [], D.vc, [], [], [], [], 0⟩))
    rw [pf_waiting_texts]
    refine ⟨_, _, rfl, _, rfl, x, _, _, _, rfl, K4.get 0, c, n_State_block_texts T, len_stF, ?_⟩
    rw [pf_block_texts]
    refine ⟨rfl, Mkg.gset (u := .ins (cSt K) A1.dx (stF ⟨A1.dx, qlb, qvb, qhb, A0.wt, A0.bt, A1.kb, A1.ob, A1.nr⟩ ⟨[], D.lc, D.fc, [], D.vc, [], [], [], [], 0⟩)) K4 fun G4 M => ?_⟩
    refine ⟨_, rfl, s0, _, A0.dx, _, _, rfl, (src M.kp).ins, c, n_State_kept_book T, lf_kept_book, _, _, rfl, .inl (M.kp.to_same _ _ hS.kept), fun qkb hkb => ?_⟩
    have fkb := M.oldN hkb
    have Mkb := M.newN (o := .dK D.kept) hkb
    refine ⟨_, rfl, s0, _, A0.dx, _, _, rfl, (src Mkb.kp).ins, c, n_State_watch_book T, lf_watch_book, _, _, rfl, .inl (Mkb.kp.to_same _ _ hS.watch), fun qob hob => ?_⟩
    have fob := Mkb.oldN hob
    have Mob := Mkb.newN (o := .dK D.watch) hob
    refine ⟨z2, fun t5 ht5 => ?_⟩
    have N5 := Mob.newN (o := .tup [.ref qkb, .ref qob]) ht5
    refine ⟨t5, _, rfl, SqT.of upd_same, rfl, _, _, rfl, _, rfl, x, _, _, _, rfl, N5.get 0, c, n_State_kept_book T, len_stF, ?_⟩
    have K5 := N5.put 0 (u := .ins (cSt K) A1.dx (stF ⟨A1.dx, qlb, qvb, qhb, A0.wt, A0.bt, qkb, A1.ob, A1.nr⟩ ⟨[], D.lc, D.fc, [], D.vc, [], [], [], [], 0⟩))
    rw [pf_kept_book]
    refine ⟨_, _, rfl, _, rfl, x, _, _, _, rfl, K5.get 0, c, n_State_watch_book T, len_stF, ?_⟩
    rw [pf_watch_book]
    refine ⟨rfl, Mkg.gset (u := .ins (cSt K) A1.dx (stF ⟨A1.dx, qlb, qvb, qhb, A0.wt, A0.bt, qkb, qob, A1.nr⟩ ⟨[], D.lc, D.fc, [], D.vc, [], [], [], [], 0⟩)) K5 fun G5 M => ?_⟩
    refine ⟨_, rfl, s0, _, A0.dx, _, _, rfl, (src M.kp).ins, c, n_State_notice_rows T, lf_notice_rows, ?_⟩
    refine ⟨_, rfl, s0, _, A0.dx, _, _, rfl, (src M.kp).ins, c, n_State_notice_count T, lf_notice_count, ?_⟩
    refine ⟨z2, fun t6 ht6 => ?_⟩
    have N6 := M.newN (o := .tup [.ref A0.nr, .int D.nc]) ht6
    refine ⟨t6, _, rfl, SqT.of upd_same, rfl, _, _, rfl, _, rfl, x, _, _, _, rfl, N6.get 0, c, n_State_notice_rows T, len_stF, ?_⟩
    have K6 := N6.put 0 (u := .ins (cSt K) A1.dx (stF ⟨A1.dx, qlb, qvb, qhb, A0.wt, A0.bt, qkb, qob, A0.nr⟩ ⟨[], D.lc, D.fc, [], D.vc, [], [], [], [], 0⟩))
    rw [pf_notice_rows]
    refine ⟨_, _, rfl, _, rfl, x, _, _, _, rfl, K6.get 0, c, n_State_notice_count T, len_stF, ?_⟩
    rw [pf_notice_count]
    refine ⟨rfl, Mkg.gset (u := .ins (cSt K) A1.dx (stF ⟨A1.dx, qlb, qvb, qhb, A0.wt, A0.bt, qkb, qob, A0.nr⟩ ⟨[], D.lc, D.fc, [], D.vc, [], [], [], [], D.nc⟩)) K6 fun G6 M => ?_⟩
    have sm := M.kp.to_same
    have S6 := src M.kp
    obtain ⟨x1, x2⟩ := S6.bt
    obtain ⟨y1, y2⟩ := S6.nr
    refine ⟨_, rfl, q G6 x ⟨A1.dx, qlb, qvb, qhb, A0.wt, A0.bt, qkb, qob, A0.nr⟩ sm ⟨M.get 0, ⟨bk, M.get 1, ebk.mono fun _ _ z => z.ts (same_ts sm)⟩, ⟨vk, M.get 3, evk.mono fun _ _ z => z.ts (same_ts sm)⟩, M.get 5, S6.wait, ⟨x1, x2⟩, M.get 8, M.get 9, ⟨y1, y2⟩, ?_⟩ ?_⟩
    · exact M.hs.nd.sublist (.cons₂ _ (.cons₂ _ (.cons _ (.cons₂ _ (.cons _ (.cons₂ _ (.cons _ (.cons _ (.cons₂ _ (.cons₂ _ (.cons _ (.cons _ .slnil))))))))))))
    · intro r hr
      have z : r = x ∨ r = qlb ∨ r = qvb ∨ r = qhb ∨ r = qkb ∨ r = qob := by simpa using hr
      rcases z with e | e | e | e | e | e <;> rw [e] <;> assumption
/-! ### a disk, a store -/
abbrev cDk (K : PySem.W.Frag) : Addr := He.ga K "Disk"
abbrev cSto (K : PySem.W.Frag) : Addr := He.ga K "Store"
def spDkInit (K : PySem.W.Frag) : Sp := fun vs H Q _ => ∃ x dx z, vs = [.ref x, .str z] ∧ H x = some (.ins (cDk K) dx []) ∧ ∀ H' g, Kp [x] H H' → H' x = some (.ins (cDk K) dx [("elder_text", .str z), ("groups", .ref g)]) → H' g = some (.lst []) → H g = none → Q .non H'
abbrev N_Disk_init : List Str := ["self", "elder_text"]
theorem sc_Disk_init : FnScope N_Disk_init ["self", "elder_text"] (defScope s_Disk_init) := ⟨rfl, rfl, rfl, by decide +kernel, rfl, by decide +kernel, by decide +kernel⟩
theorem ok_dkinit (T : Wt K mg) : DefW P w K mg base 1 d_Disk_init ["self", "elder_text"] [.str "done 0\n"] (spDkInit K) := by
  refine mk_defW (F_Disk_init T) (by decide) rfl sc_Disk_init (fun vs H Q E h => ?_) (fun F => ?_) (fun cdv A outer s H vs Q E hr h => ?_)
  · obtain ⟨x, dx, z, rfl, _⟩ := h
    rfl
  · refine F.binds1 1 0 (by simp) rfl fun T kV doc pm an cdv ct us its h1 h2 => ?_
    match us, its, h1, h2 with
    | [u], [i], _, _ => exact ⟨_, rfl, rfl⟩
  · have sc := sc_Disk_init
    obtain ⟨x, dx, z, rfl, hx, q⟩ := h
    refine ⟨_, (pss_cons (ps_fld (pv 0) (pv 1) rfl)
      (pss_one (ps_fld (pv 0) (pe_lst pa_nil) rfl))), ?_⟩
    have c := c_Disk T
    have M := Mkg.start1 hx (List.mem_singleton.mpr rfl)
    refine ⟨_, rfl, _, rfl, x, _, dx, _, rfl, M.get 0, c, n_Disk_elder_text T, (by show 0 < 1000; decide), M.fput fun H1 M => ?_⟩
    refine ⟨(by show 0 ≤ sizeLine; decide), fun g hg => ⟨_, rfl, x, _, dx, _, rfl, (M.new M.one hg).get 0, c, n_Disk_groups T, (by show 1 < 1000; decide), M.fnew hg fun H2 M f2 => ?_⟩⟩
    exact q _ g M.kp (M.get 0) (M.get 1) f2
/-- a store, outside of trials -/
abbrev stoF (dk st : Addr) : List (Str × V) := [("disk", .ref dk), ("inside", .non), ("depth", .int 0), ("trials_begun", .int 0), ("state", .ref st)]
theorem pf_sto {dk st p : Addr} : putF "state" (.ref p) (stoF dk st) = stoF dk p := by rfl
structure StoAt (K : PySem.W.Frag) (H : Hp) (x dx dk g st : Addr) : Prop where
  ins : H x = some (.ins (cSto K) dx (stoF dk st))
  disk : ∃ dd z, H dk = some (.ins (cDk K) dd [("elder_text", .str z), ("groups", .ref g)])
  groups : ∃ xs, H g = some (.lst xs)
  nd : [x, dk, g].Nodup
theorem StoAt.kp {K : PySem.W.Frag} {H H' : Hp} {x dx dk g st : Addr} {S : List Addr} (h : StoAt K H x dx dk g st) (k : Kp S H H') (hS : ∀ q ∈ [x, dk, g], q ∉ S) : StoAt K H' x dx dk g st := by
  obtain ⟨dd, z, e⟩ := h.disk
  obtain ⟨xs, e2⟩ := h.groups
  exact ⟨k _ _ (hS _ (by simp)) h.ins, ⟨dd, z, k _ _ (hS _ (by simp)) e⟩, ⟨xs, k _ _ (hS _ (by simp)) e2⟩, h.nd⟩
theorem StoAt.same {K : PySem.W.Frag} {H H' : Hp} {x dx dk g st : Addr} (h : StoAt K H x dx dk g st) (k : L2.Same H H') : StoAt K H' x dx dk g st := h.kp (Kp.same (S := []) k) (fun _ _ => by simp)
def spStoInit (K : PySem.W.Frag) : Sp := fun vs H Q _ => ∃ x dx, vs = [.ref x] ∧ H x = some (.ins (cSto K) dx []) ∧
  ∀ H' dk g st A, Kp [x] H H' → StoAt K H' x dx dk g st → H' g = some (.lst []) → StAt K H' st A stD0 → (∀ q ∈ [dk, g, st, A.lb, A.vb, A.hb, A.kb, A.ob], H q = none) → Q .non H'
abbrev N_Store_init : List Str := ["self"]
theorem sc_Store_init : FnScope N_Store_init ["self"] (defScope s_Store_init) := ⟨rfl, rfl, rfl, by decide +kernel, rfl, by decide +kernel, by decide +kernel⟩
theorem ok_stoinit (T : Wt K mg) : Def P w K mg base 3 d_Store_init ["self"] (spStoInit K) := by
  have D_State_init := ok_stinit (P := P) (w := w) (base := base) T
  have D_Disk_init := ok_dkinit (P := P) (w := w) (base := base) T
  refine mk_def (F_Store_init T) rfl sc_Store_init (fun vs H Q E h => ?_) (fun _ _ _ _ _ _ us hl => match us, hl with | [_], _ => rfl) (fun cdv A outer s H vs Q E hr h => ?_)
  · obtain ⟨x, dx, rfl, _⟩ := h
    rfl
  · have sc := sc_Store_init
    obtain ⟨x, dx, rfl, hx, q⟩ := h
    refine ⟨_, (pss_cons (ps_fld (pv 0) (pmakeW0 (k_Disk T) D_Disk_init rfl (hr.mono (by decide)) (by rfl) (g_Disk T) passL) rfl)
      (pss_cons (ps_fld (pv 0) pe_non rfl)
      (pss_cons (ps_fld (pv 0) pe_int rfl)
      (pss_cons (ps_fld (pv 0) pe_int rfl)
      (pss_one (ps_fld (pv 0) (pmake0 (k_State T) D_State_init rfl (hr.mono (by decide)) (by rfl) (g_State T) passL) rfl)))))), ?_⟩
    have c := c_Store T
    have M := Mkg.start1 hx (List.mem_singleton.mpr rfl)
    refine fun k dk hk hdk hne => ⟨k, dk, _, rfl, upd_same, fun H1 g kp1 e1 e2 g0 => ⟨rfl, ?_⟩⟩
    have sm := made_same hk hdk kp1
    have g1 : H g = none := by
      have ng : g ≠ k := fun z => by
        rw [z, upd_same] at g0
        cases g0
      rw [upd_ne ng] at g0
      by_cases z : g = dk
      · rw [z]; exact hdk
      · rw [upd_ne z] at g0; exact g0
    have ngk : k ≠ g := fun z => by
      rw [← z, upd_same] at g0
      cases g0
    have M := ((M.same sm).add e1 (.inr hk) (M.off hk)).add e2 (.inr g1) (fun q hq => by
      rcases List.mem_append.mp hq with z | z
      · exact M.off g1 q z
      · rw [List.mem_singleton.mp z]; exact ngk)
    refine ⟨_, rfl, x, _, dx, _, rfl, M.get 0, c, n_Store_disk T, (by show 0 < 1000; decide), M.fput fun H2 M => ?_⟩
    refine ⟨_, rfl, x, _, dx, _, rfl, M.get 0, c, n_Store_inside T, (by show 1 < 1000; decide), M.fput fun H3 M => ?_⟩
    refine ⟨_, rfl, x, _, dx, _, rfl, M.get 0, c, n_Store_depth T, (by show 2 < 1000; decide), M.fput fun H4 M => ?_⟩
    refine ⟨_, rfl, x, _, dx, _, rfl, M.get 0, c, n_Store_trials_begun T, (by show 3 < 1000; decide), M.fput fun H5 M => ?_⟩
    refine fun t dt ht hdt hne2 => ⟨t, dt, rfl, upd_same, fun H6 A kp6 S6 fr6 ed => ⟨rfl, ?_⟩⟩
    have sm6 := made_same ht hdt kp6
    have t0 := M.none0 M.one ht
    have ntx : x ≠ t := ne_of_none (M.get 0) ht
    have M0 := M
    have M := M.same sm6
    have fr : ∀ q ∈ [A.lb, A.vb, A.hb, A.kb, A.ob], H5 q = none := fun q hq => by
      have z := fr6 q hq
      have n1 : q ≠ t := fun w => by rw [w, upd_same] at z; cases z
      rw [upd_ne n1] at z
      by_cases w : q = dt
      · rw [w]; exact hdt
      · rw [upd_ne w] at z; exact z
    refine ⟨_, rfl, x, _, dx, _, rfl, M.get 0, c, n_Store_state T, (by show 4 < 1000; decide), ?_⟩
    have M7 := M.put 0 (u := .ins (cSto K) dx (stoF k t))
    have kx : Kp [x] H6 (upd H6 x (.ins (cSto K) dx (stoF k t))) := (Kp.refl _ _).put (by simp)
    have ts7 : TSame H6 (upd H6 x (.ins (cSto K) dx (stoF k t))) := fun b xs e => by
      rw [upd_ne (ne_of e (M.get 0) (by intro z; cases z))]
      exact e
    have nx : ∀ q, H5 q = none → q ∉ [x] := fun q hq z => by
      have z2 : q = x := by simpa using z
      rw [z2, M0.get 0] at hq
      cases hq
    have all5 : ∀ q ∈ [t, A.lb, A.vb, A.hb, A.kb, A.ob], H5 q = none := fun q hq => by
      rcases List.mem_cons.mp hq with z | z
      · rw [z]; exact ht
      · exact fr q z
    refine q _ k g t A M7.kp ⟨M7.get 0, ⟨dk, _, M7.get 1⟩, ⟨[], M7.get 2⟩, M7.hs.nd⟩ (M7.get 2) (S6.kp kx (fun q hq => nx q (all5 q hq)) ts7) (fun q hq => ?_)
    have hq2 : q = k ∨ q = g ∨ q ∈ [t, A.lb, A.vb, A.hb, A.kb, A.ob] := by simpa using hq
    rcases hq2 with z | z | z
    · rw [z]; exact hk
    · rw [z]; exact g1
    · exact M0.none0 M0.one (all5 q z)
/-! ### its small defs -/
def spTrialNo (K : PySem.W.Frag) : Sp := fun vs H Q _ => ∃ x dx dk g st, vs = [.ref x] ∧ StoAt K H x dx dk g st ∧ Q (.int 0) H
abbrev N_Store_trial_number : List Str := ["self"]
theorem sc_Store_trial_number : FnScope N_Store_trial_number ["self"] (defScope s_Store_trial_number) := ⟨rfl, rfl, rfl, by decide +kernel, rfl, by decide +kernel, by decide +kernel⟩
theorem ok_trialno (T : Wt K mg) : Def P w K mg base 1 d_Store_trial_number ["self"] (spTrialNo K) := by
  refine mk_def (F_Store_trial_number T) rfl sc_Store_trial_number (fun vs H Q E h => ?_) (fun _ _ _ _ _ _ us hl => match us, hl with | [_], _ => rfl) (fun cdv A outer s H vs Q E hr h => ?_)
  · obtain ⟨x, dx, dk, g, st, rfl, _⟩ := h
    rfl
  · have sc := sc_Store_trial_number
    obtain ⟨x, dx, dk, g, st, rfl, hx, q⟩ := h
    refine ⟨_, (pss_one (ps_ret (pe_ifExp (pt_cmpR op_isN (pe_fld (pv 0) rfl) pe_non (nomark _)) pe_int (pe_fld (pe_fld (pv 0) rfl) rfl)))), ?_⟩
    have c := c_Store T
    exact ⟨_, rfl, x, _, dx, _, _, rfl, hx.ins, c, n_Store_inside T, rfl, rfl, _, rfl, itd (fun _ => q) (fun z => absurd rfl z)⟩
def spFinish (K : PySem.W.Frag) : Sp := fun vs H Q _ => ∃ x dx dk g st st' v, vs = [.ref x, .ref st', v] ∧ StoAt K H x dx dk g st ∧ (∃ xs, H g = some (.lst xs) ∧ xs.length ≤ 1000) ∧ ∀ H', Kp [x, g] H H' → TSame H H' → (∃ xs, H' g = some (.lst xs)) → H' x = some (.ins (cSto K) dx (stoF dk st')) → Q .non H'
abbrev N_Store_finish : List Str := ["self", "state", "deed"]
theorem sc_Store_finish : FnScope N_Store_finish ["self", "state", "deed"] (defScope s_Store_finish) := ⟨rfl, rfl, rfl, by decide +kernel, rfl, by decide +kernel, by decide +kernel⟩
theorem ok_finish (T : Wt K mg) : Def P w K mg base 1 d_Store_finish ["self", "state", "deed"] (spFinish K) := by
  refine mk_def (F_Store_finish T) rfl sc_Store_finish (fun vs H Q E h => ?_) (fun _ _ _ _ _ _ us hl => match us, hl with | [_, _, _], _ => rfl) (fun cdv A outer s H vs Q E hr h => ?_)
  · obtain ⟨x, dx, dk, g, st, st', v, rfl, _⟩ := h
    rfl
  · have sc := sc_Store_finish
    obtain ⟨x, dx, dk, g, st, st', v, rfl, hx, ⟨xs, hg, hl⟩, q⟩ := h
    refine ⟨_, (pss_cons (ps_fld (pv 0) (pv 1) rfl)
      (pss_one (ps_if (pt_cmpR op_isN (pe_fld (pv 0) rfl) pe_non (nomark _))
        (pss_one (ps_expr (pe_bm PySem.F.plainAttrs_list PySem.F.slot_list_append PySem.F.type_list_append mt_append (pe_fld (pe_fld (pv 0) rfl) rfl) (pa_cons (pe_lst (pa_cons (pv 2) pa_nil)) pa_nil))))
        (pss_one (ps_expr (pe_bm PySem.F.plainAttrs_list PySem.F.slot_list_append PySem.F.type_list_append mt_append (pe_fld (pe_fld (pv 0) rfl) rfl) (pa_cons (pv 2) pa_nil))))))), ?_⟩
    have c := c_Store T
    have cd := c_Disk T
    obtain ⟨dd, z, hd⟩ := hx.disk
    have nd := hx.nd
    have nxk : x ≠ dk := fun w => by rw [w] at nd; simp at nd
    have nxg : x ≠ g := fun w => by rw [w] at nd; simp at nd
    refine ⟨_, rfl, _, rfl, x, _, dx, _, rfl, hx.ins, c, n_Store_state T, (by show 5 < 1000; decide), ?_⟩
    rw [pf_sto]
    have h1 : (upd H x (.ins (cSto K) dx (stoF dk st'))) x = some (.ins (cSto K) dx (stoF dk st')) := upd_same
    have hd1 : (upd H x (.ins (cSto K) dx (stoF dk st'))) dk = some (.ins (cDk K) dd [("elder_text", .str z), ("groups", .ref g)]) := by
      rw [upd_ne (Ne.symm nxk)]
      exact hd
    have hg1 : (upd H x (.ins (cSto K) dx (stoF dk st'))) g = some (.lst xs) := by
      rw [upd_ne (Ne.symm nxg)]
      exact hg
    have k1 : Kp [x, g] H (upd H x (.ins (cSto K) dx (stoF dk st'))) := (Kp.refl _ _).put (by simp)
    have t1 : TSame H (upd H x (.ins (cSto K) dx (stoF dk st'))) := fun b ys e => by
      rw [upd_ne (ne_of e hx.ins (by intro z; cases z))]
      exact e
    generalize upd H x (.ins (cSto K) dx (stoF dk st')) = H1 at h1 hd1 hg1 k1 t1
    refine ⟨_, rfl, x, _, dx, _, _, rfl, h1, c, n_Store_inside T, rfl, rfl, _, rfl, itd (fun _ => ?_) (fun z => absurd rfl z)⟩
    refine ⟨_, rfl, x, _, dx, _, _, rfl, h1, c, n_Store_disk T, rfl, dk, _, dd, _, _, rfl, hd1, cd, n_Disk_groups T, rfl, ?_⟩
    refine ⟨.inl ⟨rfl, _, .inl (.inl hg1)⟩, _, rfl, (by show 1 ≤ sizeLine; decide), fun p hp => ⟨g, _, _, rfl, rfl, new_at hg1 hp, Nat.lt_of_le_of_lt hl (by decide), ?_⟩⟩
    have hpg := ne_of_none hg1 hp
    have hpx := ne_of_none h1 hp
    refine q _ ((k1.nw hp).put (by simp)) (fun b ys e => ?_) ⟨_, upd_same⟩ ?_
    · have z := t1 b ys e
      rw [upd_ne (ne_of z hg1 (by intro w; cases w)), upd_ne (ne_of_none z hp)]
      exact z
    · rw [upd_ne nxg, upd_ne hpx]
      exact h1
end
end Sk
/-! K93P: looks at a state. -/
namespace Sk
open PySem PySem.Spec PyProof.Rows L2
/-! ### books -/
section
variable {δ : Type} {R : Key × V → Int × δ → Prop}
theorem book_get (hR : ∀ q d, R q d → q.1 = .inl d.1) : ∀ {kvs : List (Key × V)} {l : List (Int × δ)}, All2 R kvs l → ∀ {j : Int} {d : δ}, l.lookup j = some d → ∃ v, valV kvs (.inl j) = some v ∧ R (.inl j, v) (j, d)
  | _, _, .nil, j, d, e => by simp at e
  | (k, v) :: kvs, (i, x) :: l, .cons r rs, j, d, e => by
    have hk : k = .inl i := hR _ _ r
    subst hk
    by_cases h : j = i
    · subst h
      have e2 : x = d := by simpa [List.lookup] using e
      subst e2
      exact ⟨v, valV_pos rfl, r⟩
    · have hb : (j == i) = false := by simpa using h
      have e2 : l.lookup j = some d := by simpa [List.lookup, hb] using e
      obtain ⟨u, h1, h2⟩ := book_get hR rs e2
      refine ⟨u, ?_, h2⟩
      rw [valV_neg (fun z => h (Sum.inl.inj z).symm)]
      exact h1
theorem book_no (hR : ∀ q d, R q d → q.1 = .inl d.1) : ∀ {kvs : List (Key × V)} {l : List (Int × δ)}, All2 R kvs l → ∀ {j : Int}, l.lookup j = none → valV kvs (.inl j) = none
  | _, _, .nil, j, e => rfl
  | (k, v) :: kvs, (i, x) :: l, .cons r rs, j, e => by
    have hk : k = .inl i := hR _ _ r
    subst hk
    by_cases h : j = i
    · subst h
      simp [List.lookup] at e
    · have hb : (j == i) = false := by simpa using h
      have e2 : l.lookup j = none := by simpa [List.lookup, hb] using e
      rw [valV_neg (fun z => h (Sum.inl.inj z).symm)]
      exact book_no hR rs e2
end
theorem head_get : ∀ {l : List (Str × Int)} {z : Str}, valV (headK l) (.inr z) = (l.lookup z).map V.int
  | [], z => rfl
  | (x, i) :: l, z => by
    show valV ((Sum.inr x, V.int i) :: headK l) (.inr z) = _
    by_cases h : z = x
    · subst h
      rw [valV_pos rfl]
      simp [List.lookup]
    · have hb : (z == x) = false := by simpa using h
      rw [valV_neg (fun w => h (Sum.inr.inj w).symm), head_get]
      simp [List.lookup, hb]
theorem line_key : ∀ {H : Hp} (q : Key × V) (d : Int × LD), LineV H q d → q.1 = .inl d.1 := fun _ _ h => h.1
theorem ver_key : ∀ {H : Hp} (q : Key × V) (d : Int × List Int × List FR), VerV H q d → q.1 = .inl d.1 := fun _ _ h => h.1
/-- of the kind n, or not -/
def IsKd (K : PySem.W.Frag) (H : Hp) (v : V) (n : String) (b : Bool) : Prop := ∃ t, TyX K H v t ∧ PySem.W.kitOne K t (.type n) = some b
/-- no integer for Python's eyes here: bools are none -/
def NoInt (K : PySem.W.Frag) (H : Hp) (v : V) : Prop := IsKd K H v "int" false ∨ (IsKd K H v "int" true ∧ IsKd K H v "bool" true)
section
variable {P : Program} {w : World} {K : PySem.W.Frag} {mg : Str → Option Value} {base : Heap}
theorem isk_int (H : Hp) (i : Int) : IsKd K H (.int i) "int" true ∧ IsKd K H (.int i) "bool" false ∧ IsKd K H (.int i) "str" false :=
  ⟨⟨.type "int", .base (.int i), by kernel_rfl⟩, ⟨.type "int", .base (.int i), by kernel_rfl⟩, ⟨.type "int", .base (.int i), by kernel_rfl⟩⟩
theorem isk_str (H : Hp) (z : Str) : IsKd K H (.str z) "str" true := ⟨.type "str", .base (.str z), by kernel_rfl⟩
def spIsInt (K : PySem.W.Frag) : Sp := fun vs H Q _ => ∃ v, vs = [v] ∧ ((IsKd K H v "int" true ∧ IsKd K H v "bool" false ∧ Q (.bl true) H) ∨ (NoInt K H v ∧ Q (.bl false) H))
abbrev N_is_integer : List Str := ["value"]
theorem sc_is_integer : FnScope N_is_integer ["value"] (defScope s_is_integer) := ⟨rfl, rfl, rfl, by decide +kernel, rfl, by decide +kernel, by decide +kernel⟩
theorem ok_is_integer (T : Wt K mg) : Def P w K mg base 1 d_is_integer ["value"] (spIsInt K) := by
  refine mk_def (F_is_integer T) rfl sc_is_integer (fun vs H Q E h => ?_) (fun _ _ _ _ _ _ us hl => match us, hl with | [_], _ => rfl) (fun cdv A outer s H vs Q E hr h => ?_)
  · obtain ⟨v, rfl, _⟩ := h
    rfl
  · have sc := sc_is_integer
    obtain ⟨v, rfl, h⟩ := h
    refine ⟨_, (pss_one (ps_ret (pe_and (pe_callB call_isi (by rfl) (z_isinstance T) (by decide +kernel) (pa_cons (pv 0) (pa_cons (pty (n := "int") (z_int T) (by decide +kernel)) pa_nil))) (pe_one (pe_not (pe_callB call_isi (by rfl) (z_isinstance T) (by decide +kernel) (pa_cons (pv 0) (pa_cons (pty (n := "bool") (z_bool T) (by decide +kernel)) pa_nil)))))))), ?_⟩
    rcases h with ⟨⟨t, t1, t2⟩, ⟨t', t3, t4⟩, q⟩ | ⟨⟨t, t1, t2⟩ | ⟨⟨t, t1, t2⟩, ⟨t', t3, t4⟩⟩, q⟩
    · refine ⟨_, rfl, v, .ty "int", t, .type "int", true, rfl, .ty _, t1, t2, true, rfl, ?_⟩
      exact ⟨_, rfl, v, .ty "bool", t', .type "bool", false, rfl, .ty _, t3, t4, false, rfl, q⟩
    · exact ⟨_, rfl, v, .ty "int", t, .type "int", false, rfl, .ty _, t1, t2, false, rfl, q⟩
    · refine ⟨_, rfl, v, .ty "int", t, .type "int", true, rfl, .ty _, t1, t2, true, rfl, ?_⟩
      exact ⟨_, rfl, v, .ty "bool", t', .type "bool", true, rfl, .ty _, t3, t4, true, rfl, q⟩
/-- where an error is told: of the class x, with the value v in its field f -/
def ErrV (K : PySem.W.Frag) (x f : Str) (v : V) (H : Hp) (E : XK) : Prop := ∀ d, H d = none → E (.ref (He.ga K x)) (some d) (upd H d (.xd [(f, v)]))
def spHeadOf (K : PySem.W.Frag) : Sp := fun vs H Q E => ∃ (s : Addr) (A : StA) (D : StD) (z : Str), vs = [.ref s, .str z] ∧ StAt K H s A D ∧ (∀ i, D.heads.lookup z = some i → Q (.int i) H) ∧ (D.heads.lookup z = none → ErrV K "NoBranch" "value" (.str z) H E)
abbrev N_head_of : List Str := ["state", "branch"]
theorem sc_head_of : FnScope N_head_of ["state", "branch"] (defScope s_head_of) := ⟨rfl, rfl, rfl, by decide +kernel, rfl, by decide +kernel, by decide +kernel⟩
theorem ok_head_of (G : PgOk P) (T : Wt K mg) : Def P w K mg base 3 d_head_of ["state", "branch"] (spHeadOf K) := by
  refine mk_defX (F_head_of T) rfl sc_head_of (fun vs H Q E h => ?_) (fun _ _ _ _ _ _ us hl => match us, hl with | [_, _], _ => rfl) (fun cdv A outer s H vs Q E hr h => ?_)
  · obtain ⟨s, A, D, z, rfl, _⟩ := h
    rfl
  · have sc := sc_head_of
    obtain ⟨s, A, D, z, rfl, hS, q1, q2⟩ := h
    refine ⟨_, (pss_cons (ps_if (PW.pt (pw_or (pt_not (pt_val (pe_callB call_isi (by rfl) (z_isinstance T) (by decide +kernel) (pa_cons (pv 1) (pa_cons (pty (n := "str") (z_str T) (by decide +kernel)) pa_nil))))) (pw_or1 (pt_cmp (pc_dnotin (hu_of hr) (pv 1) (pe_fld (pv 0) rfl))))))
        (pss_one (ps_raise rfl (takes_of rfl rfl rfl rfl) (pmk_err (r_NoBranch G T) (hr.mono (by decide)) (by rfl) (pa_cons (pv 1) pa_nil))))
        pss_nil)
      (pss_one (ps_ret (pe_dget (hu_of hr) (pe_fld (pv 0) rfl) (pv 1) (fun _ _ => rfl))))), ?_⟩
    have c := c_State T
    obtain ⟨t, t1, t2⟩ := isk_str (K := K) H z
    refine ⟨_, rfl, _, .ty "str", t, .type "str", true, rfl, .ty _, t1, t2, true, rfl, ?_⟩
    refine ⟨_, rfl, _, rfl, s, _, _, _, _, rfl, hS.ins, c, n_State_head_book T, lf_head_book, A.hb, _, rfl, DGet.k (k := .inr z) hS.heads, _, rfl, ?_⟩
    rw [head_get]
    cases e : D.heads.lookup z with
    | none => exact ⟨_, rfl, err_ (q2 e)⟩
    | some i => exact ⟨_, rfl, s, _, _, _, _, rfl, hS.ins, c, n_State_head_book T, lf_head_book, _, rfl, A.hb, .int i, rfl, by
        have z2 := DGet.k (k := .inr z) hS.heads
        rw [head_get, e] at z2
        exact z2, q1 i e⟩
def spKnownVer (K : PySem.W.Frag) : Sp := fun vs H Q E => ∃ (s : Addr) (A : StA) (D : StD) (v : V), vs = [.ref s, v] ∧ StAt K H s A D ∧
  ((∃ i x, v = .int i ∧ D.vers.lookup i = some x ∧ Q (.int i) H) ∨ (((∃ i, v = .int i ∧ D.vers.lookup i = none) ∨ NoInt K H v) ∧ ErrV K "NoVersion" "value" v H E))
abbrev N_known_version : List Str := ["state", "version"]
theorem sc_known_version : FnScope N_known_version ["state", "version"] (defScope s_known_version) := ⟨rfl, rfl, rfl, by decide +kernel, rfl, by decide +kernel, by decide +kernel⟩
theorem ok_known_version (G : PgOk P) (T : Wt K mg) : Def P w K mg base 3 d_known_version ["state", "version"] (spKnownVer K) := by
  have D_is_integer := ok_is_integer (P := P) (w := w) (base := base) T
  refine mk_defX (F_known_version T) rfl sc_known_version (fun vs H Q E h => ?_) (fun _ _ _ _ _ _ us hl => match us, hl with | [_, _], _ => rfl) (fun cdv A outer s H vs Q E hr h => ?_)
  · obtain ⟨s, A, D, v, rfl, _⟩ := h
    rfl
  · have sc := sc_known_version
    obtain ⟨s, A, D, v, rfl, hS, h⟩ := h
    refine ⟨_, (pss_cons (ps_if (PW.pt (pw_or (pt_not (pt_val (pcall D_is_integer (hr.mono (by decide)) (by rfl) (g_is_integer T) passL (pa_cons (pv 1) pa_nil)))) (pw_or1 (pt_cmp (pc_dnotin (hu_of hr) (pv 1) (pe_fld (pv 0) rfl))))))
        (pss_one (ps_raise rfl (takes_of rfl rfl rfl rfl) (pmk_err (r_NoVersion G T) (hr.mono (by decide)) (by rfl) (pa_cons (pv 1) pa_nil))))
        pss_nil)
      (pss_one (ps_ret (pv 1)))), ?_⟩
    have c := c_State T
    obtain ⟨kvs, hv, hl⟩ := hS.vers
    rcases h with ⟨i, x, rfl, e, q⟩ | ⟨⟨i, rfl, e⟩ | hn, q⟩
    · obtain ⟨i1, i2, _⟩ := isk_int (K := K) H i
      refine ⟨_, rfl, _, rfl, .inl ⟨i1, i2, true, rfl, ?_⟩⟩
      obtain ⟨u, e2, _⟩ := book_get ver_key hl e
      refine ⟨_, rfl, _, rfl, s, _, _, _, _, rfl, hS.ins, c, n_State_version_book T, lf_version_book, A.vb, _, rfl, DGet.k (k := .inl i) hv, _, rfl, ?_⟩
      rw [e2]
      exact ⟨_, rfl, q⟩
    · obtain ⟨i1, i2, _⟩ := isk_int (K := K) H i
      refine ⟨_, rfl, _, rfl, .inl ⟨i1, i2, true, rfl, ?_⟩⟩
      have e2 := book_no ver_key hl e
      refine ⟨_, rfl, _, rfl, s, _, _, _, _, rfl, hS.ins, c, n_State_version_book T, lf_version_book, A.vb, _, rfl, DGet.k (k := .inl i) hv, _, rfl, ?_⟩
      rw [e2]
      exact ⟨_, rfl, err_ q⟩
    · refine ⟨_, rfl, _, rfl, .inr ⟨hn, false, rfl, ?_⟩⟩
      exact ⟨_, rfl, err_ q⟩
/-- what an asked value comes to: the version; else the error's class -/
def AtV (K : PySem.W.Frag) (H : Hp) (D : StD) (v : V) (Q : Int → Prop) (E : Str → Prop) : Prop :=
  (∃ z i, v = .str z ∧ D.heads.lookup z = some i ∧ Q i) ∨ (∃ z, v = .str z ∧ D.heads.lookup z = none ∧ E "NoBranch") ∨ (∃ i x, v = .int i ∧ D.vers.lookup i = some x ∧ Q i) ∨
    (IsKd K H v "str" false ∧ ((∃ i, v = .int i ∧ D.vers.lookup i = none) ∨ NoInt K H v) ∧ E "NoVersion")
def spVersionAt (K : PySem.W.Frag) : Sp := fun vs H Q E => ∃ (s : Addr) (A : StA) (D : StD) (v : V), vs = [.ref s, v] ∧ StAt K H s A D ∧ AtV K H D v (fun i => Q (.int i) H) (fun x => ErrV K x "value" v H E)
abbrev N_version_at : List Str := ["state", "at"]
theorem sc_version_at : FnScope N_version_at ["state", "at"] (defScope s_version_at) := ⟨rfl, rfl, rfl, by decide +kernel, rfl, by decide +kernel, by decide +kernel⟩
theorem ok_version_at (G : PgOk P) (T : Wt K mg) : Def P w K mg base 4 d_version_at ["state", "at"] (spVersionAt K) := by
  have D_head_of := ok_head_of (P := P) (w := w) (base := base) G T
  have D_known_version := ok_known_version (P := P) (w := w) (base := base) G T
  refine mk_defX (F_version_at T) rfl sc_version_at (fun vs H Q E h => ?_) (fun _ _ _ _ _ _ us hl => match us, hl with | [_, _], _ => rfl) (fun cdv A outer s H vs Q E hr h => ?_)
  · obtain ⟨s, A, D, v, rfl, _⟩ := h
    rfl
  · have sc := sc_version_at
    obtain ⟨s, A, D, v, rfl, hS, h⟩ := h
    refine ⟨_, (pss_cons (ps_if (pt_val (pe_callB call_isi (by rfl) (z_isinstance T) (by decide +kernel) (pa_cons (pv 1) (pa_cons (pty (n := "str") (z_str T) (by decide +kernel)) pa_nil))))
        (pss_one (ps_ret (pcall D_head_of (hr.mono (by decide)) (by rfl) (g_head_of T) (passes_call (takes_of rfl rfl rfl rfl) fun _ _ _ _ h => h) (pa_cons (pv 0) (pa_cons (pv 1) pa_nil)))))
        pss_nil)
      (pss_one (ps_ret (pcall D_known_version (hr.mono (by decide)) (by rfl) (g_known_version T) (passes_call (takes_of rfl rfl rfl rfl) fun _ _ _ _ h => h) (pa_cons (pv 0) (pa_cons (pv 1) pa_nil)))))), ?_⟩
    rcases h with ⟨z, i, rfl, e, q⟩ | ⟨z, rfl, e, q⟩ | ⟨i, x, rfl, e, q⟩ | ⟨⟨t, t1, t2⟩, hn, q⟩
    · obtain ⟨t, t1, t2⟩ := isk_str (K := K) H z
      refine ⟨_, rfl, _, .ty "str", t, .type "str", true, rfl, .ty _, t1, t2, true, rfl, ?_⟩
      exact ⟨_, rfl, _, rfl, s, A, D, z, rfl, hS, fun j ej => (by rw [e] at ej; cases ej; exact q), fun w => by rw [e] at w; cases w⟩
    · obtain ⟨t, t1, t2⟩ := isk_str (K := K) H z
      refine ⟨_, rfl, _, .ty "str", t, .type "str", true, rfl, .ty _, t1, t2, true, rfl, ?_⟩
      exact ⟨_, rfl, _, rfl, s, A, D, z, rfl, hS, fun j ej => (by rw [e] at ej; cases ej), fun _ => q⟩
    · obtain ⟨_, _, t, t1, t2⟩ := isk_int (K := K) H i
      refine ⟨_, rfl, _, .ty "str", t, .type "str", false, rfl, .ty _, t1, t2, false, rfl, ?_⟩
      exact ⟨_, rfl, _, rfl, s, A, D, _, rfl, hS, .inl ⟨i, x, rfl, e, q⟩⟩
    · refine ⟨_, rfl, _, .ty "str", t, .type "str", false, rfl, .ty _, t1, t2, false, rfl, ?_⟩
      exact ⟨_, rfl, _, rfl, s, A, D, _, rfl, hS, .inr ⟨hn, q⟩⟩
def spFilesOf (K : PySem.W.Frag) : Sp := fun vs H Q _ => ∃ (s : Addr) (A : StA) (D : StD) (i : Int) (ps : List Int) (rs : List FR), vs = [.ref s, .int i] ∧ StAt K H s A D ∧ D.vers.lookup i = some (ps, rs) ∧ ∀ f, RowsAt H f rs → Q (.ref f) H
abbrev N_files_of : List Str := ["state", "version"]
theorem sc_files_of : FnScope N_files_of ["state", "version"] (defScope s_files_of) := ⟨rfl, rfl, rfl, by decide +kernel, rfl, by decide +kernel, by decide +kernel⟩
theorem ok_files_of (T : Wt K mg) : Def P w K mg base 1 d_files_of ["state", "version"] (spFilesOf K) := by
  refine mk_def (F_files_of T) rfl sc_files_of (fun vs H Q E h => ?_) (fun _ _ _ _ _ _ us hl => match us, hl with | [_, _], _ => rfl) (fun cdv A outer s H vs Q E hr h => ?_)
  · obtain ⟨s, A, D, i, ps, rs, rfl, _⟩ := h
    rfl
  · have sc := sc_files_of
    obtain ⟨s, A, D, i, ps, rs, rfl, hS, e, q⟩ := h
    refine ⟨_, (pss_one (ps_ret (pe_ix ix_tup (pe_dget (hu_of hr) (pe_fld (pv 0) rfl) (pv 1) (fun _ _ => rfl)) pe_int (fun _ _ => rfl)))), ?_⟩
    have c := c_State T
    obtain ⟨kvs, hv, hl⟩ := hS.vers
    obtain ⟨u, e2, _, a, p, f, e3, h1, h2, h3⟩ := book_get ver_key hl e
    have e4 : u = .ref a := e3
    refine ⟨_, rfl, s, _, _, _, _, rfl, hS.ins, c, n_State_version_book T, lf_version_book, _, rfl, A.vb, u, rfl, ?_, a, _, _, _, e4, rfl, SqT.of h1, atI_nat (j := 1) rfl, q f h3⟩
    have z2 := DGet.k (k := .inl i) hv
    rw [e2] at z2
    exact z2
def spLineText (K : PySem.W.Frag) : Sp := fun vs H Q _ => ∃ (s : Addr) (A : StA) (D : StD) (fr : Addr) (kvs : List (Key × V)) (j : Int) (t : Str), vs = [.ref s, .ref fr, .int j] ∧ StAt K H s A D ∧ H fr = some (.dK kvs) ∧
  ((∃ a r, valV kvs (.inl j) = some (.ref a) ∧ H a = some (.tup (.str t :: r))) ∨ (valV kvs (.inl j) = none ∧ ∃ d, D.book.lookup j = some d ∧ d.text = t)) ∧ Q (.str t) H
abbrev N_line_text : List Str := ["state", "fresh", "line"]
theorem sc_line_text : FnScope N_line_text ["state", "fresh", "line"] (defScope s_line_text) := ⟨rfl, rfl, rfl, by decide +kernel, rfl, by decide +kernel, by decide +kernel⟩
theorem ok_line_text (T : Wt K mg) : Def P w K mg base 1 d_line_text ["state", "fresh", "line"] (spLineText K) := by
  refine mk_def (F_line_text T) rfl sc_line_text (fun vs H Q E h => ?_) (fun _ _ _ _ _ _ us hl => match us, hl with | [_, _, _], _ => rfl) (fun cdv A outer s H vs Q E hr h => ?_)
  · obtain ⟨s, A, D, fr, kvs, j, t, rfl, _⟩ := h
    rfl
  · have sc := sc_line_text
    obtain ⟨s, A, D, fr, kvs, j, t, rfl, hS, hf, h, q⟩ := h
    refine ⟨_, (pss_cons (ps_if (pt_cmp (pc_din (hu_of hr) (pv 2) (pv 1)))
        (pss_one (ps_ret (pe_ix ix_tup (pe_dget (hu_of hr) (pv 1) (pv 2) (fun _ _ => rfl)) pe_int (fun _ _ => rfl))))
        pss_nil)
      (pss_one (ps_ret (pe_ix ix_tup (pe_dget (hu_of hr) (pe_fld (pv 0) rfl) (pv 2) (fun _ _ => rfl)) pe_int (fun _ _ => rfl))))), ?_⟩
    have c := c_State T
    have g := DGet.k (k := .inl j) hf
    rcases h with ⟨a, r, e, ha⟩ | ⟨e, d, e2, rfl⟩
    · rw [e] at g
      refine ⟨_, rfl, _, rfl, fr, _, rfl, g, _, rfl, ?_⟩
      exact ⟨_, rfl, _, rfl, fr, .ref a, rfl, g, a, _, _, _, rfl, rfl, SqT.of ha, atI_nat (j := 0) rfl, q⟩
    · rw [e] at g
      refine ⟨_, rfl, _, rfl, fr, _, rfl, g, _, rfl, ?_⟩
      obtain ⟨bk, hb, hl⟩ := hS.book
      obtain ⟨u, e3, _, a, e4, h1⟩ := book_get line_key hl e2
      have e5 : u = .ref a := e4
      refine ⟨_, rfl, s, _, _, _, _, rfl, hS.ins, c, n_State_line_book T, lf_line_book, _, rfl, A.lb, u, rfl, ?_, a, _, _, _, e5, rfl, SqT.of h1, atI_nat (j := 0) rfl, q⟩
      have z2 := DGet.k (k := .inl j) hb
      rw [e3] at z2
      exact z2
end
end Sk
/-! K93Q: texts of lines, lines of files, numbers that follow. -/
namespace Sk
open PySem PySem.Spec PyProof.Rows L2
theorem hu100 {k : Nat} {A : Around} (r : Room k A) : A.units + 100 < cLine := by
  have := r.un
  omega
/-- a dict comprehension over what walks -/
theorem dc_it {J : It} {n : Nat} {G : Hp → Prop} {Y : Nat → Hp → V → Hp → Prop} (w : Walk J n G Y) {g : TG} {tt : TT} {tk tv : TE} {vs : List Nat} {σ : L2.St} {H1 : Hp} {D : Addr} {Qd : Hp → Prop} (Pv : Nat → Hp → Prop) (h0 : Pv 0 (upd H1 D (.dK []))) (hG : ∀ i H, i ≤ n → Pv i H → G H)
    (hs : ∀ i x H H', i < n → Pv i H → Y i H x H' → g x (wipe σ vs) H' fun σ2 H2 => wipe σ2 vs = wipe σ vs ∧ tt σ2 H2 fun b H3 =>
      if b = true then tk σ2 H3 fun y H4 => tv σ2 H4 fun z H5 => ∃ kvs k, y = kV k ∧ H5 D = some (.dK kvs) ∧ kvs.length < sizeLine ∧ Pv (i + 1) (upd H5 D (.dK (putK kvs k z))) else Pv (i + 1) H3) (hd : ∀ H, Pv n H → Qd H) :
    ∃ W : Nat → Nat → Hp → Prop, (∃ m, W 0 m (upd H1 D (.dK []))) ∧ ∀ i m H, W i m H →
      (J.stop i H ∧ Qd H) ∨ (J.go i H ∧ ∃ Nx : Hp → Prop, (∀ H', Nx H' → ∃ m', m' < m ∧ W (i + 1) m' H') ∧ ∀ x H', J.yld i H x H' → g x (wipe σ vs) H' fun σ2 H2 => wipe σ2 vs = wipe σ vs ∧ tt σ2 H2 fun b H3 =>
        if b = true then tk σ2 H3 fun y H4 => tv σ2 H4 fun z H5 => ∃ kvs k, y = kV k ∧ H5 D = some (.dK kvs) ∧ kvs.length < sizeLine ∧ Nx (upd H5 D (.dK (putK kvs k z))) else Nx H3) := by
  refine ⟨fun i m H => m = n - i ∧ i ≤ n ∧ Pv i H, ⟨n, by simp, Nat.zero_le _, h0⟩, fun i m H hw => ?_⟩
  obtain ⟨rfl, hi, p⟩ := hw
  have q := hG i H hi p
  rcases Nat.lt_or_ge i n with hlt | hge
  · exact .inr ⟨w.goes i H hlt q, Pv (i + 1), fun H' p' => ⟨n - (i + 1), by omega, rfl, hlt, p'⟩, fun x H' y => hs i x H H' hlt p (w.yields i H x H' hlt q y)⟩
  · have e : i = n := by omega
    subst e
    exact .inl ⟨w.stops H q, hd H p⟩
/-- the text of a line, by new lines and the state -/
def TextOf (H : Hp) (D : StD) (kvs : List (Key × V)) (j : Int) (t : Str) : Prop := (∃ a r, valV kvs (.inl j) = some (.ref a) ∧ H a = some (.tup (.str t :: r))) ∨ (valV kvs (.inl j) = none ∧ ∃ d, D.book.lookup j = some d ∧ d.text = t)
theorem TextOf.ts {H H' : Hp} {D : StD} {kvs : List (Key × V)} {j : Int} {t : Str} (h : TextOf H D kvs j t) (s : TSame H H') : TextOf H' D kvs j t := by
  rcases h with ⟨a, r, e, h1⟩ | h
  · exact .inl ⟨a, r, e, s _ _ h1⟩
  · exact .inr h
theorem all2_strs {H : Hp} {ts : List Str} {xs : List V} (hl : xs.length = ts.length) (h : ∀ (i : Nat) v, xs[i]? = some v → ∃ t, ts[i]? = some t ∧ v = .str t) : xs = ts.map V.str := by
  refine List.ext_getElem? fun i => ?_
  rw [List.getElem?_map]
  cases e : xs[i]? with
  | none =>
    have z := List.getElem?_eq_none_iff.mp e
    rw [List.getElem?_eq_none_iff.mpr (by omega)]
    rfl
  | some v =>
    obtain ⟨t, h1, h2⟩ := h i v e
    rw [h1, h2]
    rfl
section
variable {P : Program} {w : World} {K : PySem.W.Frag} {mg : Str → Option Value} {base : Heap}
def spTextsOf (K : PySem.W.Frag) : Sp := fun vs H Q _ => ∃ (s : Addr) (A : StA) (D : StD) (fr l : Addr) (kvs : List (Key × V)) (ls : List Int) (ts : List Str), vs = [.ref s, .ref fr, .ref l] ∧ StAt K H s A D ∧ H fr = some (.dK kvs) ∧ H l = some (.tup (ls.map V.int)) ∧ ls.length < 100000 ∧
  All2 (TextOf H D kvs) ls ts ∧ ∀ H' p, Same H H' → H' p = some (.tup (ts.map V.str)) → Q (.ref p) H'
abbrev N_texts_of : List Str := ["state", "fresh", "lines", "line"]
theorem sc_texts_of : FnScope N_texts_of ["state", "fresh", "lines"] (defScope s_texts_of) := ⟨rfl, rfl, rfl, by decide +kernel, rfl, by decide +kernel, by decide +kernel⟩
theorem ok_texts_of (T : Wt K mg) : Def P w K mg base 2 d_texts_of ["state", "fresh", "lines"] (spTextsOf K) := by
  have D_line_text := ok_line_text (P := P) (w := w) (base := base) T
  refine mk_def (F_texts_of T) rfl sc_texts_of (fun vs H Q E h => ?_) (fun _ _ _ _ _ _ us hl => match us, hl with | [_, _, _], _ => rfl) (fun cdv A outer s H vs Q E hr h => ?_)
  · obtain ⟨s, A, D, fr, l, kvs, ls, ts, rfl, _⟩ := h
    rfl
  · have sc := sc_texts_of
    obtain ⟨s, A, D, fr, l, kvs, ls, ts, rfl, hS, hf, hl, hn, ht, q⟩ := h
    refine ⟨_, (pss_one (ps_ret (pe_callTy (T := "tuple") call_tuple_of (by rfl) (z_tuple T) (by decide +kernel) (pa_cons (pe_lc (own := [("line", 3)]) rfl sc.nd (pi_tup (pv 2)) (blkOk_by (N := N_texts_of) (sc := defScope s_texts_of) (by decide +kernel)) (fun _ _ _ _ _ => (pg_name (i := 3) sc.nd rfl (Or.inl rfl))) (fun _ _ _ _ _ => pts_nil) (fun _ _ _ _ _ => (pcall D_line_text (hr.mono (by decide)) (by rfl) (g_line_text T) passL (pa_cons (pv 0) (pa_cons (pv 1) (pa_cons (pv 3) pa_nil)))))) pa_nil)))), ?_⟩
    refine ⟨_, rfl, l, rfl, ⟨_, SqT.of hl⟩, fun C hC => ?_⟩
    refine lc_pure (walk_tup (K := K) (a := l) (xs := ls.map V.int)) (by rw [List.length_map]; exact hn) (fun i x => (ls.map V.int)[i]? = some x) (fun i v _ => ∃ t, ts[i]? = some t ∧ v = .str t) (fun H' s => SqT.of (s _ _ hl)) (fun i H' x H2 _ y => y) (fun _ _ _ _ _ e => e) hC (fun i x H' R hi hx s1 k => ?_) (fun xs H' hx hlen s1 hev => ?_)
    · rw [List.getElem?_map] at hx
      obtain ⟨j, hj, rfl⟩ := Option.map_eq_some_iff.mp hx
      obtain ⟨t, e1, e2⟩ := ht.at1 hj
      exact ⟨_, rfl, _, rfl, _, rfl, s, A, D, fr, kvs, j, t, rfl, hS.same s1, s1 _ _ hf, e2.ts (same_ts s1), k _ H' (Same.refl _) ⟨t, e1, rfl⟩⟩
    · have e : xs = ts.map V.str := all2_strs (H := H') (by rw [hlen, List.length_map, ht.len]) hev
      refine ⟨C, _, rfl, .inl ⟨SqL.of hx, fun p hp => q _ p (nw s1 hp) ?_⟩⟩
      rw [upd_same, e]
/-- of a book without lines -/
def spTextsThere (K : PySem.W.Frag) : Sp := fun vs H Q _ => ∃ (s : Addr) (A : StA) (D : StD), vs = [.ref s] ∧ StAt K H s A D ∧ D.book = [] ∧ ∀ p, H p = none → Q (.ref p) (upd H p (.dK []))
abbrev N_texts_there : List Str := ["state", "text", "origin", "born"]
theorem sc_texts_there : FnScope N_texts_there ["state"] (defScope s_texts_there) := ⟨rfl, rfl, rfl, by decide +kernel, rfl, by decide +kernel, by decide +kernel⟩
theorem ok_texts_there (T : Wt K mg) : Def P w K mg base 1 d_texts_there ["state"] (spTextsThere K) := by
  refine mk_def (F_texts_there T) rfl sc_texts_there (fun vs H Q E h => ?_) (fun _ _ _ _ _ _ us hl => match us, hl with | [_], _ => rfl) (fun cdv A outer s H vs Q E hr h => ?_)
  · obtain ⟨s, A, D, rfl, _⟩ := h
    rfl
  · have sc := sc_texts_there
    obtain ⟨s, A, D, rfl, hS, hb, q⟩ := h
    refine ⟨_, (pss_one (ps_ret (pe_lock (pe_dc (own := [("text", 1), ("origin", 2), ("born", 3)]) rfl sc.nd (pi_values (pe_fld (pv 0) rfl)) (blkOk_by (N := N_texts_there) (sc := defScope s_texts_there) (by decide +kernel)) (fun _ _ _ _ _ => (pg_tupK (K := K) (n := 3) rfl (pgs_cons (pg_name (i := 1) sc.nd rfl (Or.inl rfl)) (pgs_cons (pg_name (i := 2) sc.nd rfl (Or.inl rfl)) (pgs_cons (pg_name (i := 3) sc.nd rfl (Or.inl rfl)) pgs_nil))))) (fun _ _ _ _ _ => pts_nil) (fun _ _ _ _ _ => (pv 1)) (fun _ _ _ _ _ => pe_bl))))), ?_⟩
    have c := c_State T
    obtain ⟨kvs, hk, hl⟩ := hS.book
    rw [hb] at hl
    cases hl
    have ns : s ≠ A.lb := ne_of hS.ins hk (by intro z; cases z)
    refine ⟨A.lb, _, hk, trivial, fun od => ?_⟩
    refine ⟨_, rfl, s, _, _, _, _, rfl, (by rw [upd_ne ns]; exact hS.ins), c, n_State_line_book T, lf_line_book, A.lb, od, [], rfl, upd_same, fun C hC => ?_⟩
    refine dc_it (walk_values (d := A.lb) (o := od) (kvs := [])) (fun i H' => H' = upd (upd H A.lb (.frz od (.dK []))) C (.dK [])) rfl (fun i H' _ e => ?_) (fun i x H1 H2 hi _ _ => absurd hi (by simp)) (fun H' e => ?_)
    · rw [e, upd_ne (ne_of_none upd_same hC)]
      exact upd_same
    · subst e
      have nC : A.lb ≠ C := ne_of_none upd_same hC
      have hC0 : H C = none := by
        rw [upd_ne (Ne.symm nC)] at hC
        exact hC
      refine ⟨by rw [upd_ne nC]; exact upd_same, ?_⟩
      have e2 : upd (upd (upd H A.lb (.frz od (.dK []))) C (.dK [])) A.lb (.dK []) = upd H C (.dK []) := by
        funext b
        by_cases h1 : b = A.lb
        · rw [h1, upd_same, upd_ne nC, hk]
        · rw [upd_ne h1]
          by_cases h2 : b = C
          · rw [h2, upd_same, upd_same]
          · rw [upd_ne h2, upd_ne h1, upd_ne h2]
      rw [e2]
      exact q C hC0
end
end Sk
/-! K93R: the lines of files; numbers that follow. -/
namespace Sk
open PySem PySem.Spec PyProof.Rows L2
theorem valV_no {kvs : List (Key × V)} {k : Key} (h : k ∉ kvs.map (·.1)) : valV kvs k = none := by
  induction kvs with
  | nil => rfl
  | cons p r ih =>
    rw [List.map_cons, List.mem_cons, not_or] at h
    rw [valV_neg (Ne.symm h.1)]
    exact ih h.2
theorem putK_new {kvs : List (Key × V)} {k : Key} {v : V} (h : k ∉ kvs.map (·.1)) : putK kvs k v = kvs ++ [(k, v)] := by
  unfold putK
  rw [valV_any, valV_no h]
  rfl
def allLines (rs : List FR) : List Int := rs.flatMap (·.lines)
theorem allLines_snoc {rs : List FR} {i : Nat} {r : FR} (h : rs[i]? = some r) : allLines (rs.take (i + 1)) = allLines (rs.take i) ++ r.lines := by
  unfold allLines
  rw [take_snoc h, List.flatMap_append]
  simp
theorem allLines_split {rs : List FR} {i : Nat} {r : FR} (h : rs[i]? = some r) : ∃ post, allLines rs = allLines (rs.take i) ++ r.lines ++ post := by
  refine ⟨allLines (rs.drop (i + 1)), ?_⟩
  rw [← allLines_snoc h]
  unfold allLines
  rw [← List.flatMap_append, List.take_append_drop]
theorem same_put {H H' : Hp} {d : Addr} {o : HO} (s : L2.Same H H') (h : H d = none) : L2.Same H (upd H' d o) := fun q u e => by
  rw [upd_ne (ne_of_none e h)]
  exact s q u e
section
variable {P : Program} {w : World} {K : PySem.W.Frag} {mg : Str → Option Value} {base : Heap}
def spLinesIn (K : PySem.W.Frag) : Sp := fun vs H Q _ => ∃ (p : Addr) (rs : List FR), vs = [.ref p] ∧ RowsAt H p rs ∧ (allLines rs).Nodup ∧ (allLines rs).length < 100000 ∧
  ∀ H' d kvs, Same H H' → H d = none → H' d = some (.dK kvs) → kvs.map (·.1) = (allLines rs).map Sum.inl → Q (.ref d) H'
abbrev N_lines_in : List Str := ["files", "found", "file", "name", "lines", "place", "line"]
theorem sc_lines_in : FnScope N_lines_in ["files"] (defScope s_lines_in) := ⟨rfl, rfl, rfl, by decide +kernel, rfl, by decide +kernel, by decide +kernel⟩
theorem ok_lines_in (T : Wt K mg) : Def P w K mg base 1 d_lines_in ["files"] (spLinesIn K) := by
  refine mk_def (F_lines_in T) rfl sc_lines_in (fun vs H Q E h => ?_) (fun _ _ _ _ _ _ us hl => match us, hl with | [_], _ => rfl) (fun cdv A outer s H vs Q E hr h => ?_)
  · obtain ⟨p, rs, rfl, _⟩ := h
    rfl
  · have sc := sc_lines_in
    obtain ⟨p, rs, rfl, ⟨vs, hp, hvs⟩, hnd, hlt, q⟩ := h
    refine ⟨_, (pss_cons (ps_set (i := 1) sc.nd rfl (Or.inl rfl) pe_dnewK)
      (pss_cons (ps_for PassesOwn.never rfl (pi_tup (pv 0)) (pg_tup rfl (pgs_cons (pg_name (i := 2) sc.nd rfl (Or.inl rfl)) (pgs_cons (pg_name (i := 3) sc.nd rfl (Or.inl rfl)) (pgs_cons (pg_name (i := 4) sc.nd rfl (Or.inl rfl)) pgs_nil))))
        (pss_one (ps_for PassesOwn.never rfl (pi_enumT (by rfl) (z_enumerate T) (pa_cons (pv 4) pa_nil)) (pg_tup rfl (pgs_cons (pg_name (i := 5) sc.nd rfl (Or.inl rfl)) (pgs_cons (pg_name (i := 6) sc.nd rfl (Or.inl rfl)) pgs_nil)))
          (pss_one (ps_dput (hu_of hr) (pv 1) (pv 6) (pe_tup (pa_cons (pv 2) (pa_cons (pv 3) (pa_cons (pv 5) pa_nil)))) rfl)))))
      (pss_one (ps_ret (pv 1))))), ?_⟩
    refine fun d hd => set_ ?_
    have s0 : Same H (upd H d (.dK [])) := nw (Same.refl _) hd
    refine ⟨_, rfl, p, rfl, ⟨_, SqT.of (s0 _ _ hp)⟩, ?_⟩
    refine for_tup (K := K) (xs := vs) (fun i σ H' => ∃ kvs a b c e f, σ = [some (.ref p), some (.ref d), a, b, c, e, f] ∧ H' d = some (.dK kvs) ∧ kvs.map (·.1) = (allLines (rs.take i)).map Sum.inl ∧ Same H H') ⟨[], none, none, none, none, none, rfl, upd_same, rfl, s0⟩
      (fun i σ H' _ ⟨_, _, _, _, _, _, _, _, _, s⟩ => SqT.of (s _ _ hp)) (fun i x σ H' hx ⟨kvs, a, b, c, e, f, eσ, hk, ek, s⟩ => ?_) (fun σ H' ⟨kvs, a, b, c, e, f, eσ, hk, ek, s⟩ => ?_)
    · subst eσ
      obtain ⟨r, hr0, t, u, rfl, ht, hu⟩ := hvs.at1 hx
      obtain ⟨post, hpost⟩ := allLines_split hr0
      refine ⟨t, _, rfl, SqT.of (s _ _ ht), rfl, _, _, rfl, _, _, rfl, _, _, rfl, rfl, ?_⟩
      refine ⟨_, rfl, u, _, rfl, SqT.of (s _ _ hu), ?_⟩
      refine for_it (walk_enumT (K := K) (a := u) (xs := r.lines.map V.int)) (fun j σ H2 => ∃ kvs e f, σ = [some (.ref p), some (.ref d), some (.int r.num), some (.str r.name), some (.ref u), e, f] ∧ H2 d = some (.dK kvs) ∧ kvs.map (·.1) = (allLines (rs.take i) ++ r.lines.take j).map Sum.inl ∧ Same H H2)
        ⟨kvs, e, f, rfl, hk, by rw [ek]; simp, s⟩ (fun j σ H2 _ ⟨_, _, _, _, _, _, s2⟩ => SqT.of (s2 _ _ hu)) (fun j v σ H2 H3 hj ⟨kvs2, e2, f2, eσ, hk2, ek2, s2⟩ hy => ?_) (fun σ H2 ⟨kvs2, e2, f2, eσ, hk2, ek2, s2⟩ => ?_)
      · subst eσ
        obtain ⟨T2, x1, y1, rfl, hT, rfl, h1, h2⟩ := hy
        cases h1
        have h2 : (r.lines.map V.int)[j]? = some y1 := h2
        rw [List.getElem?_map] at h2
        obtain ⟨n, hn, rfl⟩ := Option.map_eq_some_iff.mp h2
        have nT : d ≠ T2 := ne_of_none hk2 hT
        refine ⟨T2, _, rfl, SqT.of upd_same, rfl, _, _, rfl, _, _, rfl, rfl, ?_⟩
        refine ⟨_, rfl, _, rfl, _, rfl, (by show 3 ≤ sizeLine; decide), fun v hv => ?_⟩
        have hk3 : (upd (upd H2 T2 (.tup [.int (j : Nat), .int n])) v (.tup [.int r.num, .str r.name, .int (j : Nat)])) d = some (.dK kvs2) := new_at (new_at hk2 hT) hv
        have nk : (Sum.inl n : Key) ∉ kvs2.map (·.1) := by
          rw [ek2]
          intro hm
          obtain ⟨m, hm1, hm2⟩ := List.mem_map.mp hm
          have em : m = n := Sum.inl.inj hm2
          subst em
          have hsp : r.lines = r.lines.take j ++ (m :: r.lines.drop (j + 1)) := by
            have hjl := (List.getElem?_eq_some_iff.mp hn).1
            rw [← (List.getElem?_eq_some_iff.mp hn).2, List.getElem_cons_drop, List.take_append_drop]
          rw [hpost, hsp] at hnd
          rw [← List.append_assoc, List.append_assoc] at hnd
          exact (List.nodup_append.mp hnd).2.2 m hm1 m (by simp) rfl
        have hlen : kvs2.length < sizeLine := by
          have z := congrArg List.length ek2
          rw [List.length_map, List.length_map, List.length_append, List.length_take] at z
          have z2 := congrArg List.length hpost
          rw [List.length_append, List.length_append] at z2
          refine Nat.lt_of_lt_of_le (show kvs2.length < 100000 by omega) (by decide)
        refine ⟨_, rfl, _, rfl, d, _, rfl, DPut.k (k := .inl n) hk3 hlen, ?_⟩
        refine ⟨kvs2 ++ [(.inl n, .ref v)], _, _, rfl, by rw [upd_same, putK_new nk], ?_, same_put (nw (nw s2 hT) hv) hd⟩
        rw [List.map_append, ek2, take_snoc hn]
        simp
      · subst eσ
        refine ⟨kvs2, _, _, _, _, _, rfl, hk2, ?_, s2⟩
        rw [ek2, allLines_snoc hr0, List.length_map, List.take_length]
    · subst eσ
      refine ⟨_, rfl, q H' d kvs s hd hk ?_⟩
      rw [ek, hvs.len, List.take_length]
theorem max_fresh {b : Int} {ns : List Int} {k : Nat} (h : ns = (List.range k).map fun (j : Nat) => b + (j : Int)) {m : Int} (h1 : m ∈ (b - 1) :: ns) (h2 : ∀ y ∈ (b - 1) :: ns, y ≤ m) : m = b + (k : Int) - 1 := by
  subst h
  have u : m ≤ b + (k : Int) - 1 := by
    rcases List.mem_cons.mp h1 with z | z
    · omega
    · obtain ⟨j, hj, e⟩ := List.mem_map.mp z
      have := List.mem_range.mp hj
      omega
  have l : b + (k : Int) - 1 ≤ m := by
    cases k with
    | zero =>
      have z := h2 (b - 1) (by simp)
      simp
      exact z
    | succ k =>
      have z := h2 (b + (k : Int)) (List.mem_cons_of_mem _ (List.mem_map.mpr ⟨k, List.mem_range.mpr (by omega), rfl⟩))
      omega
  omega
def freshN (k : Nat) : List Int := (List.range k).map fun (j : Nat) => 1000000000 + (j : Int)
def spNextFresh (K : PySem.W.Frag) : Sp := fun vs H Q _ => ∃ (l : Addr) (k : Nat), vs = [.ref l] ∧ SqL K H l ((freshN k).map V.int) ∧ k < 100000 ∧ ∀ H', Same H H' → Q (.int (1000000000 + (k : Int))) H'
abbrev N_next_fresh : List Str := ["numbers", "number"]
theorem sc_next_fresh : FnScope N_next_fresh ["numbers"] (defScope s_next_fresh) := ⟨rfl, rfl, rfl, by decide +kernel, rfl, by decide +kernel, by decide +kernel⟩
theorem ok_next_fresh (T : Wt K mg) : Def P w K mg base 1 d_next_fresh ["numbers"] (spNextFresh K) := by
  refine mk_def (F_next_fresh T) rfl sc_next_fresh (fun vs H Q E h => ?_) (fun _ _ _ _ _ _ us hl => match us, hl with | [_], _ => rfl) (fun cdv A outer s H vs Q E hr h => ?_)
  · obtain ⟨l, k, rfl, _⟩ := h
    rfl
  · have sc := sc_next_fresh
    obtain ⟨l, k, rfl, hl, hk, q⟩ := h
    refine ⟨_, (pss_one (ps_ret (pe_op op_add (pe_callB (cr_max rfl) (by rfl) (z_max T) (by decide +kernel) (pa_cons (pe_op op_cat (pe_lst (pa_cons (pe_op op_sub (pgi (v_FRESH T)) pe_int) pa_nil)) (pe_lc (own := [("number", 1)]) rfl sc.nd (pi_list (pv 0)) (blkOk_by (N := N_next_fresh) (sc := defScope s_next_fresh) (by decide +kernel)) (fun _ _ _ _ _ => (pg_name (i := 1) sc.nd rfl (Or.inl rfl))) (fun _ _ _ _ _ => pts_nil) (fun _ _ _ _ _ => (pv 1)))) pa_nil)) pe_int))), ?_⟩
    have fl : (freshN k).length = k := by simp [freshN]
    refine ⟨_, _, rfl, rfl, (by show 1 ≤ sizeLine; decide), fun a ha => ?_⟩
    have hl1 := (nw (Same.refl H) ha (o := .lst [.int (1000000000 - 1)])).seq hl
    have ha1 : (upd H a (.lst [.int (1000000000 - 1)])) a = some (.lst [.int (1000000000 - 1)]) := upd_same
    have s1 : Same H (upd H a (.lst [.int (1000000000 - 1)])) := nw (Same.refl H) ha
    refine ⟨_, rfl, l, rfl, ⟨_, hl1⟩, fun D hD => ?_⟩
    refine lc_pure (walk_list (K := K) (a := l) (xs := (freshN k).map V.int)) (by rw [List.length_map, fl]; exact hk) (fun i x => ((freshN k).map V.int)[i]? = some x) (fun i v _ => ((freshN k).map V.int)[i]? = some v) (fun H' s2 => s2.seq hl1) (fun i H' x H2 _ y => y) (fun _ _ _ _ _ e => e) hD (fun i x H' R hi hx s2 kk => ⟨_, rfl, kk _ _ (Same.refl _) hx⟩) (fun xs H' hx hlen s2 hev => ?_)
    have exs : xs = (freshN k).map V.int := by
      refine List.ext_getElem? fun i => ?_
      cases e : xs[i]? with
      | none =>
        have z := List.getElem?_eq_none_iff.mp e
        rw [List.getElem?_eq_none_iff.mpr (by omega)]
      | some v => exact (hev i v e).symm
    subst exs
    refine ⟨a, D, _, _, rfl, rfl, s2 _ _ ha1, hx, ?_, fun c hc => ?_⟩
    · rw [List.length_map, fl, List.length_singleton]
      exact Nat.le_trans (show 1 + k ≤ 100001 by omega) (by decide)
    · refine ⟨c, (1000000000 - 1) :: freshN k, rfl, SqL.of upd_same, by simp, fun m h1 h2 => ?_⟩
      have em := max_fresh (b := 1000000000) (k := k) rfl h1 h2
      refine ⟨_, _, rfl, rfl, qv (q _ (nw (s1.trans s2) hc)) ?_⟩
      rw [em]
      congr 1
      omega
end
end Sk
/-! K93S: what a store shows. -/
namespace Sk
open PySem PySem.Spec PyProof.Rows L2
theorem TyX_same {K : PySem.W.Frag} {H H' : Hp} {v : V} {t : Value} (s : L2.Same H H') (h : TyX K H v t) : TyX K H' v t := by
  cases h with
  | base h =>
    cases h with
    | non => exact .base .non
    | bl x => exact .base (.bl x)
    | int i => exact .base (.int i)
    | str x => exact .base (.str x)
    | flt x => exact .base (.flt x)
    | lst e => exact .base (.lst (s _ _ e))
    | frz e => exact .base (.frz (s _ _ e))
    | tup e => exact .base (.tup (s _ _ e))
    | dK e => exact .base (.dK (s _ _ e))
    | dT e => exact .base (.dT (s _ _ e))
    | ins e c1 c2 c3 c4 c5 => exact .base (.ins (s _ _ e) c1 c2 c3 c4 c5)
  | byt b => exact .byt b
  | set e => exact .set (s _ _ e)
  | kList e c => exact .kList e c
  | kTuple e c => exact .kTuple e c
  | kDict e c => exact .kDict e c
  | fTuple e => exact .fTuple (s _ _ e)
  | fDict e => exact .fDict (s _ _ e)
theorem IsKd.same {K : PySem.W.Frag} {H H' : Hp} {v : V} {n : String} {b : Bool} (h : IsKd K H v n b) (s : L2.Same H H') : IsKd K H' v n b := by
  obtain ⟨t, h1, h2⟩ := h
  exact ⟨t, TyX_same s h1, h2⟩
theorem NoInt.same {K : PySem.W.Frag} {H H' : Hp} {v : V} (h : NoInt K H v) (s : L2.Same H H') : NoInt K H' v := by
  rcases h with h | ⟨h1, h2⟩
  · exact .inl (h.same s)
  · exact .inr ⟨h1.same s, h2.same s⟩
theorem AtV.to {K : PySem.W.Frag} {H H' : Hp} {D : StD} {v : V} {Q Q' : Int → Prop} {E E' : Str → Prop} (h : AtV K H D v Q E) (s : L2.Same H H') (hq : ∀ i, Q i → Q' i) (he : ∀ x, E x → E' x) : AtV K H' D v Q' E' := by
  rcases h with ⟨z, i, e, e2, q⟩ | ⟨z, e, e2, q⟩ | ⟨i, x, e, e2, q⟩ | ⟨h1, h2, q⟩
  · exact .inl ⟨z, i, e, e2, hq _ q⟩
  · exact .inr (.inl ⟨z, e, e2, he _ q⟩)
  · exact .inr (.inr (.inl ⟨i, x, e, e2, hq _ q⟩))
  · refine .inr (.inr (.inr ⟨h1.same s, ?_, he _ q⟩))
    rcases h2 with h2 | h2
    · exact .inl h2
    · exact .inr (h2.same s)
theorem StAt.there {K : PySem.W.Frag} {H : Hp} {s : Addr} {A : StA} {D : StD} (h : StAt K H s A D) : ∀ q ∈ [s, A.lb, A.vb, A.hb, A.kb, A.ob], H q ≠ none := fun q hq => by
  obtain ⟨b1, b2, _⟩ := h.book
  obtain ⟨v1, v2, _⟩ := h.vers
  have z : q = s ∨ q = A.lb ∨ q = A.vb ∨ q = A.hb ∨ q = A.kb ∨ q = A.ob := by simpa using hq
  rcases z with e | e | e | e | e | e <;> rw [e]
  · rw [h.ins]; simp
  · rw [b2]; simp
  · rw [v2]; simp
  · rw [h.heads]; simp
  · rw [h.kept]; simp
  · rw [h.watch]; simp
/-- a dict that is unlocked again -/
theorem unlock_same {H H' : Hp} {d : Addr} {u f : HO} (hd : H d = some u) (s : L2.Same (upd H d f) H') : L2.Same H (upd H' d u) := fun q w e => by
  by_cases h : q = d
  · rw [h] at e ⊢
    rw [hd] at e
    rw [upd_same]
    exact e
  · rw [upd_ne h]
    exact s q w (by rw [upd_ne h]; exact e)
/-- a comprehension, any target, whose elements leave all that stood as it was -/
theorem lc_pureG {J : It} {n : Nat} {G : Hp → Prop} {Y : Nat → Hp → V → Hp → Prop} (w : Walk J n G Y) {g : TG} {te : TE} {vs : List Nat} {σ : L2.St} {H1 : Hp} {D : Addr} {Qd : Hp → Prop} (hn : n < 100000) (EV : Nat → V → Hp → Prop)
    (hG : ∀ H, Same H1 H → G H) (hE : ∀ i v H H', TSame H H' → EV i v H → EV i v H') (hD : H1 D = none)
    (he : ∀ (i : Nat) x H H' R, i < n → Same H1 H → Y i H x H' → (∀ v H2, Same H H2 → EV i v H2 → R v H2) → g x (wipe σ vs) H' fun σ2 H2 => wipe σ2 vs = wipe σ vs ∧ te σ2 H2 R)
    (hd : ∀ xs H, H D = some (.lst xs) → xs.length = n → Same H1 H → (∀ (i : Nat) v, xs[i]? = some v → EV i v H) → Qd H)
    (hg : ∀ x σ H (Q1 Q2 : L2.St → Hp → Prop), (∀ σ' H', Q1 σ' H' → Q2 σ' H') → g x σ H Q1 → g x σ H Q2) :
    ∃ W : Nat → Nat → Hp → Prop, (∃ m, W 0 m (upd H1 D (.lst []))) ∧ ∀ i m H, W i m H →
      (J.stop i H ∧ Qd H) ∨ (J.go i H ∧ ∃ Nx : Hp → Prop, (∀ H', Nx H' → ∃ m', m' < m ∧ W (i + 1) m' H') ∧ ∀ x H', J.yld i H x H' → g x (wipe σ vs) H' fun σ2 H2 => wipe σ2 vs = wipe σ vs ∧ tYes σ2 H2 fun b H3 =>
        if b = true then te σ2 H3 fun y H4 => ∃ acc, H4 D = some (.lst acc) ∧ acc.length < sizeLine ∧ Nx (upd H4 D (.lst (acc ++ [y]))) else Nx H3) := by
  refine lc_it w (fun i H => ∃ xs, H D = some (.lst xs) ∧ xs.length = i ∧ Same H1 H ∧ ∀ (k : Nat) v, xs[k]? = some v → EV k v H) ⟨[], upd_same, rfl, nw (Same.refl _) hD, fun k v h => by simp at h⟩ (fun i H _ ⟨xs, _, _, f, _⟩ => hG H f) (fun i x H H' hi ⟨xs, hx, hl, f, hev⟩ hy => ?_) (fun H ⟨xs, hx, hl, f, hev⟩ => hd xs H hx hl f hev)
  refine hg _ _ _ _ _ (fun σ' H2 h => ⟨h.1, h.2⟩) (he i x H H' _ hi f hy fun v H2 f2 ev => ?_)
  have hx2 : H2 D = some (.lst xs) := f2 D _ hx
  have t2 : TSame H2 (upd H2 D (.lst (xs ++ [v]))) := TSame.lst hx2
  refine ⟨xs, hx2, Nat.lt_of_lt_of_le (show xs.length < 100000 by omega) (by decide), xs ++ [v], upd_same, by rw [List.length_append, hl]; rfl, fun b o e => ?_, fun k u hk => ?_⟩
  · rw [upd_ne (ne_of_none e hD)]
    exact f2 b o (f b o e)
  · rcases Nat.lt_or_ge k xs.length with hlt | hge
    · rw [List.getElem?_append_left hlt] at hk
      exact hE k u _ _ t2 (hE k u _ _ (same_ts f2) (hev k u hk))
    · rw [List.getElem?_append_right hge] at hk
      have ek : k - xs.length = 0 := by
        cases q : k - xs.length with
        | zero => rfl
        | succ m => rw [q] at hk; simp at hk
      rw [ek] at hk
      have eu : v = u := by simpa using hk
      have ek2 : k = i := by omega
      subst eu ek2
      exact hE _ _ _ _ t2 ev
theorem gName_mono {i : Nat} : ∀ (x : V) (σ : L2.St) (H : Hp) (Q1 Q2 : L2.St → Hp → Prop), (∀ σ' H', Q1 σ' H' → Q2 σ' H') → gName i x σ H Q1 → gName i x σ H Q2 := fun _ _ _ _ _ k h => k _ _ h
theorem gTup3_mono {K : PySem.W.Frag} {n i j k : Nat} : ∀ (x : V) (σ : L2.St) (H : Hp) (Q1 Q2 : L2.St → Hp → Prop), (∀ σ' H', Q1 σ' H' → Q2 σ' H') → gTup K n (gCons (gName i) (gCons (gName j) (gCons (gName k) gNil))) x σ H Q1 → gTup K n (gCons (gName i) (gCons (gName j) (gCons (gName k) gNil))) x σ H Q2 :=
  fun x σ H Q1 Q2 kk ⟨a, xs, h1, h2, h3, v1, r1, h4, v2, r2, h5, v3, r3, h6, h7, h8⟩ => ⟨a, xs, h1, h2, h3, v1, r1, h4, v2, r2, h5, v3, r3, h6, h7, kk _ _ h8⟩
section
variable {P : Program} {w : World} {K : PySem.W.Frag} {mg : Str → Option Value} {base : Heap}
def spNextFreshD (K : PySem.W.Frag) : Sp := fun vs H Q _ => ∃ (l : Addr) (kvs : List (Key × V)) (k : Nat), vs = [.ref l] ∧ H l = some (.dK kvs) ∧ kvs.map (·.1) = (freshN k).map Sum.inl ∧ k < 100000 ∧ ∀ H', Same H H' → Q (.int (1000000000 + (k : Int))) H'
theorem ok_next_fresh_d (T : Wt K mg) : Def P w K mg base 1 d_next_fresh ["numbers"] (spNextFreshD K) := by
  refine mk_def (F_next_fresh T) rfl sc_next_fresh (fun vs H Q E h => ?_) (fun _ _ _ _ _ _ us hl => match us, hl with | [_], _ => rfl) (fun cdv A outer s H vs Q E hr h => ?_)
  · obtain ⟨l, kvs, k, rfl, _⟩ := h
    rfl
  · have sc := sc_next_fresh
    obtain ⟨l, kvs, k, rfl, hl, ek, hk, q⟩ := h
    refine ⟨_, (pss_one (ps_ret (pe_op op_add (pe_callB (cr_max rfl) (by rfl) (z_max T) (by decide +kernel) (pa_cons (pe_op op_cat (pe_lst (pa_cons (pe_op op_sub (pgi (v_FRESH T)) pe_int) pa_nil)) (pe_lock (pe_lc (own := [("number", 1)]) rfl sc.nd (pi_keys (pv 0)) (blkOk_by (N := N_next_fresh) (sc := defScope s_next_fresh) (by decide +kernel)) (fun _ _ _ _ _ => (pg_name (i := 1) sc.nd rfl (Or.inl rfl))) (fun _ _ _ _ _ => pts_nil) (fun _ _ _ _ _ => (pv 1))))) pa_nil)) pe_int))), ?_⟩
    have fl : (freshN k).length = k := by simp [freshN]
    have kl : kvs.length = k := by
      have z := congrArg List.length ek
      rw [List.length_map, List.length_map, fl] at z
      exact z
    refine ⟨_, _, rfl, rfl, (by show 1 ≤ sizeLine; decide), fun a ha => ?_⟩
    have hl1 : (upd H a (.lst [.int (1000000000 - 1)])) l = some (.dK kvs) := new_at hl ha
    have ha1 : (upd H a (.lst [.int (1000000000 - 1)])) a = some (.lst [.int (1000000000 - 1)]) := upd_same
    have s1 : Same H (upd H a (.lst [.int (1000000000 - 1)])) := nw (Same.refl H) ha
    have nal : a ≠ l := ne_of ha1 hl1 (by intro z; cases z)
    refine ⟨l, _, hl1, trivial, fun od => ?_⟩
    refine ⟨_, rfl, l, od, rfl, .inl ⟨kvs, upd_same, fun D hD => ?_⟩⟩
    refine lc_pure (walk_keys (d := l) (o := od) (kvs := kvs)) (by omega) (fun i x => ∃ k v, kvs[i]? = some (k, v) ∧ x = kV k) (fun i v _ => ((freshN k).map V.int)[i]? = some v) (fun H' s2 => s2 _ _ upd_same) (fun i H' x H2 _ y => y) (fun _ _ _ _ _ e => e) hD (fun i x H' R hi hx s2 kk => ⟨_, rfl, kk _ _ (Same.refl _) ?_⟩) (fun xs H' hx hlen s2 hev => ?_)
    · obtain ⟨ky, v, h1, rfl⟩ := hx
      have z : (kvs.map (·.1))[i]? = some ky := by rw [List.getElem?_map, h1]; rfl
      rw [ek, List.getElem?_map] at z
      obtain ⟨n, hn, rfl⟩ := Option.map_eq_some_iff.mp z
      rw [List.getElem?_map, hn]
      rfl
    have exs : xs = (freshN k).map V.int := by
      refine List.ext_getElem? fun i => ?_
      cases e : xs[i]? with
      | none =>
        have z := List.getElem?_eq_none_iff.mp e
        rw [List.getElem?_eq_none_iff.mpr (by rw [List.length_map, fl]; omega)]
      | some v => exact (hev i v e).symm
    subst exs
    have s3 := unlock_same hl1 s2
    have nDl : D ≠ l := fun z => by rw [z, upd_same] at hD; cases hD
    refine ⟨s2 _ _ upd_same, a, D, _, _, rfl, rfl, s3 _ _ ha1, by rw [upd_ne nDl]; exact hx, ?_, fun c hc => ?_⟩
    · rw [List.length_map, fl, List.length_singleton]
      exact Nat.le_trans (show 1 + k ≤ 100001 by omega) (by decide)
    · refine ⟨c, (1000000000 - 1) :: freshN k, rfl, SqL.of upd_same, by simp, fun m h1 h2 => ?_⟩
      have em := max_fresh (b := 1000000000) (k := k) rfl h1 h2
      refine ⟨_, _, rfl, rfl, qv (q _ (nw (s1.trans s3) hc)) ?_⟩
      rw [em]
      congr 1
      omega
/-- the files of a version, as (name, texts) -/
def Shows (D : StD) (rs : List FR) (fs : List FileP) : Prop := All2 (fun r f => r.name = f.1 ∧ All2 (fun j t => ∃ d, D.book.lookup j = some d ∧ d.text = t) r.lines f.2) rs fs
def rowD (r : FR) : PyData := .tuple [.str r.name, .tuple (r.lines.map PyData.int)]
theorem all2_of {α β : Type} {R : α → β → Prop} : ∀ {l : List α} {m : List β}, l.length = m.length → (∀ (i : Nat) a b, l[i]? = some a → m[i]? = some b → R a b) → All2 R l m
  | [], [], _, _ => .nil
  | [], _ :: _, h, _ => by cases h
  | _ :: _, [], h, _ => by cases h
  | a :: l, b :: m, h, k => .cons (k 0 a b rfl rfl) (all2_of (by simpa using h) fun i x y h1 h2 => k (i + 1) x y (by simpa using h1) (by simpa using h2))
/-- (name, lines) as a new pair -/
def SRow (H : Hp) (v : V) (r : FR) : Prop := ∃ t u, v = .ref t ∧ H t = some (.tup [.str r.name, .ref u]) ∧ H u = some (.tup (r.lines.map V.int))
theorem SRow.ts {H H' : Hp} {v : V} {r : FR} (h : SRow H v r) (s : TSame H H') : SRow H' v r := by
  obtain ⟨t, u, e, h1, h2⟩ := h
  exact ⟨t, u, e, s _ _ h1, s _ _ h2⟩
theorem dp_ints {K : PySem.W.Frag} {H : Hp} : ∀ ns : List Int, DpAll K H (ns.map V.int) (ns.map PyData.int)
  | [] => .nil
  | n :: r => .cons (.int n) (dp_ints r)
theorem dp_srow {K : PySem.W.Frag} {H : Hp} {xs : List V} {rs : List FR} (h : All2 (SRow H) xs rs) : DpAll K H xs (rs.map rowD) := by
  induction h with
  | nil => exact .nil
  | cons a _ ih =>
    obtain ⟨t, u, rfl, h1, h2⟩ := a
    exact .cons (.tup (SqT.of h1) (.cons (.str _) (.cons (.tup (SqT.of h2) (dp_ints _)) .nil))) ih
theorem rows_alike (rs : List FR) : PySem.W.AllAlike (rs.map rowD) := PySem.W.AllAlike.of fun a b => by
  simp [rowD, PySem.W.alike, PySem.W.alikeAll, PySem.W.alike_ints]
theorem rows_sortable (rs : List FR) : PySem.W.Sortable (rs.map rowD) := PySem.W.Sortable.tuples fun a => ⟨_, _, rfl⟩
theorem rows_deep (rs : List FR) : ∀ d ∈ rs.map rowD, d.depth ≤ 64 := fun d hd => by
  obtain ⟨r, _, rfl⟩ := List.mem_map.mp hd
  simp [rowD, PyData.depth, PyData.depthAll, PySem.W.depth_ints]
theorem shows_names {D : StD} {rs : List FR} {fs : List FileP} (h : Shows D rs fs) : rs.map (·.name) = fs.map (·.1) := by
  unfold Shows at h
  induction h with
  | nil => rfl
  | cons a _ ih => rw [List.map_cons, List.map_cons, ih, a.1]
theorem rows_up {rs : List FR} (h : (rs.map (·.name)).Pairwise fun a b => cl a < cl b) : Up (rs.map rowD) := by
  unfold Up
  rw [List.pairwise_map] at h ⊢
  exact h.imp fun h => lt_str1 h
theorem head_join (f : FileP) : Txt.join " " ["file", f.1, natS f.2.length] = headRow f := by
  rw [tjoin]
  refine cl_inj ?_
  rw [join_cons, join_cons]
  have e0 : Str.join " " [natS f.2.length] = natS f.2.length := rfl
  have e1 : cl ("file " : Str) = cl ("file" : Str) ++ cl (" " : Str) := by decide +kernel
  rw [e0]
  unfold headRow
  rw [cl_app, cl_app, cl_app, e1]
  simp only [List.append_assoc]
def spShowOf (K : PySem.W.Frag) : Sp := fun vs H Q E => ∃ (s : Addr) (A : StA) (D : StD) (v : V), vs = [.ref s, v] ∧ StAt K H s A D ∧
  AtV K H D v (fun i => ∃ ps rs fs, D.vers.lookup i = some (ps, rs) ∧ Shows D rs fs ∧ Good fs ∧ ∀ H', Same H H' → Q (.str (pageOf fs)) H') (fun x => ∀ H', Same H H' → ErrV K x "value" v H' E)
abbrev N_show_of : List Str := ["state", "at", "rows", "name", "lines", "file"]
theorem sc_show_of : FnScope N_show_of ["state", "at"] (defScope s_show_of) := ⟨rfl, rfl, rfl, by decide +kernel, rfl, by decide +kernel, by decide +kernel⟩
theorem ok_show_of (G : PgOk P) (T : Wt K mg) : Def P w K mg base 5 d_show_of ["state", "at"] (spShowOf K) := by
  have D_version_at := ok_version_at (P := P) (w := w) (base := base) G T
  have D_files_of := ok_files_of (P := P) (w := w) (base := base) T
  have D_texts_of := ok_texts_of (P := P) (w := w) (base := base) T
  refine mk_defX (F_show_of T) rfl sc_show_of (fun vs H Q E h => ?_) (fun _ _ _ _ _ _ us hl => match us, hl with | [_, _], _ => rfl) (fun cdv A outer s H vs Q E hr h => ?_)
  · obtain ⟨s, A, D, v, rfl, _⟩ := h
    rfl
  · have sc := sc_show_of
    obtain ⟨s, A, D, v, rfl, hS, hat⟩ := h
    refine ⟨_, (pss_cons (ps_set (i := 2) sc.nd rfl (Or.inl rfl) (pe_lst pa_nil))
      (pss_cons (ps_for (passes_of rfl) rfl (pi_list (pe_callB (call_sortedD2 (hu100 hr)) (by rfl) (z_sorted T) (by decide +kernel) (pa_cons (pe_lc (own := [("file", 5), ("name", 3), ("lines", 4)]) rfl sc.nd (pi_tup (pcall D_files_of (hr.mono (by decide)) (by rfl) (g_files_of T) passL (pa_cons (pv 0) (pa_cons (pcall D_version_at (hr.mono (by decide)) (by rfl) (g_version_at T) (passes_call (takes_of rfl rfl rfl rfl) fun _ _ _ _ h => h) (pa_cons (pv 0) (pa_cons (pv 1) pa_nil))) pa_nil)))) (blkOk_by (N := N_show_of) (sc := defScope s_show_of) (by decide +kernel)) (fun _ _ _ _ _ => (pg_tupK (K := K) (n := 3) rfl (pgs_cons (pg_name (i := 5) sc.nd rfl (Or.inl rfl)) (pgs_cons (pg_name (i := 3) sc.nd rfl (Or.inl rfl)) (pgs_cons (pg_name (i := 4) sc.nd rfl (Or.inl rfl)) pgs_nil))))) (fun _ _ _ _ _ => pts_nil) (fun _ _ _ _ _ => (pe_tup (pa_cons (pv 3) (pa_cons (pv 4) pa_nil))))) pa_nil))) (pg_tup rfl (pgs_cons (pg_name (i := 3) sc.nd rfl (Or.inl rfl)) (pgs_cons (pg_name (i := 4) sc.nd rfl (Or.inl rfl)) pgs_nil)))
        (pss_cons (ps_expr (pe_bm PySem.F.plainAttrs_list PySem.F.slot_list_append PySem.F.type_list_append mt_append (pv 2) (pa_cons (pe_join (pgs (v_BLANK_sheets T)) (pe_lst (pa_cons (pgs (v_FILE_sheets T)) (pa_cons (pv 3) (pa_cons (pe_callTy (T := "str") call_str_int (by rfl) (z_str T) (by decide +kernel) (pa_cons (pe_callB call_len_seq (by rfl) (z_len T) (by decide +kernel) (pa_cons (pv 4) pa_nil)) pa_nil)) pa_nil))))) pa_nil)))
        (pss_one (ps_expr (pe_bm PySem.F.plainAttrs_list PySem.F.slot_list_extend PySem.F.type_list_extend mt_extendT (pv 2) (pa_cons (pcall D_texts_of (hr.mono (by decide)) (by rfl) (g_texts_of T) passL (pa_cons (pv 0) (pa_cons pe_dnewK (pa_cons (pv 4) pa_nil)))) pa_nil))))))
      (pss_one (ps_ret (pe_join (pgs (v_FEED_sheets T)) (pv 2)))))), ?_⟩
    have z0 : (0 : Nat) ≤ sizeLine := by decide
    refine ⟨z0, fun l0 h0 => set_ ?_⟩
    have s0 : Same H (upd H l0 (.lst [])) := nw (Same.refl H) h0
    have hl0 : (upd H l0 (.lst [])) l0 = some (.lst []) := upd_same
    generalize upd H l0 (.lst []) = H1 at s0 hl0
    refine ⟨_, rfl, _, rfl, _, rfl, s, A, D, v, rfl, hS.same s0, hat.to s0 (fun i ⟨ps, rs, fs, e, hsh, hg, q⟩ => ?_) (fun x e => e _ s0)⟩
    refine ⟨s, A, D, i, ps, rs, rfl, hS.same s0, e, fun f ⟨vs, hf, hvs⟩ => ⟨f, rfl, ⟨_, SqT.of hf⟩, fun C hC => ?_⟩⟩
    have hlen : vs.length ≤ 12 := by
      have z1 := hvs.len
      have z2 := hsh.len
      have z3 := hg.len
      omega
    refine lc_pureG (walk_tup (K := K) (a := f) (xs := vs)) (by omega) (fun i v H' => ∃ r t u, rs[i]? = some r ∧ v = .ref t ∧ H' t = some (.tup [.str r.name, .ref u]) ∧ H' u = some (.tup (r.lines.map V.int))) (fun H' s2 => SqT.of (s2 _ _ hf)) (fun i v H2 H3 ts ⟨r, t, u, e1, e2, e3, e4⟩ => ⟨r, t, u, e1, e2, ts _ _ e3, ts _ _ e4⟩) hC
      (fun i x H2 H3 R hi s2 hy kk => ?_) (fun xs H2 hx2 hl2 s2 hev => ?_) gTup3_mono
    · obtain ⟨rfl, hx⟩ := hy
      obtain ⟨r, hr0, t, u, rfl, ht, hu⟩ := hvs.at1 hx
      refine ⟨t, _, rfl, SqT.of (s2 _ _ ht), rfl, _, _, rfl, _, _, rfl, _, _, rfl, rfl, rfl, ?_⟩
      refine ⟨_, rfl, _, rfl, (by show 2 ≤ sizeLine; decide), fun p hp => kk _ _ (nw (Same.refl _) hp) ⟨r, p, u, hr0, rfl, upd_same, new_at (s2 _ _ hu) hp⟩⟩
    have hrl := hvs.len
    have hsl := hsh.len
    have hxr : All2 (SRow H2) xs rs := all2_of (by omega) fun j a b h1 h2 => by
      obtain ⟨r, t, u, e1, e2, e3, e4⟩ := hev j a h1
      rw [h2] at e1
      cases e1
      exact ⟨t, u, e2, e3, e4⟩
    have hnm := shows_names hsh
    have hup : Up (rs.map rowD) := rows_up (by rw [hnm]; exact hg.asc)
    refine ⟨C, xs, rs.map rowD, rfl, SqL.of hx2, dp_srow hxr, rows_alike rs, rows_sortable rs, rows_deep rs, fun p hp => ?_⟩
    rw [sortD_eq (by rw [List.length_map]; omega) (List.Perm.refl _) hup]
    have hl2 : H2 l0 = some (.lst []) := s2 _ _ hl0
    have s3 : Same H2 (upd H2 p (.lst xs)) := nw (Same.refl _) hp
    have hp3 : (upd H2 p (.lst xs)) p = some (.lst xs) := upd_same
    have nlp : l0 ≠ p := ne_of_none hl2 hp
    generalize upd H2 p (.lst xs) = H3 at s3 hp3
    have sH : Same H H3 := (s0.trans s2).trans s3
    refine ⟨p, rfl, ⟨_, SqL.of hp3⟩, ?_⟩
    have hsm := rowsOf_small (fun f hf => (hg.nm f hf).1) hg.tx
    refine for_list (K := K) (xs := xs) (fun j σ H' => ∃ a b c, σ = [some (.ref s), some v, some (.ref l0), a, b, c] ∧ H' l0 = some (.lst ((rowsOf (fs.take j)).map V.str)) ∧ Kp [l0] H3 H') ⟨none, none, none, rfl, s3 _ _ hl2, Kp.refl _ _⟩ (fun j σ H' _ ⟨_, _, _, _, _, k⟩ => SqL.of (k _ _ (by simp [Ne.symm nlp]) hp3)) (fun j x σ H4 hx ⟨a, b, c, eσ, hl, k⟩ => ?_) (fun σ H4 ⟨a, b, c, eσ, hl, k⟩ => ?_)
    · subst eσ
      have ts4 : TSame H3 H4 := k.ts fun q hq ys e => by
        have z : q = l0 := by simpa using hq
        rw [z, s3 _ _ hl2] at e
        cases e
      obtain ⟨r, hr0, t, u, rfl, ht, hu⟩ := hxr.at1 hx
      obtain ⟨fl, hfl, hnm2, htx⟩ := hsh.at1 hr0
      obtain ⟨g1, g2⟩ := hg.tx fl (List.mem_of_getElem? hfl)
      have g3 := (hg.nm fl (List.mem_of_getElem? hfl)).1
      have ht4 := ts4 _ _ (s3 _ _ ht)
      have hu4 := ts4 _ _ (s3 _ _ hu)
      have nl := isName_len g3
      have ns := natS_len g1
      have small : ∀ {k : Nat}, k ≤ 10000 → k ≤ sizeLine := fun h => Nat.le_trans h (by decide)
      have hll : r.lines.length = fl.2.length := htx.len
      have hsub : (rowsOf (fs.take j)).length ≤ 61 * 12 := by
        obtain ⟨z, _⟩ := rowsOf_small (fs := fs.take j) (fun f hf => (hg.nm f (List.mem_of_mem_take hf)).1) (fun f hf => hg.tx f (List.mem_of_mem_take hf))
        rw [List.length_take] at z
        exact Nat.le_trans z (Nat.mul_le_mul_left _ (by omega))
      refine ⟨t, _, rfl, SqT.of ht4, rfl, _, _, rfl, _, _, rfl, rfl, ?_⟩
      refine ⟨_, rfl, .inl ⟨rfl, _, SqL.of hl⟩, ⟨_, rfl⟩, _, rfl, _, rfl, u, _, rfl, .inr (SqT.of hu4), _, rfl, ?_, (by show 3 ≤ sizeLine; decide), fun l1 h1 => ?_⟩
      · rw [List.length_map]
        have : Nat.log2 ((r.lines.length : Int)).natAbs ≤ ((r.lines.length : Int)).natAbs := Nat.log2_le_self _
        omega
      have eN : Str.ofString (toString (((r.lines.map V.int).length : Nat) : Int)) = natS fl.2.length := by
        rw [List.length_map, hll]
        rfl
      rw [eN, hnm2]
      have hl1 : (upd H4 l1 (.lst [.str "file", .str fl.1, .str (natS fl.2.length)])) l0 = some (.lst ((rowsOf (fs.take j)).map V.str)) := new_at hl h1
      have k1 : Kp [l0] H3 (upd H4 l1 (.lst [.str "file", .str fl.1, .str (natS fl.2.length)])) := k.nw h1
      refine ⟨" ", l1, ["file", fl.1, natS fl.2.length], rfl, rfl, .inl (SqL.of upd_same), ?_, l0, _, _, rfl, rfl, hl1, ?_, ?_⟩
      · have e1 : ("file" : Str).length = 4 := by decide +kernel
        have e2 : (" " : Str).length = 1 := by decide +kernel
        simp only [List.map_cons, List.map_nil, List.sum_cons, List.sum_nil, List.length_cons, List.length_nil, e1, e2]
        omega
      · rw [List.length_map]
        exact Nat.lt_of_le_of_lt hsub (by decide)
      rw [head_join]
      have k2 := k1.put (o := .lst ((rowsOf (fs.take j)).map V.str ++ [.str (headRow fl)])) (q := l0) (by simp)
      have hl5 : (upd (upd H4 l1 (.lst [.str "file", .str fl.1, .str (natS fl.2.length)])) l0 (.lst ((rowsOf (fs.take j)).map V.str ++ [.str (headRow fl)]))) l0 = some (.lst ((rowsOf (fs.take j)).map V.str ++ [.str (headRow fl)])) := upd_same
      generalize upd (upd H4 l1 (.lst [.str "file", .str fl.1, .str (natS fl.2.length)])) l0 (.lst ((rowsOf (fs.take j)).map V.str ++ [.str (headRow fl)])) = H5 at k2 hl5
      have ts5 : TSame H3 H5 := k2.ts fun q hq ys e => by
        have z : q = l0 := by simpa using hq
        rw [z, s3 _ _ hl2] at e
        cases e
      refine ⟨_, rfl, .inl ⟨rfl, _, SqL.of hl5⟩, _, rfl, fun d hd => ⟨_, rfl, ?_⟩⟩
      have nl0 : ∀ q ∈ [s, A.lb, A.vb, A.hb, A.kb, A.ob], q ∉ [l0] := fun q hq z => by
        have z2 : q = l0 := by simpa using z
        exact hS.there q hq (by rw [z2]; exact h0)
      have S5 : StAt K H5 s A D := (hS.same sH).kp k2 nl0 ts5
      have S6 : StAt K (upd H5 d (.dK [])) s A D := S5.same (nw (Same.refl _) hd)
      have hu5 := ts5 _ _ (s3 _ _ hu)
      refine ⟨s, A, D, d, u, [], r.lines, fl.2, rfl, S6, upd_same, new_at hu5 hd, by omega, htx.mono fun _ _ z => .inr ⟨rfl, z⟩, fun H6 pp s6 hpp => ⟨l0, pp, _, _, rfl, rfl, s6 _ _ (new_at hl5 hd), hpp, ?_, ?_⟩⟩
      · rw [List.length_append, List.length_map, List.length_map, List.length_singleton]
        exact small (by omega)
      · refine ⟨_, _, _, rfl, ?_, ((k2.nw hd).trans (Kp.same s6)).put (by simp)⟩
        rw [upd_same, take_snoc hfl, rowsOf_app]
        simp [rowsOf]
    · subst eσ
      have e : fs.take xs.length = fs := List.take_of_length_le (by omega)
      rw [e] at hl
      have sF : Same H H4 := fun q o eq => k q o (by rw [List.mem_singleton]; exact ne_of_none eq h0) (sH q o eq)
      refine ⟨⟨_, rfl⟩, _, rfl, "\n", l0, _, rfl, rfl, .inl (SqL.of hl), ?_, q _ sF⟩
      have b1 := sum_le hsm.2
      have e1 : ("\n" : Str).length = 1 := by decide +kernel
      have := hg.len
      rw [e1]
      omega
def spShow (K : PySem.W.Frag) : Sp := fun vs H Q E => ∃ (x dx dk g s : Addr) (A : StA) (D : StD) (v : V), vs = [.ref x, v] ∧ StoAt K H x dx dk g s ∧ StAt K H s A D ∧
  AtV K H D v (fun i => ∃ ps rs fs, D.vers.lookup i = some (ps, rs) ∧ Shows D rs fs ∧ Good fs ∧ ∀ H', Same H H' → Q (.str (pageOf fs)) H') (fun x => ∀ H', Same H H' → ErrV K x "value" v H' E)
abbrev N_Store_show : List Str := ["self", "at"]
theorem sc_Store_show : FnScope N_Store_show ["self", "at"] (defScope s_Store_show) := ⟨rfl, rfl, rfl, by decide +kernel, rfl, by decide +kernel, by decide +kernel⟩
theorem ok_show (G : PgOk P) (T : Wt K mg) : Def P w K mg base 6 d_Store_show ["self", "at"] (spShow K) := by
  have D_show_of := ok_show_of (P := P) (w := w) (base := base) G T
  refine mk_defX (F_Store_show T) rfl sc_Store_show (fun vs H Q E h => ?_) (fun _ _ _ _ _ _ us hl => match us, hl with | [_, _], _ => rfl) (fun cdv A outer s H vs Q E hr h => ?_)
  · obtain ⟨x, dx, dk, g, s, A, D, v, rfl, _⟩ := h
    rfl
  · have sc := sc_Store_show
    obtain ⟨x, dx, dk, g, s, A, D, v, rfl, hx, hS, hat⟩ := h
    refine ⟨_, (pss_one (ps_ret (pcall D_show_of (hr.mono (by decide)) (by rfl) (g_show_of T) (passes_call (takes_of rfl rfl rfl rfl) fun _ _ _ _ h => h) (pa_cons (pe_fld (pv 0) rfl) (pa_cons (pv 1) pa_nil))))), ?_⟩
    exact ⟨_, rfl, x, _, _, _, _, rfl, hx.ins, c_Store T, n_Store_state T, rfl, _, rfl, s, A, D, v, rfl, hS, hat⟩
end
end Sk
/-! K93T: a work begun. -/
namespace Sk
open PySem PySem.Spec PyProof.Rows L2
abbrev cWk (K : PySem.W.Frag) : Addr := He.ga K "Work"
theorem putF_len (f : Str) (v : V) : ∀ fs : List (Str × V), (putF f v fs).length ≤ fs.length + 1
  | [] => by simp [putF]
  | (g, x) :: r => by
    unfold putF
    split
    · simp
    · have := putF_len f v r
      simp only [List.length_cons]
      omega
theorem look_ne {f g : Str} {v : V} {fs : List (Str × V)} (h : ¬ g = f) : (putF f v fs).lookup g = fs.lookup g := by
  rw [lookup_putF, if_neg h]
theorem look_eq {f : Str} {v : V} {fs : List (Str × V)} : (putF f v fs).lookup f = some v := by
  rw [lookup_putF, if_pos rfl]
/-- what have leaves of a work's fields -/
abbrev haveF (fs : List (Str × V)) (fl fr lt : Addr) : List (Str × V) := putF "line_texts" (.ref lt) (putF "fresh" (.ref fr) (putF "files" (.ref fl) fs))
abbrev beginF (fs : List (Str × V)) (v : Int) (f fr lt : Addr) : List (Str × V) := haveF (putF "first_files" (.ref f) (putF "start_version" (.int v) fs)) f fr lt
/-- an object with a field "store" is none of a state's, of a store's -/
theorem noW {H : Hp} {x q : Addr} {C C' dx dx' : Addr} {fs fs' : List (Str × V)} {v : V} (hx : H x = some (.ins C dx fs)) (l : fs.lookup ("store" : Str) = some v) (hq : H q = some (.ins C' dx' fs')) (n : fs'.lookup ("store" : Str) = none) : q ≠ x := fun e => by
  rw [e, hx] at hq
  injection hq with hq
  injection hq with _ _ e3
  rw [e3, n] at l
  cases l
theorem StAt.noW {K : PySem.W.Frag} {H : Hp} {s : Addr} {A : StA} {D : StD} (h : StAt K H s A D) {x C dx : Addr} {fs : List (Str × V)} {v : V} (hx : H x = some (.ins C dx fs)) (l : fs.lookup ("store" : Str) = some v) : ∀ q ∈ [s, A.lb, A.vb, A.hb, A.kb, A.ob], q ≠ x := fun q hq => by
  obtain ⟨b1, b2, _⟩ := h.book
  obtain ⟨v1, v2, _⟩ := h.vers
  have z : q = s ∨ q = A.lb ∨ q = A.vb ∨ q = A.hb ∨ q = A.kb ∨ q = A.ob := by simpa using hq
  rcases z with e | e | e | e | e | e <;> rw [e]
  · exact Sk.noW hx l h.ins rfl
  · exact ne_of b2 hx (by intro z; cases z)
  · exact ne_of v2 hx (by intro z; cases z)
  · exact ne_of h.heads hx (by intro z; cases z)
  · exact ne_of h.kept hx (by intro z; cases z)
  · exact ne_of h.watch hx (by intro z; cases z)
theorem StoAt.noW {K : PySem.W.Frag} {H : Hp} {y dy dk g s : Addr} (h : StoAt K H y dy dk g s) {x C dx : Addr} {fs : List (Str × V)} {v : V} (hx : H x = some (.ins C dx fs)) (l : fs.lookup ("store" : Str) = some v) : ∀ q ∈ [y, dk, g], q ≠ x := fun q hq => by
  obtain ⟨d1, d2, d3⟩ := h.disk
  obtain ⟨g1, g2⟩ := h.groups
  have z : q = y ∨ q = dk ∨ q = g := by simpa using hq
  rcases z with e | e | e <;> rw [e]
  · exact Sk.noW hx l h.ins rfl
  · exact Sk.noW hx l d3 rfl
  · exact ne_of g2 hx (by intro z; cases z)
section
variable {P : Program} {w : World} {K : PySem.W.Frag} {mg : Str → Option Value} {base : Heap}
def spHave (K : PySem.W.Frag) : Sp := fun vs H Q _ => ∃ (x dx f fr sto dS dk g s : Addr) (fs : List (Str × V)) (rs : List FR) (A : StA) (D : StD), vs = [.ref x, .ref f, .ref fr] ∧ H x = some (.ins (cWk K) dx fs) ∧ fs.length ≤ 100 ∧ fs.lookup ("store" : Str) = some (.ref sto) ∧
  StoAt K H sto dS dk g s ∧ StAt K H s A D ∧ RowsAt H f rs ∧ H fr = some (.dK []) ∧ (allLines rs).Nodup ∧ (allLines rs).length < 100000 ∧ (∀ j ∈ allLines rs, ∃ d, D.book.lookup j = some d) ∧
  ∀ H' lt kvs, Kp [x] H H' → H lt = none → H' lt = some (.dK kvs) → kvs.map (·.1) = (allLines rs).map Sum.inl → H' x = some (.ins (cWk K) dx (haveF fs f fr lt)) → Q .non H'
abbrev N_Work_have : List Str := ["self", "files", "fresh", "line"]
theorem sc_Work_have : FnScope N_Work_have ["self", "files", "fresh"] (defScope s_Work_have) := ⟨rfl, rfl, rfl, by decide +kernel, rfl, by decide +kernel, by decide +kernel⟩
theorem ok_have (T : Wt K mg) : Def P w K mg base 2 d_Work_have ["self", "files", "fresh"] (spHave K) := by
  have D_lines_in := ok_lines_in (P := P) (w := w) (base := base) T
  have D_line_text := ok_line_text (P := P) (w := w) (base := base) T
  refine mk_def (F_Work_have T) rfl sc_Work_have (fun vs H Q E h => ?_) (fun _ _ _ _ _ _ us hl => match us, hl with | [_, _, _], _ => rfl) (fun cdv A outer s H vs Q E hr h => ?_)
  · obtain ⟨x, dx, f, fr, sto, dS, dk, g, s, fs, rs, A, D, rfl, _⟩ := h
    rfl
  · have sc := sc_Work_have
    obtain ⟨x, dx, f, fr, sto, dS, dk, g, s, fs, rs, A, D, rfl, hx, hfl, hst, hSto, hS, hF, hfr, hnd, hlt, hbk, q⟩ := h
    refine ⟨_, (pss_cons (ps_fld (pv 0) (pv 1) rfl)
      (pss_cons (ps_fld (pv 0) (pv 2) rfl)
      (pss_one (ps_fld (pv 0) (pe_dc (own := [("line", 3)]) rfl sc.nd (pi_keysN (pcall D_lines_in (hr.mono (by decide)) (by rfl) (g_lines_in T) passL (pa_cons (pv 1) pa_nil))) (blkOk_by (N := N_Work_have) (sc := defScope s_Work_have) (by decide +kernel)) (fun _ _ _ _ _ => (pg_name (i := 3) sc.nd rfl (Or.inl rfl))) (fun _ _ _ _ _ => pts_nil) (fun _ _ _ _ _ => (pv 3)) (fun _ _ _ _ _ => (pcall D_line_text (hr.mono (by decide)) (by rfl) (g_line_text T) passL (pa_cons (pe_fldK (K := K) (pe_fldK (K := K) (pv 0) rfl) rfl) (pa_cons (pv 2) (pa_cons (pv 3) pa_nil)))))) rfl)))), ?_⟩
    have c := c_Work T
    refine ⟨_, rfl, _, rfl, x, _, dx, _, rfl, hx, c, n_Work_files T, (by omega), ?_⟩
    have l1 := putF_len "files" (.ref f) fs
    refine ⟨_, rfl, _, rfl, x, _, dx, _, rfl, upd_same, c, n_Work_fresh T, (by omega), ?_⟩
    have l2 := putF_len "fresh" (.ref fr) (putF "files" (.ref f) fs)
    have h2x : (upd (upd H x (.ins (cWk K) dx (putF "files" (.ref f) fs))) x (.ins (cWk K) dx (putF "fresh" (.ref fr) (putF "files" (.ref f) fs)))) x = some (.ins (cWk K) dx (putF "fresh" (.ref fr) (putF "files" (.ref f) fs))) := upd_same
    have k2 : Kp [x] H (upd (upd H x (.ins (cWk K) dx (putF "files" (.ref f) fs))) x (.ins (cWk K) dx (putF "fresh" (.ref fr) (putF "files" (.ref f) fs)))) := ((Kp.refl _ _).put (by simp)).put (by simp)
    have t2 : TSame H (upd (upd H x (.ins (cWk K) dx (putF "files" (.ref f) fs))) x (.ins (cWk K) dx (putF "fresh" (.ref fr) (putF "files" (.ref f) fs)))) := k2.ts fun q hq ys e => by
      have z : q = x := by simpa using hq
      rw [z, hx] at e
      cases e
    generalize upd (upd H x (.ins (cWk K) dx (putF "files" (.ref f) fs))) x (.ins (cWk K) dx (putF "fresh" (.ref fr) (putF "files" (.ref f) fs))) = H2 at h2x k2 t2
    have nxs2 : ∀ q ∈ [s, A.lb, A.vb, A.hb, A.kb, A.ob], q ∉ [x] := fun q hq z => hS.noW hx hst q hq (by simpa using z)
    have nfr : fr ≠ x := ne_of hfr hx (by intro z; cases z)
    refine ⟨_, rfl, f, rs, rfl, hF.ts t2, hnd, hlt, fun H3 d kvs s3 hd0 hd ek => ⟨d, kvs, rfl, hd, fun o C hC => ?_⟩⟩
    have nCd : d ≠ C := ne_of_none upd_same hC
    have s4 : Same H2 (upd H3 d (.frz o (.dK kvs))) := same_put s3 hd0
    refine dc_it (walk_keys (d := d) (o := o) (kvs := kvs)) (fun i H' => ∃ kv2, H' C = some (.dK kv2) ∧ kv2.map (·.1) = ((allLines rs).take i).map Sum.inl ∧ Same H2 H' ∧ H' d = some (.frz o (.dK kvs))) ⟨[], upd_same, rfl, nw s4 hC, by rw [upd_ne nCd]; exact upd_same⟩ (fun i H' _ ⟨_, _, _, _, e⟩ => e) (fun i v H4 H5 hi ⟨kv2, hc2, ek2, s5, hd5⟩ ⟨e5, ky, v1, hk1, ev⟩ => ?_) (fun H' ⟨kv2, hc2, ek2, s5, hd5⟩ => ?_)
    · subst e5 ev
      have z : (kvs.map (·.1))[i]? = some ky := by rw [List.getElem?_map, hk1]; rfl
      rw [ek, List.getElem?_map] at z
      obtain ⟨j, hj, rfl⟩ := Option.map_eq_some_iff.mp z
      obtain ⟨dd, hdd⟩ := hbk j (List.mem_of_getElem? hj)
      have S5 : StAt K H5 s A D := (hS.kp k2 nxs2 t2).same s5
      have So5 : StoAt K H5 sto dS dk g s := (hSto.kp k2 (fun q hq z => hSto.noW hx hst q hq (by simpa using z))).same s5
      refine ⟨wipe1, _, rfl, _, rfl, x, _, _, _, _, rfl, s5 _ _ h2x, c, n_Work_store T, ?_, sto, _, _, _, _, rfl, So5.ins, c_Store T, n_Store_state T, rfl, ?_⟩
      · rw [look_ne (by decide), look_ne (by decide)]
        exact hst
      refine ⟨_, rfl, _, rfl, s, A, D, fr, [], j, dd.text, rfl, S5, s5 _ _ (k2 _ _ (by simpa using nfr) hfr), .inr ⟨rfl, dd, hdd, rfl⟩, ?_⟩
      have nk : (Sum.inl j : Key) ∉ kv2.map (·.1) := by
        rw [ek2]
        intro hm
        obtain ⟨m, hm1, hm2⟩ := List.mem_map.mp hm
        have em : m = j := Sum.inl.inj hm2
        subst em
        have hsp : allLines rs = (allLines rs).take i ++ (m :: (allLines rs).drop (i + 1)) := by
          have hjl := (List.getElem?_eq_some_iff.mp hj).1
          rw [← (List.getElem?_eq_some_iff.mp hj).2, List.getElem_cons_drop, List.take_append_drop]
        rw [hsp] at hnd
        exact (List.nodup_append.mp hnd).2.2 m hm1 m (by simp) rfl
      have hlen : kv2.length < sizeLine := by
        have z := congrArg List.length ek2
        rw [List.length_map, List.length_map, List.length_take] at z
        refine Nat.lt_of_lt_of_le (show kv2.length < 100000 by omega) (by decide)
      refine ⟨kv2, .inl j, rfl, hc2, hlen, kv2 ++ [(.inl j, .str dd.text)], by rw [upd_same, putK_new nk], ?_, same_put s5 ?_, by rw [upd_ne nCd]; exact hd5⟩
      · rw [List.map_append, ek2, take_snoc hj]
        simp
      · cases q0 : H2 C with
        | none => rfl
        | some u =>
          have z2 := s4 _ _ q0
          rw [hC] at z2
          cases z2
    · have hC2 : H2 C = none := by
        cases q0 : H2 C with
        | none => rfl
        | some u =>
          have z2 := s4 _ _ q0
          rw [hC] at z2
          cases z2
      have hCx : C ≠ x := fun z => by rw [z, h2x] at hC2; cases hC2
      refine ⟨_, rfl, x, _, dx, _, rfl, s5 _ _ h2x, c, n_Work_line_texts T, (by omega), ?_⟩
      refine q _ C kv2 (((k2.trans (Kp.same s5))).put (by simp)) ?_ ?_ ?_ upd_same
      · cases q0 : H C with
        | none => rfl
        | some u =>
          have z2 := k2 _ _ (by simpa using hCx) q0
          rw [hC2] at z2
          cases z2
      · rw [upd_ne hCx]
        exact hc2
      · have hl : kvs.length = (allLines rs).length := by
          have z := congrArg List.length ek
          rw [List.length_map, List.length_map] at z
          exact z
        rw [ek2, hl, List.take_length]
end
end Sk
/-! K93U: a work is begun and made. -/
namespace Sk
open PySem PySem.Spec PyProof.Rows L2
section
variable {P : Program} {w : World} {K : PySem.W.Frag} {mg : Str → Option Value} {base : Heap}
theorem Kp.put1 {S : List Addr} {H H' : Hp} {x : Addr} {o : HO} (k : Kp S H H') (h : x ∈ S) : Kp S H (upd H' x o) := k.put h
/-- x alone, an instance, was changed -/
theorem kp1_ts {H H' : Hp} {x C dx : Addr} {fs : List (Str × V)} (hx : H x = some (.ins C dx fs)) (k : Kp [x] H H') : TSame H H' := k.ts fun q hq ys e => by
  have z : q = x := by simpa using hq
  rw [z, hx] at e
  cases e
theorem off1 {x : Addr} {l : List Addr} (h : x ∉ l) : ∀ q ∈ l, q ∉ [x] := fun q hq z => h (by
  have e : q = x := by simpa using z
  rw [← e]
  exact hq)
def spBegin (K : PySem.W.Frag) : Sp := fun vs H Q _ => ∃ (x dx sto dS dk g s : Addr) (fs : List (Str × V)) (rs : List FR) (ps : List Int) (A : StA) (D : StD) (v : Int), vs = [.ref x, .int v] ∧ H x = some (.ins (cWk K) dx fs) ∧ fs.length ≤ 50 ∧ fs.lookup ("store" : Str) = some (.ref sto) ∧ fs.lookup ("have" : Str) = none ∧
  StoAt K H sto dS dk g s ∧ StAt K H s A D ∧ D.vers.lookup v = some (ps, rs) ∧ (allLines rs).Nodup ∧ (allLines rs).length < 100000 ∧ (∀ j ∈ allLines rs, ∃ d, D.book.lookup j = some d) ∧
  ∀ H' f fr lt kvs, Kp [x] H H' → RowsAt H' f rs → H fr = none → H lt = none → fr ≠ lt → H' fr = some (.dK []) → H' lt = some (.dK kvs) → kvs.map (·.1) = (allLines rs).map Sum.inl → H' x = some (.ins (cWk K) dx (beginF fs v f fr lt)) → Q .non H'
abbrev N_Work_begin : List Str := ["self", "version"]
theorem sc_Work_begin : FnScope N_Work_begin ["self", "version"] (defScope s_Work_begin) := ⟨rfl, rfl, rfl, by decide +kernel, rfl, by decide +kernel, by decide +kernel⟩
theorem ok_begin (T : Wt K mg) : Def P w K mg base 3 d_Work_begin ["self", "version"] (spBegin K) := by
  have D_files_of := ok_files_of (P := P) (w := w) (base := base) T
  have D_Work_have := ok_have (P := P) (w := w) (base := base) T
  refine mk_def (F_Work_begin T) rfl sc_Work_begin (fun vs H Q E h => ?_) (fun _ _ _ _ _ _ us hl => match us, hl with | [_, _], _ => rfl) (fun cdv A outer s H vs Q E hr h => ?_)
  · obtain ⟨x, dx, sto, dS, dk, g, s, fs, rs, ps, A, D, v, rfl, _⟩ := h
    rfl
  · have sc := sc_Work_begin
    obtain ⟨x, dx, sto, dS, dk, g, s, fs, rs, ps, A, D, v, rfl, hx, hfl, hst, hhv, hSto, hS, hver, hnd, hlt, hbk, q⟩ := h
    refine ⟨_, (pss_cons (ps_fld (pv 0) (pv 1) rfl)
      (pss_cons (ps_fld (pv 0) (pcall D_files_of (hr.mono (by decide)) (by rfl) (g_files_of T) passL (pa_cons (pe_fld (pe_fld (pv 0) rfl) rfl) (pa_cons (pv 1) pa_nil))) rfl)
      (pss_one (ps_expr (pmeth (pv 0) (c_Work T) (m_Work_have T) D_Work_have rfl (hr.mono (by decide)) passL (pa_cons (pe_fld (pv 0) rfl) (pa_cons pe_dnewK pa_nil))))))), ?_⟩
    have c := c_Work T
    refine ⟨_, rfl, _, rfl, x, _, dx, _, rfl, hx, c, n_Work_start_version T, (by omega), ?_⟩
    have l1 := putF_len "start_version" (.int v) fs
    have h1x : (upd H x (.ins (cWk K) dx (putF "start_version" (.int v) fs))) x = some (.ins (cWk K) dx (putF "start_version" (.int v) fs)) := upd_same
    have k1 : Kp [x] H (upd H x (.ins (cWk K) dx (putF "start_version" (.int v) fs))) := (Kp.refl _ _).put (by simp)
    have t1 := kp1_ts hx k1
    generalize upd H x (.ins (cWk K) dx (putF "start_version" (.int v) fs)) = H1 at h1x k1 t1
    have S1 : StAt K H1 s A D := hS.kp k1 (fun q hq z => hS.noW hx hst q hq (by simpa using z)) t1
    have So1 : StoAt K H1 sto dS dk g s := hSto.kp k1 (fun q hq z => hSto.noW hx hst q hq (by simpa using z))
    refine ⟨_, rfl, x, _, _, _, _, rfl, h1x, c, n_Work_store T, ?_, sto, _, _, _, _, rfl, So1.ins, c_Store T, n_Store_state T, rfl, _, rfl, ?_⟩
    · rw [look_ne (by decide)]
      exact hst
    refine ⟨s, A, D, v, ps, rs, rfl, S1, hver, fun f hF => ⟨_, rfl, x, _, dx, _, rfl, h1x, c, n_Work_first_files T, (by omega), ?_⟩⟩
    have l2 := putF_len "first_files" (.ref f) (putF "start_version" (.int v) fs)
    have h2x : (upd H1 x (.ins (cWk K) dx (putF "first_files" (.ref f) (putF "start_version" (.int v) fs)))) x = some (.ins (cWk K) dx (putF "first_files" (.ref f) (putF "start_version" (.int v) fs))) := upd_same
    have k2 : Kp [x] H1 (upd H1 x (.ins (cWk K) dx (putF "first_files" (.ref f) (putF "start_version" (.int v) fs)))) := (Kp.refl _ _).put (by simp)
    have t2 := kp1_ts h1x k2
    generalize upd H1 x (.ins (cWk K) dx (putF "first_files" (.ref f) (putF "start_version" (.int v) fs))) = H2 at h2x k2 t2
    have k02 := k1.trans k2
    have t02 := t1.trans t2
    have S2 : StAt K H2 s A D := hS.kp k02 (fun q hq z => hS.noW hx hst q hq (by simpa using z)) t02
    have So2 : StoAt K H2 sto dS dk g s := hSto.kp k02 (fun q hq z => hSto.noW hx hst q hq (by simpa using z))
    refine ⟨_, rfl, x, dx, _, rfl, h2x, ?_, ⟨_, rfl, x, _, _, _, _, rfl, h2x, c, n_Work_first_files T, look_eq, fun fr hfr => ?_⟩⟩
    · rw [look_ne (by decide), look_ne (by decide)]
      exact hhv
    have hF2 : RowsAt (upd H2 fr (.dK [])) f rs := (hF.ts t2).ts (same_ts (nw (Same.refl _) hfr))
    have nfx : fr ≠ x := fun z => by rw [z, h2x] at hfr; cases hfr
    have hfr0 : H fr = none := by
      cases q0 : H fr with
      | none => rfl
      | some u =>
        have z2 := k02 _ _ (by simpa using nfx) q0
        rw [hfr] at z2
        cases z2
    refine ⟨x, dx, f, fr, sto, dS, dk, g, s, _, rs, A, D, rfl, new_at h2x hfr, (by omega), ?_, So2.same (nw (Same.refl _) hfr), S2.same (nw (Same.refl _) hfr), hF2, upd_same, hnd, hlt, hbk, fun H' lt kvs k3 hl0 hl ek hx' => ?_⟩
    · rw [look_ne (by decide), look_ne (by decide)]
      exact hst
    have k3' : Kp [x] H2 H' := ((Kp.refl [x] H2).nw hfr).trans k3
    have nlf : fr ≠ lt := fun z => by rw [← z, upd_same] at hl0; cases hl0
    have nlx : lt ≠ x := fun z => by rw [z, new_at h2x hfr] at hl0; cases hl0
    have hl2 : H2 lt = none := by
      rw [upd_ne (Ne.symm nlf)] at hl0
      exact hl0
    refine q H' f fr lt kvs (k02.trans k3') ?_ hfr0 ?_ nlf (k3 _ _ (by simpa using nfx) upd_same) hl ek hx'
    · exact hF2.ts (kp1_ts (new_at h2x hfr) k3)
    · cases q0 : H lt with
      | none => rfl
      | some u =>
        have z2 := k02 _ _ (by simpa using nlx) q0
        rw [hl2] at z2
        cases z2
/-- the fields of a work that stands -/
abbrev wkF (sto : Addr) (b : Str) (v : Int) (f0 f fr lt : Addr) : List (Str × V) := [("store", .ref sto), ("branch", .str b), ("trial_begun", .int 0), ("start_version", .int v), ("first_files", .ref f0), ("files", .ref f), ("fresh", .ref fr), ("line_texts", .ref lt)]
def spWkInit (K : PySem.W.Frag) : Sp := fun vs H Q _ => ∃ (x dx sto dS dk g s : Addr) (A : StA), vs = [.ref x, .ref sto, .str "main"] ∧ H x = some (.ins (cWk K) dx []) ∧ x ∉ [sto, dk, g] ∧ x ∉ [s, A.lb, A.vb, A.hb, A.kb, A.ob] ∧ StoAt K H sto dS dk g s ∧ StAt K H s A stD0 ∧
  ∀ H' f fr lt, Kp [x] H H' → RowsAt H' f [] → H fr = none → H lt = none → fr ≠ lt → H' fr = some (.dK []) → H' lt = some (.dK []) → H' x = some (.ins (cWk K) dx (wkF sto "main" 0 f f fr lt)) → Q .non H'
abbrev N_Work_init : List Str := ["self", "store", "branch"]
theorem sc_Work_init : FnScope N_Work_init ["self", "store", "branch"] (defScope s_Work_init) := ⟨rfl, rfl, rfl, by decide +kernel, rfl, by decide +kernel, by decide +kernel⟩
theorem ok_wkinit (G : PgOk P) (T : Wt K mg) : Def P w K mg base 4 d_Work_init ["self", "store", "branch"] (spWkInit K) := by
  have D_head_of := ok_head_of (P := P) (w := w) (base := base) G T
  have D_Work_begin := ok_begin (P := P) (w := w) (base := base) T
  have D_Store_trial_number := ok_trialno (P := P) (w := w) (base := base) T
  refine mk_def (F_Work_init T) rfl sc_Work_init (fun vs H Q E h => ?_) (fun _ _ _ _ _ _ us hl => match us, hl with | [_, _, _], _ => rfl) (fun cdv A outer s H vs Q E hr h => ?_)
  · obtain ⟨x, dx, sto, dS, dk, g, s, A, rfl, _⟩ := h
    rfl
  · have sc := sc_Work_init
    obtain ⟨x, dx, sto, dS, dk, g, s, A, rfl, hx, nx1, nx2, hSto, hS, q⟩ := h
    refine ⟨_, (pss_cons (ps_fld (pv 0) (pv 1) rfl)
      (pss_cons (ps_fld (pv 0) (pv 2) rfl)
      (pss_cons (ps_fld (pv 0) (pprop (pv 1) (c_Store T) (p_Store_trial_number T) D_Store_trial_number rfl (hr.mono (by decide)) passL) rfl)
      (pss_one (ps_expr (pmeth (pv 0) (c_Work T) (m_Work_begin T) D_Work_begin rfl (hr.mono (by decide)) passL (pa_cons (pcall D_head_of (hr.mono (by decide)) (by rfl) (g_head_of T) passL (pa_cons (pe_fld (pv 1) rfl) (pa_cons (pv 2) pa_nil))) pa_nil))))))), ?_⟩
    have c := c_Work T
    have st : ∀ {H1 : Hp}, Kp [x] H H1 → StAt K H1 s A stD0 ∧ StoAt K H1 sto dS dk g s := fun k => ⟨hS.kp k (off1 nx2) (kp1_ts hx k), hSto.kp k (off1 nx1)⟩
    refine ⟨_, rfl, _, rfl, x, _, dx, _, rfl, hx, c, n_Work_store T, (by decide), ?_⟩
    refine ⟨_, rfl, _, rfl, x, _, dx, _, rfl, upd_same, c, n_Work_branch T, (by have := putF_len "store" (.ref sto) []; simp only [List.length_nil] at this; omega), ?_⟩
    have k2 : Kp [x] H (upd (upd H x (.ins (cWk K) dx (putF "store" (.ref sto) []))) x (.ins (cWk K) dx (putF "branch" (.str "main") (putF "store" (.ref sto) [])))) := ((Kp.refl _ _).put (by simp)).put (by simp)
    have h2x : (upd (upd H x (.ins (cWk K) dx (putF "store" (.ref sto) []))) x (.ins (cWk K) dx (putF "branch" (.str "main") (putF "store" (.ref sto) [])))) x = some (.ins (cWk K) dx (putF "branch" (.str "main") (putF "store" (.ref sto) []))) := upd_same
    generalize upd (upd H x (.ins (cWk K) dx (putF "store" (.ref sto) []))) x (.ins (cWk K) dx (putF "branch" (.str "main") (putF "store" (.ref sto) []))) = H2 at k2 h2x
    obtain ⟨S2, So2⟩ := st k2
    refine ⟨_, rfl, sto, _, _, rfl, So2.ins, sto, dS, dk, g, s, rfl, So2, ?_⟩
    refine ⟨_, rfl, x, _, dx, _, rfl, h2x, c, n_Work_trial_begun T, (by have z1 := putF_len "store" (.ref sto) []; have z2 := putF_len "branch" (.str "main") (putF "store" (.ref sto) []); simp only [List.length_nil] at z1; omega), ?_⟩
    have k3 : Kp [x] H (upd H2 x (.ins (cWk K) dx (putF "trial_begun" (.int 0) (putF "branch" (.str "main") (putF "store" (.ref sto) []))))) := k2.put (by simp)
    have h3x : (upd H2 x (.ins (cWk K) dx (putF "trial_begun" (.int 0) (putF "branch" (.str "main") (putF "store" (.ref sto) []))))) x = some (.ins (cWk K) dx (putF "trial_begun" (.int 0) (putF "branch" (.str "main") (putF "store" (.ref sto) [])))) := upd_same
    generalize upd H2 x (.ins (cWk K) dx (putF "trial_begun" (.int 0) (putF "branch" (.str "main") (putF "store" (.ref sto) [])))) = H3 at k3 h3x
    obtain ⟨S3, So3⟩ := st k3
    refine ⟨_, rfl, x, dx, _, rfl, h3x, rfl, ⟨_, rfl, sto, _, _, _, _, rfl, So3.ins, c_Store T, n_Store_state T, rfl, _, rfl, s, A, stD0, "main", rfl, S3, fun i e => ?_, fun e => by cases e⟩⟩
    have ei : i = 0 := by
      have z : some (0 : Int) = some i := e
      exact (Option.some.inj z).symm
    subst ei
    refine ⟨x, dx, sto, dS, dk, g, s, _, [], [], A, stD0, 0, rfl, h3x, (by have z1 := putF_len "store" (.ref sto) []; have z2 := putF_len "branch" (.str "main") (putF "store" (.ref sto) []); have z3 := putF_len "trial_begun" (.int 0) (putF "branch" (.str "main") (putF "store" (.ref sto) [])); simp only [List.length_nil] at z1; omega), rfl, rfl, So3, S3, rfl, List.nodup_nil, (by decide), (fun j hj => by cases hj), fun H' f fr lt kvs k4 hF hfr hlt nfl hfr2 hlt2 ek hx' => ?_⟩
    have e0 : kvs = [] := List.map_eq_nil_iff.mp ek
    subst e0
    have back : ∀ {p : Addr}, H3 p = none → H p = none := fun {p} hp => by
      have npx : p ≠ x := fun z => by rw [z, h3x] at hp; cases hp
      cases q0 : H p with
      | none => rfl
      | some u =>
        have z2 := k3 _ _ (by simpa using npx) q0
        rw [hp] at z2
        cases z2
    exact q H' f fr lt (k3.trans k4) hF (back hfr) (back hlt) nfl hfr2 hlt2 hx'
def spWork (K : PySem.W.Frag) : Sp := fun vs H Q _ => ∃ (sto dS dk g s : Addr) (A : StA), vs = [.ref sto, .str "main"] ∧ StoAt K H sto dS dk g s ∧ StAt K H s A stD0 ∧
  ∀ H' x dx f fr lt, Same H H' → H x = none → RowsAt H' f [] → H fr = none → H lt = none → fr ≠ lt → H' fr = some (.dK []) → H' lt = some (.dK []) → H' x = some (.ins (cWk K) dx (wkF sto "main" 0 f f fr lt)) → Q (.ref x) H'
abbrev N_Store_work : List Str := ["self", "branch"]
theorem sc_Store_work : FnScope N_Store_work ["self", "branch"] (defScope s_Store_work) := ⟨rfl, rfl, rfl, by decide +kernel, rfl, by decide +kernel, by decide +kernel⟩
theorem ok_work (G : PgOk P) (T : Wt K mg) : Def P w K mg base 6 d_Store_work ["self", "branch"] (spWork K) := by
  have D_Work_init := ok_wkinit (P := P) (w := w) (base := base) G T
  refine mk_def (F_Store_work T) rfl sc_Store_work (fun vs H Q E h => ?_) (fun _ _ _ _ _ _ us hl => match us, hl with | [_, _], _ => rfl) (fun cdv A outer s H vs Q E hr h => ?_)
  · obtain ⟨sto, dS, dk, g, s, A, rfl, _⟩ := h
    rfl
  · have sc := sc_Store_work
    obtain ⟨sto, dS, dk, g, s, A, rfl, hSto, hS, q⟩ := h
    refine ⟨_, (pss_one (ps_ret (pmake (k_Work T) D_Work_init rfl (hr.mono (by decide)) (by rfl) (g_Work T) passL (pa_cons (pv 0) (pa_cons (pv 1) pa_nil))))), ?_⟩
    refine ⟨_, rfl, _, rfl, fun x dx hx hdx nd => ?_⟩
    have s1 : Same H (upd (upd H dx (.own x)) x (.ins (cWk K) dx [])) := nw (nw (Same.refl _) hdx) (by rw [upd_ne (Ne.symm nd)]; exact hx)
    refine ⟨x, dx, sto, dS, dk, g, s, A, rfl, upd_same, ?_, ?_, hSto.same s1, hS.same s1, fun H' f fr lt k hF hfr hlt nfl h1 h2 h3 => ⟨rfl, ?_⟩⟩
    · intro z
      obtain ⟨d1, d2, d3⟩ := hSto.disk
      obtain ⟨g1, g2⟩ := hSto.groups
      have z2 : x = sto ∨ x = dk ∨ x = g := by simpa using z
      rcases z2 with e | e | e <;> rw [e] at hx
      · rw [hSto.ins] at hx; cases hx
      · rw [d3] at hx; cases hx
      · rw [g2] at hx; cases hx
    · exact fun z => hS.there x z hx
    · have back : ∀ {p : Addr}, (upd (upd H dx (.own x)) x (.ins (cWk K) dx [])) p = none → H p = none := fun {p} hp => by
        cases q0 : H p with
        | none => rfl
        | some u =>
          have z2 := s1 _ _ q0
          rw [hp] at z2
          cases z2
      refine q H' x dx f fr lt (fun b o e => k b o ?_ (s1 b o e)) hx hF (back hfr) (back hlt) nfl h1 h2 h3
      rw [List.mem_singleton]
      exact ne_of_none e hx
end
end Sk
/-! K93V: a work's names, new lines, pairs of nothing. -/
namespace Sk
open PySem PySem.Spec PyProof.Rows L2
def FreshV (H : Hp) (v : V) (t : Str) : Prop := ∃ a, v = .ref a ∧ H a = some (.tup [.str t, .non])
theorem FreshV.ts {H H' : Hp} {v : V} {t : Str} (h : FreshV H v t) (s : TSame H H') : FreshV H' v t := by
  obtain ⟨a, e, h1⟩ := h
  exact ⟨a, e, s _ _ h1⟩
structure WkAt (K : PySem.W.Frag) (H : Hp) (x dx sto : Addr) (v : Int) (f0 f fr lt : Addr) (rs : List FR) (ft : List Str) : Prop where
  ins : H x = some (.ins (cWk K) dx (wkF sto "main" v f0 f fr lt))
  files : RowsAt H f rs
  fresh : ∃ kvs, H fr = some (.dK kvs) ∧ kvs.map (·.1) = (freshN ft.length).map Sum.inl ∧ All2 (FreshV H) (kvs.map (·.2)) ft
  ltd : ∃ kvs, H lt = some (.dK kvs) ∧ kvs.length ≤ ft.length
  nfl : fr ≠ lt
theorem WkAt.same {K : PySem.W.Frag} {H H' : Hp} {x dx sto : Addr} {v : Int} {f0 f fr lt : Addr} {rs : List FR} {ft : List Str} (h : WkAt K H x dx sto v f0 f fr lt rs ft) (s : L2.Same H H') : WkAt K H' x dx sto v f0 f fr lt rs ft := by
  obtain ⟨k1, h1, h2, h3⟩ := h.fresh
  obtain ⟨k2, h4, h5⟩ := h.ltd
  exact ⟨s _ _ h.ins, h.files.ts (same_ts s), ⟨k1, s _ _ h1, h2, h3.mono fun _ _ z => z.ts (same_ts s)⟩, ⟨k2, s _ _ h4, h5⟩, h.nfl⟩
theorem freshN_len (k : Nat) : (freshN k).length = k := by simp [freshN]
theorem freshN_snoc (k : Nat) : freshN (k + 1) = freshN k ++ [1000000000 + (k : Int)] := by
  unfold freshN
  rw [List.range_succ, List.map_append]
  rfl
theorem freshN_no (k : Nat) : (1000000000 + (k : Int)) ∉ freshN k := by
  unfold freshN
  intro h
  obtain ⟨j, h1, h2⟩ := List.mem_map.mp h
  have := List.mem_range.mp h1
  omega
theorem all2_snoc {α β : Type} {R : α → β → Prop} {l : List α} {m : List β} {a : α} {b : β} (h : All2 R l m) (r : R a b) : All2 R (l ++ [a]) (m ++ [b]) := by
  induction h with
  | nil => exact .cons r .nil
  | cons q _ ih => exact .cons q ih
section
variable {P : Program} {w : World} {K : PySem.W.Frag} {mg : Str → Option Value} {base : Heap}
def spListing (K : PySem.W.Frag) : Sp := fun vs H Q _ => ∃ (x dx f : Addr) (fs : List (Str × V)) (rs : List FR), vs = [.ref x] ∧ H x = some (.ins (cWk K) dx fs) ∧ fs.lookup ("files" : Str) = some (.ref f) ∧ RowsAt H f rs ∧ rs.length < 64 ∧
  ∀ H' p (ys : List Str), Same H H' → ys.Perm (rs.map (·.name)) → SqT K H' p (ys.map V.str) → Q (.ref p) H'
abbrev N_Work_listing : List Str := ["self", "file", "name", "lines"]
theorem sc_Work_listing : FnScope N_Work_listing ["self"] (defScope s_Work_listing) := ⟨rfl, rfl, rfl, by decide +kernel, rfl, by decide +kernel, by decide +kernel⟩
theorem ok_listing (T : Wt K mg) : Def P w K mg base 1 d_Work_listing ["self"] (spListing K) := by
  refine mk_def (F_Work_listing T) rfl sc_Work_listing (fun vs H Q E h => ?_) (fun _ _ _ _ _ _ us hl => match us, hl with | [_], _ => rfl) (fun cdv A outer s H vs Q E hr h => ?_)
  · obtain ⟨x, dx, f, fs, rs, rfl, _⟩ := h
    rfl
  · have sc := sc_Work_listing
    obtain ⟨x, dx, f, fs, rs, rfl, hx, hf, ⟨vs, hfv, hvs⟩, hl, q⟩ := h
    refine ⟨_, (pss_one (ps_ret (pe_callTy (T := "tuple") call_tuple_of (by rfl) (z_tuple T) (by decide +kernel) (pa_cons (pe_callB cr_sortedS (by rfl) (z_sorted T) (by decide +kernel) (pa_cons (pe_lc (own := [("file", 1), ("name", 2), ("lines", 3)]) rfl sc.nd (pi_tup (pe_fld (pv 0) rfl)) (blkOk_by (N := N_Work_listing) (sc := defScope s_Work_listing) (by decide +kernel)) (fun _ _ _ _ _ => (pg_tupK (K := K) (n := 3) rfl (pgs_cons (pg_name (i := 1) sc.nd rfl (Or.inl rfl)) (pgs_cons (pg_name (i := 2) sc.nd rfl (Or.inl rfl)) (pgs_cons (pg_name (i := 3) sc.nd rfl (Or.inl rfl)) pgs_nil))))) (fun _ _ _ _ _ => pts_nil) (fun _ _ _ _ _ => (pv 2))) pa_nil)) pa_nil)))), ?_⟩
    have hlen := hvs.len
    refine ⟨_, rfl, x, _, dx, _, _, rfl, hx, c_Work T, n_Work_files T, hf, f, rfl, ⟨_, SqT.of hfv⟩, fun C hC => ?_⟩
    refine lc_pureG (walk_tup (K := K) (a := f) (xs := vs)) (by omega) (fun i v _ => ∃ r, rs[i]? = some r ∧ v = .str r.name) (fun H' s2 => SqT.of (s2 _ _ hfv)) (fun i v H2 H3 ts e => e) hC (fun i v H2 H3 R hi s2 hy kk => ?_) (fun xs H2 hx2 hl2 s2 hev => ?_) gTup3_mono
    · obtain ⟨rfl, hx⟩ := hy
      obtain ⟨r, hr0, t, u, rfl, ht, hu⟩ := hvs.at1 hx
      exact ⟨t, _, rfl, SqT.of (s2 _ _ ht), rfl, _, _, rfl, _, _, rfl, _, _, rfl, rfl, rfl, _, rfl, kk _ _ (Same.refl _) ⟨r, hr0, rfl⟩⟩
    have ex : xs = (rs.map (·.name)).map V.str := all2_strs (H := H2) (by rw [List.length_map]; omega) fun i v h => by
      obtain ⟨r, h1, h2⟩ := hev i v h
      exact ⟨r.name, by rw [List.getElem?_map, h1]; rfl, h2⟩
    subst ex
    refine ⟨C, rs.map (·.name), rfl, SqL.of hx2, by rw [List.length_map]; exact hl, fun ys p hp _ hp2 => ⟨p, _, rfl, .inl ⟨SqL.of upd_same, fun p2 hp3 => q _ p2 ys (nw (nw s2 hp2) hp3) hp (SqT.of upd_same)⟩⟩⟩
def spNewLine (K : PySem.W.Frag) : Sp := fun vs H Q _ => ∃ (x dx sto : Addr) (v : Int) (f0 f fr lt : Addr) (rs : List FR) (ft : List Str) (t : Str), vs = [.ref x, .str t] ∧ WkAt K H x dx sto v f0 f fr lt rs ft ∧ ft.length < 50000 ∧
  ∀ H', Kp [fr, lt] H H' → TSame H H' → WkAt K H' x dx sto v f0 f fr lt rs (ft ++ [t]) → Q (.int (1000000000 + (ft.length : Int))) H'
abbrev N_Work_new_line : List Str := ["self", "text", "line"]
theorem sc_Work_new_line : FnScope N_Work_new_line ["self", "text"] (defScope s_Work_new_line) := ⟨rfl, rfl, rfl, by decide +kernel, rfl, by decide +kernel, by decide +kernel⟩
theorem ok_new_line (T : Wt K mg) : Def P w K mg base 2 d_Work_new_line ["self", "text"] (spNewLine K) := by
  have D_next_fresh_d := ok_next_fresh_d (P := P) (w := w) (base := base) T
  refine mk_def (F_Work_new_line T) rfl sc_Work_new_line (fun vs H Q E h => ?_) (fun _ _ _ _ _ _ us hl => match us, hl with | [_, _], _ => rfl) (fun cdv A outer s H vs Q E hr h => ?_)
  · obtain ⟨x, dx, sto, v, f0, f, fr, lt, rs, ft, t, rfl, _⟩ := h
    rfl
  · have sc := sc_Work_new_line
    obtain ⟨x, dx, sto, v, f0, f, fr, lt, rs, ft, t, rfl, hW, hn, q⟩ := h
    refine ⟨_, (pss_cons (ps_set (i := 2) sc.nd rfl (Or.inl rfl) (pcall D_next_fresh_d (hr.mono (by decide)) (by rfl) (g_next_fresh T) passL (pa_cons (pe_fld (pv 0) rfl) pa_nil)))
      (pss_cons (ps_dput (hu_of hr) (pe_fld (pv 0) rfl) (pv 2) (pe_tup (pa_cons (pv 1) (pa_cons pe_non pa_nil))) rfl)
      (pss_cons (ps_dput (hu_of hr) (pe_fld (pv 0) rfl) (pv 2) (pv 1) rfl)
      (pss_one (ps_ret (pv 2)))))), ?_⟩
    have c := c_Work T
    obtain ⟨k1, h1, h2, h3⟩ := hW.fresh
    obtain ⟨k2, h4, h5⟩ := hW.ltd
    refine ⟨_, rfl, x, _, dx, _, _, rfl, hW.ins, c, n_Work_fresh T, rfl, fr, k1, ft.length, rfl, h1, h2, (by omega), fun H1 s1 => set_ ?_⟩
    have W1 := hW.same s1
    refine ⟨_, rfl, (by show 2 ≤ sizeLine; decide), fun a ha => ?_⟩
    have W2 := W1.same (nw (Same.refl H1) ha (o := .tup [.str t, .non]))
    have s2 : Same H (upd H1 a (.tup [.str t, .non])) := nw s1 ha
    have ha2 : (upd H1 a (.tup [.str t, .non])) a = some (.tup [.str t, .non]) := upd_same
    generalize upd H1 a (.tup [.str t, .non]) = H2 at W2 s2 ha2
    have hk1 : k1.length = ft.length := by
      have z := congrArg List.length h2
      rw [List.length_map, List.length_map, freshN_len] at z
      exact z
    have nk : (Sum.inl (1000000000 + (ft.length : Int)) : Key) ∉ k1.map (·.1) := by
      rw [h2]
      intro hm
      obtain ⟨m, hm1, hm2⟩ := List.mem_map.mp hm
      rw [Sum.inl.inj hm2] at hm1
      exact freshN_no _ hm1
    have small : ∀ {n : Nat}, n < 100000 → n < sizeLine := fun h => Nat.lt_of_lt_of_le h (by decide)
    refine ⟨_, rfl, x, _, dx, _, _, rfl, W2.ins, c, n_Work_fresh T, rfl, _, rfl, fr, _, rfl, DPut.k (k := .inl (1000000000 + (ft.length : Int))) (s2 _ _ h1) (small (by omega)), ?_⟩
    rw [putK_new nk]
    have nxf : x ≠ fr := ne_of hW.ins h1 (by intro z; cases z)
    have nxl : x ≠ lt := ne_of hW.ins h4 (by intro z; cases z)
    have naf : a ≠ fr := ne_of ha2 (s2 _ _ h1) (by intro z; cases z)
    have ts3 : TSame H2 (upd H2 fr (.dK (k1 ++ [(.inl (1000000000 + (ft.length : Int)), .ref a)]))) := fun b ys e => by
      rw [upd_ne (ne_of e (s2 _ _ h1) (by intro z; cases z))]
      exact e
    have k3 : Kp [fr, lt] H (upd H2 fr (.dK (k1 ++ [(.inl (1000000000 + (ft.length : Int)), .ref a)]))) := (Kp.same s2).put (by simp)
    have hx3 : (upd H2 fr (.dK (k1 ++ [(.inl (1000000000 + (ft.length : Int)), .ref a)]))) x = some (.ins (cWk K) dx (wkF sto "main" v f0 f fr lt)) := by
      rw [upd_ne nxf]
      exact W2.ins
    have hl3 : (upd H2 fr (.dK (k1 ++ [(.inl (1000000000 + (ft.length : Int)), .ref a)]))) lt = some (.dK k2) := by
      rw [upd_ne (Ne.symm hW.nfl)]
      exact s2 _ _ h4
    have hf3 : (upd H2 fr (.dK (k1 ++ [(.inl (1000000000 + (ft.length : Int)), .ref a)]))) fr = some (.dK (k1 ++ [(.inl (1000000000 + (ft.length : Int)), .ref a)])) := upd_same
    generalize upd H2 fr (.dK (k1 ++ [(.inl (1000000000 + (ft.length : Int)), .ref a)])) = H3 at ts3 k3 hx3 hl3 hf3
    have t03 : TSame H H3 := (same_ts s2).trans ts3
    refine ⟨_, rfl, _, rfl, x, _, dx, _, _, rfl, hx3, c, n_Work_line_texts T, rfl, _, rfl, lt, _, rfl, DPut.k (k := .inl (1000000000 + (ft.length : Int))) hl3 (small (by omega)), ?_⟩
    have ts4 : TSame H3 (upd H3 lt (.dK (putK k2 (.inl (1000000000 + (ft.length : Int))) (.str t)))) := fun b ys e => by
      rw [upd_ne (ne_of e hl3 (by intro z; cases z))]
      exact e
    have t04 := t03.trans ts4
    refine ⟨_, rfl, q _ (k3.put (by simp)) t04 ⟨?_, hW.files.ts t04, ⟨k1 ++ [(.inl (1000000000 + (ft.length : Int)), .ref a)], ?_, ?_, ?_⟩, ⟨_, upd_same, ?_⟩, hW.nfl⟩⟩
    · rw [upd_ne nxl]
      exact hx3
    · rw [upd_ne hW.nfl]
      exact hf3
    · rw [List.map_append, h2, List.length_append, List.length_singleton, freshN_snoc, List.map_append]
      rfl
    · rw [List.map_append]
      exact all2_snoc (h3.mono fun _ _ z => z.ts t04) ⟨a, rfl, (ts3.trans ts4) _ _ ha2⟩
    · have z : (putK k2 (.inl (1000000000 + (ft.length : Int))) (.str t)).length ≤ k2.length + 1 := by
        unfold putK
        split
        · rw [List.length_map]
          omega
        · rw [List.length_append]
          simp
      rw [List.length_append, List.length_singleton]
      omega
def spCheckTexts (K : PySem.W.Frag) : Sp := fun vs H Q _ => ∃ (l : Addr) (ts : List Str), vs = [.ref l] ∧ H l = some (.lst (ts.map V.str)) ∧ ts.length ≤ 60 ∧ (∀ t ∈ ts, isLine t = true) ∧ ∀ H', Same H H' → Q .non H'
abbrev N_check_texts : List Str := ["texts", "text"]
theorem sc_check_texts : FnScope N_check_texts ["texts"] (defScope s_check_texts) := ⟨rfl, rfl, rfl, by decide +kernel, rfl, by decide +kernel, by decide +kernel⟩
theorem ok_check_texts (T : Wt K mg) : Def P w K mg base 4 d_check_texts ["texts"] (spCheckTexts K) := by
  have D_check_line_text := ok_check_line_text (P := P) (w := w) (base := base) T
  refine mk_def (F_check_texts T) rfl sc_check_texts (fun vs H Q E h => ?_) (fun _ _ _ _ _ _ us hl => match us, hl with | [_], _ => rfl) (fun cdv A outer s H vs Q E hr h => ?_)
  · obtain ⟨l, ts, rfl, _⟩ := h
    rfl
  · have sc := sc_check_texts
    obtain ⟨l, ts, rfl, hl, hn, hln, q⟩ := h
    refine ⟨_, (pss_cons (ps_if (pt_not (pt_val (pe_callB call_isiT (by rfl) (z_isinstance T) (by decide +kernel) (pa_cons (pv 0) (pa_cons (pe_tup (pa_cons (pty (n := "tuple") (z_tuple T) (by decide +kernel)) (pa_cons (pty (n := "list") (z_list T) (by decide +kernel)) pa_nil))) pa_nil)))))
        (pss_one ps_never)
        pss_nil)
      (pss_cons (ps_for PassesOwn.never rfl (pi_list (pv 0)) (pg_name (i := 1) sc.nd rfl (Or.inl rfl))
        (pss_one (ps_expr (pcall D_check_line_text (hr.mono (by decide)) (by rfl) (g_check_line_text T) passL (pa_cons (pv 1) pa_nil)))))
      (pss_one (ps_if (pt_cmpR op_gt (pe_callB call_len_seq (by rfl) (z_len T) (by decide +kernel) (pa_cons (pv 0) pa_nil)) (pgi (v_MOST_LINES_state T)) (nomark _))
        (pss_one ps_never)
        pss_nil)))), ?_⟩
    refine ⟨_, rfl, (by show 2 ≤ sizeLine; decide), fun tp htp => ?_⟩
    have s1 : Same H (upd H tp (.tup [.ty "tuple", .ty "list"])) := nw (Same.refl _) htp
    have ht1 : (upd H tp (.tup [.ty "tuple", .ty "list"])) tp = some (.tup [.ty "tuple", .ty "list"]) := upd_same
    generalize upd H tp (.tup [.ty "tuple", .ty "list"]) = H1 at s1 ht1
    have hl1 := s1 _ _ hl
    refine ⟨.ref l, tp, _, .type "list", [.type "tuple", .type "list"], true, rfl, ht1, .cons (.ty _) (.cons (.ty _) .nil), .base (.lst hl1), by kernel_rfl, true, rfl, ?_⟩
    refine ⟨_, rfl, l, rfl, ⟨_, SqL.of hl1⟩, ?_⟩
    refine for_list (K := K) (xs := ts.map V.str) (fun i σ H' => ∃ a, σ = [some (.ref l), a] ∧ Same H H') ⟨none, rfl, s1⟩ (fun i σ H' _ ⟨_, _, s⟩ => s.seq (SqL.of hl)) (fun i x σ H' hx ⟨a, eσ, s⟩ => ?_) (fun σ H' ⟨a, eσ, s⟩ => ?_)
    · subst eσ
      rw [List.getElem?_map] at hx
      obtain ⟨t, ht, rfl⟩ := Option.map_eq_some_iff.mp hx
      have hm := List.mem_of_getElem? ht
      refine ⟨_, rfl, t, rfl, hln t hm, ?_, fun H2 s2 => ⟨_, rfl, s.trans s2⟩⟩
      have := isLine_len (hln t hm)
      exact Nat.lt_of_le_of_lt this (by decide)
    · subst eσ
      refine ⟨_, rfl, l, _, rfl, .inl (s.seq (SqL.of hl)), _, _, rfl, rfl, ?_⟩
      exact ⟨_, rfl, itd (fun z => absurd z (by rw [List.length_map]; omega)) (fun _ => q _ s)⟩
def spLongest (K : PySem.W.Frag) : Sp := fun vs H Q _ => ∃ (o l : Addr) (xs : List V), vs = [.ref o, .ref l] ∧ H o = some (.tup []) ∧ H l = some (.lst xs) ∧ xs.length ≤ 100 ∧ ∀ H' p r, Same H H' → H' p = some (.lst [.ref r]) → H' r = some (.lst (List.replicate (xs.length + 1) (.int 0))) → Q (.ref p) H'
abbrev N_longest_table : List Str := ["old", "new", "table", "one", "other", "turn", "most"]
theorem sc_longest_table : FnScope N_longest_table ["old", "new"] (defScope s_longest_table) := ⟨rfl, rfl, rfl, by decide +kernel, rfl, by decide +kernel, by decide +kernel⟩
theorem ok_longest (T : Wt K mg) : Def P w K mg base 1 d_longest_table ["old", "new"] (spLongest K) := by
  refine mk_def (F_longest_table T) rfl sc_longest_table (fun vs H Q E h => ?_) (fun _ _ _ _ _ _ us hl => match us, hl with | [_, _], _ => rfl) (fun cdv A outer s H vs Q E hr h => ?_)
  · obtain ⟨o, l, xs, rfl, _⟩ := h
    rfl
  · have sc := sc_longest_table
    obtain ⟨o, l, xs, rfl, ho, hl, hn, q⟩ := h
    refine ⟨_, (pss_cons (ps_setLc (i := 2) (own := [("turn", 5)]) rfl sc.nd rfl rfl (sw_true rfl rfl rfl (by decide +kernel)) (pi_range1 (by rfl) (z_range T) (pa_cons (pe_op op_add (pe_callB call_len_seq (by rfl) (z_len T) (by decide +kernel) (pa_cons (pv 0) pa_nil)) pe_int) pa_nil)) (blkOk_by (N := N_longest_table) (sc := defScope s_longest_table) (by decide +kernel)) (fun _ _ _ _ _ => (pg_name (i := 5) sc.nd rfl (Or.inl rfl))) (fun _ _ _ _ _ => pts_nil) (fun _ _ _ _ _ => (pe_op op_rep (pe_lst (pa_cons pe_int pa_nil)) (pe_op op_add (pe_callB (call_len_seqK (K := K)) (by rfl) (z_len T) (by decide +kernel) (pa_cons (pv 1) pa_nil)) pe_int))))
      (pss_cons (ps_for PassesOwn.never rfl (pi_revR (by rfl) (z_reversed T) (prg_1 (by rfl) (z_range T) (pe_callB call_len_seq (by rfl) (z_len T) (by decide +kernel) (pa_cons (pv 0) pa_nil)))) (pg_name (i := 3) sc.nd rfl (Or.inl rfl))
        (pss_one ps_never))
      (pss_one (ps_ret (pv 2))))), ?_⟩
    refine ⟨_, rfl, o, _, rfl, .inr (SqT.of ho), _, _, rfl, rfl, 1, rfl, (by decide), (by decide), fun C hC => ?_⟩
    refine lc_it (walk_range (lo := 0) (n := 1)) (fun i H' => Same H H' ∧ ((i = 0 ∧ H' C = some (.lst [])) ∨ (i = 1 ∧ ∃ r, H' C = some (.lst [.ref r]) ∧ H' r = some (.lst (List.replicate (xs.length + 1) (.int 0)))))) ⟨nw (Same.refl _) hC, .inl ⟨rfl, upd_same⟩⟩ (fun _ _ _ _ => trivial) (fun i v H1 H2 hi ⟨s1, h1⟩ hy => ?_) (fun H1 ⟨s1, h1⟩ => ?_)
    · obtain ⟨rfl, rfl⟩ := hy
      obtain rfl : i = 0 := by omega
      rcases h1 with ⟨_, h1⟩ | ⟨z, _⟩
      · refine ⟨rfl, (by show 1 ≤ sizeLine; decide), fun a ha => ?_⟩
        have s2 : Same H2 (upd H2 a (.lst [.int 0])) := nw (Same.refl _) ha
        refine ⟨_, rfl, l, xs, rfl, .inl ((s1.trans s2).seq (SqL.of hl)), _, _, rfl, rfl, a, _, [.int 0], rfl, rfl, upd_same, (by omega), (by omega), ?_, fun r hr => ?_⟩
        · refine Nat.le_trans (show [V.int 0].length * (((xs.length : Nat) : Int) + 1).toNat ≤ 1000 from ?_) (by decide)
          rw [List.length_singleton]
          omega
        · have e : (List.replicate (((xs.length : Nat) : Int) + 1).toNat [V.int 0]).flatten = List.replicate (xs.length + 1) (.int 0) := by
            rw [show (((xs.length : Nat) : Int) + 1).toNat = xs.length + 1 by omega]
            generalize xs.length + 1 = n
            induction n with
            | zero => rfl
            | succ n ih => rw [List.replicate_succ, List.replicate_succ, List.flatten_cons, ih]; rfl
          rw [e]
          have s3 : Same H2 (upd (upd H2 a (.lst [.int 0])) r (.lst (List.replicate (xs.length + 1) (.int 0)))) := nw s2 hr
          have hC3 := s3 _ _ h1
          have nrC : r ≠ C := Ne.symm (ne_of_none (s2 _ _ h1) hr)
          refine ⟨[], hC3, (by decide), fun b w hb => ?_, .inr ⟨rfl, r, upd_same, ?_⟩⟩
          · rw [upd_ne (ne_of_none hb hC)]
            exact (s1.trans s3) _ _ hb
          · rw [upd_ne nrC]
            exact upd_same
      · cases z
    · rcases h1 with ⟨z, _⟩ | ⟨_, r, h1, h2⟩
      · cases z
      · refine ⟨_, rfl, o, [], rfl, .inr (SqT.of (s1 _ _ ho)), 0, rfl, (by decide), (by decide), (by decide), (by decide), ?_⟩
        refine for_it (walk_rangeC (n := 0)) (fun i σ H' => σ = [some (.ref o), some (.ref l), some (.ref C), none, none, none, none] ∧ H' = H1) ⟨rfl, rfl⟩ (fun _ _ _ _ _ => trivial) (fun i _ _ _ _ hi _ _ => absurd hi (by omega)) (fun σ H' ⟨e1, e2⟩ => ?_)
        subst e1 e2
        exact ⟨_, rfl, q _ C r s1 h1 h2⟩
def spPaired (K : PySem.W.Frag) : Sp := fun vs H Q _ => ∃ (o l : Addr) (xs : List V), vs = [.ref o, .ref l] ∧ H o = some (.tup []) ∧ H l = some (.lst xs) ∧ xs.length ≤ 100 ∧ ∀ H' p, Same H H' → H' p = some (.tup []) → Q (.ref p) H'
abbrev N_paired : List Str := ["old", "new", "table", "found", "start", "begin", "pair"]
theorem sc_paired : FnScope N_paired ["old", "new"] (defScope s_paired) := ⟨rfl, rfl, rfl, by decide +kernel, rfl, by decide +kernel, by decide +kernel⟩
theorem ok_paired (T : Wt K mg) : Def P w K mg base 2 d_paired ["old", "new"] (spPaired K) := by
  have D_longest_table := ok_longest (P := P) (w := w) (base := base) T
  refine mk_def (F_paired T) rfl sc_paired (fun vs H Q E h => ?_) (fun _ _ _ _ _ _ us hl => match us, hl with | [_, _], _ => rfl) (fun cdv A outer s H vs Q E hr h => ?_)
  · obtain ⟨o, l, xs, rfl, _⟩ := h
    rfl
  · have sc := sc_paired
    obtain ⟨o, l, xs, rfl, ho, hl, hn, q⟩ := h
    refine ⟨_, (pss_cons (ps_asg (pe_tup (pa_cons (pcall D_longest_table (hr.mono (by decide)) (by rfl) (g_longest_table T) passL (pa_cons (pv 0) (pa_cons (pv 1) pa_nil))) (pa_cons (pe_lst pa_nil) (pa_cons pe_int (pa_cons pe_int pa_nil))))) (pg_tup rfl (pgs_cons (pg_name (i := 2) sc.nd rfl (Or.inl rfl)) (pgs_cons (pg_name (i := 3) sc.nd rfl (Or.inl rfl)) (pgs_cons (pg_name (i := 4) sc.nd rfl (Or.inl rfl)) (pgs_cons (pg_name (i := 5) sc.nd rfl (Or.inl rfl)) pgs_nil))))))
      (pss_cons (ps_while PassesOwn.never (pt_cmpR op_gt (pe_ix ix_list (pe_ix ix_list (pv 2) (pv 4) (fun _ _ => rfl)) (pv 5) (fun _ _ => rfl)) pe_int (nomark _))
        (pss_cons ps_never
        (pss_cons ps_never
        (pss_one ps_never))))
      (pss_one (ps_ret (pe_callTy (T := "tuple") call_tuple_of (by rfl) (z_tuple T) (by decide +kernel) (pa_cons (pv 3) pa_nil)))))), ?_⟩
    refine ⟨_, rfl, _, rfl, o, l, xs, rfl, ho, hl, hn, fun H1 p r s1 hp hr1 => ?_⟩
    refine ⟨(by show 0 ≤ sizeLine; decide), fun fa hfa => ⟨(by show 4 ≤ sizeLine; decide), fun t ht => ?_⟩⟩
    have s2 : Same H1 (upd H1 fa (.lst [])) := nw (Same.refl _) hfa
    have hf2 : (upd H1 fa (.lst [])) fa = some (.lst []) := upd_same
    generalize upd H1 fa (.lst []) = H2 at s2 hf2 ht
    have s3 : Same H2 (upd H2 t (.tup [.ref p, .ref fa, .int 0, .int 0])) := nw (Same.refl _) ht
    have ht3 : (upd H2 t (.tup [.ref p, .ref fa, .int 0, .int 0])) t = some (.tup [.ref p, .ref fa, .int 0, .int 0]) := upd_same
    generalize upd H2 t (.tup [.ref p, .ref fa, .int 0, .int 0]) = H3 at s3 ht3
    refine ⟨t, _, rfl, SqT.of ht3, rfl, _, _, rfl, _, _, rfl, _, _, rfl, _, _, rfl, rfl, ?_⟩
    refine ⟨fun m σ H' => σ = [some (.ref o), some (.ref l), some (.ref p), some (.ref fa), some (.int 0), some (.int 0), none] ∧ H' = H3, ⟨0, rfl, rfl⟩, fun m σ H' ⟨e1, e2⟩ => ?_⟩
    subst e1 e2
    refine ⟨_, rfl, _, rfl, p, _, 0, _, rfl, rfl, SqL.of ((s2.trans s3) _ _ hp), atI_nat (j := 0) rfl, _, rfl, r, _, 0, .int 0, rfl, rfl, SqL.of ((s2.trans s3) _ _ hr1), atI_nat (j := 0) (by rw [List.replicate_succ]; rfl), _, _, rfl, rfl, _, rfl, itd (fun z => absurd z (by decide)) (fun _ => ?_)⟩
    exact ⟨_, rfl, fa, [], rfl, .inl ⟨SqL.of (s3 _ _ hf2), fun p2 hp2 => q _ p2 (nw (s1.trans (s2.trans s3)) hp2) upd_same⟩⟩
end
end Sk
/-! K93W: a file laid into a work. -/
namespace Sk
open PySem PySem.Spec PyProof.Rows L2
def row3D (r : FR) : PyData := .tuple [.int r.num, .str r.name, .tuple (r.lines.map PyData.int)]
theorem dp_row3 {K : PySem.W.Frag} {H : Hp} {xs : List V} {rs : List FR} (h : All2 (RowV H) xs rs) : DpAll K H xs (rs.map row3D) := by
  induction h with
  | nil => exact .nil
  | cons a _ ih =>
    obtain ⟨t, u, rfl, h1, h2⟩ := a
    exact .cons (.tup (SqT.of h1) (.cons (.int _) (.cons (.str _) (.cons (.tup (SqT.of h2) (dp_ints _)) .nil)))) ih
theorem rows3_alike (rs : List FR) : PySem.W.AllAlike (rs.map row3D) := PySem.W.AllAlike.of fun a b => by
  simp [row3D, PySem.W.alike, PySem.W.alikeAll, PySem.W.alike_ints]
theorem rows3_sortable (rs : List FR) : PySem.W.Sortable (rs.map row3D) := PySem.W.Sortable.tuples fun a => ⟨_, _, rfl⟩
theorem rows3_deep (rs : List FR) : ∀ d ∈ rs.map row3D, d.depth ≤ 64 := fun d hd => by
  obtain ⟨r, _, rfl⟩ := List.mem_map.mp hd
  simp [row3D, PyData.depth, PyData.depthAll, PySem.W.depth_ints]
theorem rows3_up {rs : List FR} (h : (rs.map (·.num)).Pairwise fun a b => a < b) : Up (rs.map row3D) := by
  unfold Up
  rw [List.pairwise_map] at h ⊢
  exact h.imp fun h => lt_int1 h
section
variable {P : Program} {w : World} {K : PySem.W.Frag} {mg : Str → Option Value} {base : Heap}
def spLay (K : PySem.W.Frag) : Sp := fun vs H Q _ => ∃ (x dx sto : Addr) (v : Int) (f0 f fr lt : Addr) (rs : List FR) (ft : List Str) (n : Int) (z : Str) (lp : Addr) (ls : List Int), vs = [.ref x, .int n, .str z, .ref lp] ∧ WkAt K H x dx sto v f0 f fr lt rs ft ∧ rs.length < 60 ∧
  (rs.map (·.num)).Pairwise (fun a b => a < b) ∧ (∀ m ∈ rs.map (·.num), m < n) ∧ H lp = some (.tup (ls.map V.int)) ∧ ∀ H' f', Kp [x] H H' → TSame H H' → WkAt K H' x dx sto v f0 f' fr lt (rs ++ [⟨n, z, ls⟩]) ft → Q .non H'
abbrev N_Work_lay : List Str := ["self", "file", "name", "lines", "row"]
theorem sc_Work_lay : FnScope N_Work_lay ["self", "file", "name", "lines"] (defScope s_Work_lay) := ⟨rfl, rfl, rfl, by decide +kernel, rfl, by decide +kernel, by decide +kernel⟩
theorem ok_lay (T : Wt K mg) : Def P w K mg base 1 d_Work_lay ["self", "file", "name", "lines"] (spLay K) := by
  refine mk_def (F_Work_lay T) rfl sc_Work_lay (fun vs H Q E h => ?_) (fun _ _ _ _ _ _ us hl => match us, hl with | [_, _, _, _], _ => rfl) (fun cdv A outer s H vs Q E hr h => ?_)
  · obtain ⟨x, dx, sto, v, f0, f, fr, lt, rs, ft, n, z, lp, ls, rfl, _⟩ := h
    rfl
  · have sc := sc_Work_lay
    obtain ⟨x, dx, sto, v, f0, f, fr, lt, rs, ft, n, z, lp, ls, rfl, hW, hl, hup, hlt, hlp, q⟩ := h
    refine ⟨_, (pss_one (ps_fld (pv 0) (pe_callTy (T := "tuple") call_tuple_of (by rfl) (z_tuple T) (by decide +kernel) (pa_cons (pe_callB (call_sortedD2 (hu100 hr)) (by rfl) (z_sorted T) (by decide +kernel) (pa_cons (pe_op op_cat (pe_lc (own := [("row", 4)]) rfl sc.nd (pi_tup (pe_fld (pv 0) rfl)) (blkOk_by (N := N_Work_lay) (sc := defScope s_Work_lay) (by decide +kernel)) (fun _ _ _ _ _ => (pg_name (i := 4) sc.nd rfl (Or.inl rfl))) (fun _ _ _ _ _ => pts_one (pt_cmpR op_ne (pe_ix (ix_tupK (K := K)) (pv 4) pe_int (fun _ _ => rfl)) (pv 1) (nomark _))) (fun _ _ _ _ _ => (pv 4))) (pe_lst (pa_cons (pe_tup (pa_cons (pv 1) (pa_cons (pv 2) (pa_cons (pv 3) pa_nil)))) pa_nil))) pa_nil)) pa_nil)) rfl)), ?_⟩
    have c := c_Work T
    obtain ⟨vs, hf, hvs⟩ := hW.files
    have hlen := hvs.len
    refine ⟨_, rfl, x, _, dx, _, _, rfl, hW.ins, c, n_Work_files T, rfl, f, rfl, ⟨_, SqT.of hf⟩, fun C hC => ?_⟩
    refine lc_it (walk_tup (K := K) (a := f) (xs := vs)) (fun i H' => Same H H' ∧ H' C = some (.lst (vs.take i))) ⟨nw (Same.refl _) hC, upd_same⟩ (fun i H' _ ⟨s, _⟩ => SqT.of (s _ _ hf)) (fun i v H1 H2 hi ⟨s1, h1⟩ hy => ?_) (fun H1 ⟨s1, h1⟩ => ?_)
    · obtain ⟨rfl, hx⟩ := hy
      obtain ⟨r, hr0, t, u, rfl, ht, hu⟩ := hvs.at1 hx
      have hm : r.num < n := hlt _ (List.mem_map.mpr ⟨r, List.mem_of_getElem? hr0, rfl⟩)
      refine ⟨wipe1, _, rfl, t, _, 0, _, rfl, rfl, SqT.of (s1 _ _ ht), atI_nat (j := 0) rfl, _, rfl, rfl, ?_⟩
      have e : (!decide (V.int r.num = V.int n)) = true := by
        rw [dec_int]
        simp
        omega
      refine ⟨_, rfl, itb (fun _ => ⟨_, rfl, vs.take i, h1, ?_, fun b o hb => ?_, ?_⟩) (fun z => absurd (e.symm.trans z) (by decide))⟩
      · have := List.length_take_le i vs
        exact Nat.lt_of_lt_of_le (show (vs.take i).length < 100 by omega) (by decide)
      · rw [upd_ne (ne_of_none hb hC)]
        exact s1 _ _ hb
      · rw [upd_same, take_snoc hx]
    · rw [List.take_length] at h1
      refine ⟨_, rfl, _, rfl, _, rfl, (by show 3 ≤ sizeLine; decide), fun t ht => ⟨(by show 1 ≤ sizeLine; decide), fun l2 hl2 => ?_⟩⟩
      have s2 : Same H1 (upd H1 t (.tup [.int n, .str z, .ref lp])) := nw (Same.refl _) ht
      have ht2 : (upd H1 t (.tup [.int n, .str z, .ref lp])) t = some (.tup [.int n, .str z, .ref lp]) := upd_same
      generalize upd H1 t (.tup [.int n, .str z, .ref lp]) = H2 at s2 ht2 hl2
      have s3 : Same H2 (upd H2 l2 (.lst [.ref t])) := nw (Same.refl _) hl2
      have hl3 : (upd H2 l2 (.lst [.ref t])) l2 = some (.lst [.ref t]) := upd_same
      generalize upd H2 l2 (.lst [.ref t]) = H3 at s3 hl3
      have s03 : Same H H3 := s1.trans (s2.trans s3)
      refine ⟨C, l2, _, _, rfl, rfl, (s2.trans s3) _ _ h1, hl3, ?_, fun p hp => ?_⟩
      · exact Nat.le_trans (show vs.length + [V.ref t].length ≤ 1000 by rw [List.length_singleton]; omega) (by decide)
      have s4 : Same H3 (upd H3 p (.lst (vs ++ [.ref t]))) := nw (Same.refl _) hp
      have hp4 : (upd H3 p (.lst (vs ++ [.ref t]))) p = some (.lst (vs ++ [.ref t])) := upd_same
      generalize upd H3 p (.lst (vs ++ [.ref t])) = H4 at s4 hp4
      have s04 := s03.trans s4
      have hall : All2 (RowV H4) (vs ++ [.ref t]) (rs ++ [⟨n, z, ls⟩]) := all2_snoc (hvs.mono fun _ _ q => q.ts (same_ts s04)) ⟨t, lp, rfl, (s3.trans s4) _ _ ht2, s04 _ _ hlp⟩
      have hnum : ((rs ++ [(⟨n, z, ls⟩ : FR)]).map (·.num)).Pairwise (fun a b => a < b) := by
        rw [List.map_append, List.pairwise_append]
        refine ⟨hup, List.pairwise_singleton _ _, fun a ha b hb => ?_⟩
        have eb : b = n := by simpa using hb
        rw [eb]
        exact hlt a ha
      refine ⟨p, _, (rs ++ [(⟨n, z, ls⟩ : FR)]).map row3D, rfl, SqL.of hp4, dp_row3 hall, rows3_alike _, rows3_sortable _, rows3_deep _, fun p2 hp2 => ?_⟩
      rw [sortD_eq (by rw [List.length_map]; exact hall.len) (List.Perm.refl _) (rows3_up hnum)]
      refine ⟨p2, _, rfl, .inl ⟨SqL.of upd_same, fun p3 hp3 => ?_⟩⟩
      have s5 : Same H4 (upd (upd H4 p2 (.lst (vs ++ [.ref t]))) p3 (.tup (vs ++ [.ref t]))) := nw (nw (Same.refl _) hp2) hp3
      have hp5 : (upd (upd H4 p2 (.lst (vs ++ [.ref t]))) p3 (.tup (vs ++ [.ref t]))) p3 = some (.tup (vs ++ [.ref t])) := upd_same
      generalize upd (upd H4 p2 (.lst (vs ++ [.ref t]))) p3 (.tup (vs ++ [.ref t])) = H5 at s5 hp5
      have s05 := s04.trans s5
      have W5 := hW.same s05
      refine ⟨_, rfl, x, _, dx, _, rfl, W5.ins, c, n_Work_files T, (by show 8 < 1000; decide), ?_⟩
      have k6 : Kp [x] H (upd H5 x (.ins (cWk K) dx (putF "files" (.ref p3) (wkF sto "main" v f0 f fr lt)))) := (Kp.same s05).put (by simp)
      have t6 := kp1_ts hW.ins k6
      obtain ⟨k1, h2, h3, h4⟩ := hW.fresh
      obtain ⟨k2, h5, h6⟩ := hW.ltd
      have nfx : fr ≠ x := ne_of h2 hW.ins (by intro z; cases z)
      have nlx : lt ≠ x := ne_of h5 hW.ins (by intro z; cases z)
      have npx : p3 ≠ x := ne_of hp5 W5.ins (by intro z; cases z)
      refine q _ p3 k6 t6 ⟨upd_same, ⟨_, by rw [upd_ne npx]; exact hp5, ?_⟩, ⟨k1, k6 _ _ (by simpa using nfx) h2, h3, h4.mono fun _ _ z => z.ts t6⟩, ⟨k2, k6 _ _ (by simpa using nlx) h5, h6⟩, hW.nfl⟩
      exact hall.mono fun _ _ ⟨a, b, e1, e2, e3⟩ => ⟨a, b, e1, by rw [upd_ne (ne_of (s5 _ _ e2) W5.ins (by intro z; cases z))]; exact s5 _ _ e2, by rw [upd_ne (ne_of (s5 _ _ e3) W5.ins (by intro z; cases z))]; exact s5 _ _ e3⟩
end
end Sk
/-! K93X: a file is written. -/
namespace Sk
open PySem PySem.Spec PyProof.Rows L2
theorem inV_strs {z : Str} : ∀ {ys : List Str}, z ∉ ys → inV (.str z) (ys.map V.str) = false
  | [], _ => rfl
  | y :: r, h => by
    rw [List.mem_cons, not_or] at h
    unfold inV
    rw [List.map_cons, List.any_cons]
    have e : eqV (.str y) (.str z) = false := by
      show (y == z) = false
      simpa using Ne.symm h.1
    rw [e, Bool.false_or]
    exact inV_strs h.2
theorem flat_strs (ys : List Str) : (ys.map V.str).all flatV = true := by
  rw [List.all_eq_true]
  intro v hv
  obtain ⟨z, _, rfl⟩ := List.mem_map.mp hv
  rfl
/-- the lines that are new: n of them, behind o -/
def newLines (o n : Nat) : List Int := (List.range n).map fun (j : Nat) => 1000000000 + ((o + j : Nat) : Int)
theorem freshN_up (k : Nat) : (freshN k).Pairwise (fun a b => a < b) := by
  unfold freshN
  rw [List.pairwise_map]
  exact List.pairwise_lt_range.imp fun h => by omega
theorem freshN_lt {k : Nat} {m : Int} (h : m ∈ freshN k) : m < 1000000000 + (k : Int) := by
  unfold freshN at h
  obtain ⟨j, h1, rfl⟩ := List.mem_map.mp h
  have := List.mem_range.mp h1
  omega
theorem newLines_snoc (o n : Nat) : newLines o (n + 1) = newLines o n ++ [1000000000 + ((o + n : Nat) : Int)] := by
  unfold newLines
  rw [List.range_succ, List.map_append]
  rfl
section
variable {P : Program} {w : World} {K : PySem.W.Frag} {mg : Str → Option Value} {base : Heap}
def spWrite (K : PySem.W.Frag) : Sp := fun vs H Q _ => ∃ (x dx sto : Addr) (v : Int) (f0 f fr lt : Addr) (rs : List FR) (ft : List Str) (z : Str) (l : Addr) (ts : List Str), vs = [.ref x, .str z, .ref l] ∧ WkAt K H x dx sto v f0 f fr lt rs ft ∧ rs.length < 12 ∧
  rs.map (·.num) = freshN rs.length ∧ z ∉ rs.map (·.name) ∧ isName z = true ∧ H l = some (.lst (ts.map V.str)) ∧ ts.length ≤ 60 ∧ (∀ t ∈ ts, isLine t = true) ∧ ft.length < 1000 ∧
  ∀ H' f', Kp [x, fr, lt] H H' → TSame H H' → WkAt K H' x dx sto v f0 f' fr lt (rs ++ [⟨1000000000 + (rs.length : Int), z, newLines ft.length ts.length⟩]) (ft ++ ts) → Q .non H'
abbrev N_Work_write : List Str := ["self", "name", "texts", "is_there", "old", "stay", "made", "file", "lines", "known", "line", "place", "new_place", "text", "row"]
theorem sc_Work_write : FnScope N_Work_write ["self", "name", "texts"] (defScope s_Work_write) := ⟨rfl, rfl, rfl, by decide +kernel, rfl, by decide +kernel, by decide +kernel⟩
theorem ok_write (T : Wt K mg) : Def P w K mg base 5 d_Work_write ["self", "name", "texts"] (spWrite K) := by
  have D_Work_listing := ok_listing (P := P) (w := w) (base := base) T
  have D_is_name := ok_is_name (P := P) (w := w) (base := base) T
  have D_check_texts := ok_check_texts (P := P) (w := w) (base := base) T
  have D_next_fresh := ok_next_fresh (P := P) (w := w) (base := base) T
  have D_paired := ok_paired (P := P) (w := w) (base := base) T
  have D_Work_new_line := ok_new_line (P := P) (w := w) (base := base) T
  have D_Work_lay := ok_lay (P := P) (w := w) (base := base) T
  refine mk_def (F_Work_write T) rfl sc_Work_write (fun vs H Q E h => ?_) (fun _ _ _ _ _ _ us hl => match us, hl with | [_, _, _], _ => rfl) (fun cdv A outer s H vs Q E hr h => ?_)
  · obtain ⟨x, dx, sto, v, f0, f, fr, lt, rs, ft, z, l, ts, rfl, _⟩ := h
    rfl
  · have sc := sc_Work_write
    obtain ⟨x, dx, sto, v, f0, f, fr, lt, rs, ft, z, l, ts, rfl, hW, hrl, hnum, hz, hnm, hl, hts, hln, hft, q⟩ := h
    refine ⟨_, (pss_cons (ps_set (i := 3) sc.nd rfl (Or.inl rfl) (pe_cmpR op_in_seq (pv 1) (pprop (pv 0) (c_Work T) (p_Work_listing T) D_Work_listing rfl (hr.mono (by decide)) passL) (by rfl)))
      (pss_cons (ps_if (PW.pt (pw_and (pt_not (pt_val (pv 3))) (pw_and1 (pt_not (pt_val (pcall D_is_name (hr.mono (by decide)) (by rfl) (g_is_name T) passL (pa_cons (pv 1) pa_nil)))))))
        (pss_one ps_never)
        pss_nil)
      (pss_cons (ps_expr (pcall D_check_texts (hr.mono (by decide)) (by rfl) (g_check_texts T) passL (pa_cons (pv 2) pa_nil)))
      (pss_cons (ps_if (PW.pt (pw_and (pt_not (pt_val (pv 3))) (pw_and1 (pt_cmpR op_eq (pe_callB call_len_seq (by rfl) (z_len T) (by decide +kernel) (pa_cons (pe_fld (pv 0) rfl) pa_nil)) (pgi (v_MOST_FILES_state T)) (nomark _)))))
        (pss_one ps_never)
        pss_nil)
      (pss_cons (ps_asg (pe_tup (pa_cons (pcall D_next_fresh (hr.mono (by decide)) (by rfl) (g_next_fresh T) passL (pa_cons (pe_lc (own := [("row", 14)]) rfl sc.nd (pi_tup (pe_fld (pv 0) rfl)) (blkOk_by (N := N_Work_write) (sc := defScope s_Work_write) (by decide +kernel)) (fun _ _ _ _ _ => (pg_name (i := 14) sc.nd rfl (Or.inl rfl))) (fun _ _ _ _ _ => pts_nil) (fun _ _ _ _ _ => (pe_ix (ix_tupK (K := K)) (pv 14) pe_int (fun _ _ => rfl)))) pa_nil)) (pa_cons (pe_tup pa_nil) pa_nil))) (pg_tup rfl (pgs_cons (pg_name (i := 7) sc.nd rfl (Or.inl rfl)) (pgs_cons (pg_name (i := 8) sc.nd rfl (Or.inr rfl)) pgs_nil))))
      (pss_cons (ps_if (pt_val (pv 3))
        (pss_one ps_never)
        pss_nil)
      (pss_cons (ps_set (i := 4) sc.nd rfl (Or.inl rfl) (pe_callTy (T := "tuple") call_tuple_of (by rfl) (z_tuple T) (by decide +kernel) (pa_cons (pe_lc (own := [("line", 10)]) rfl sc.nd (pi_tup (pv 8)) (blkOk_by (N := N_Work_write) (sc := defScope s_Work_write) (by decide +kernel)) (fun _ _ _ _ _ => (pg_name (i := 10) sc.nd rfl (Or.inl rfl))) (fun _ _ _ _ _ => pts_nil) (fun _ _ _ _ _ => (pe_dget (hu_of hr) (pe_fldK (K := K) (pv 0) rfl) (pv 10) (fun _ _ => rfl)))) pa_nil)))
      (pss_cons (ps_set (i := 5) sc.nd rfl (Or.inr rfl) (pe_dc (own := [("place", 11), ("new_place", 12)]) rfl sc.nd (pi_tup (pcall D_paired (hr.mono (by decide)) (by rfl) (g_paired T) passL (pa_cons (pv 4) (pa_cons (pv 2) pa_nil)))) (blkOk_by (N := N_Work_write) (sc := defScope s_Work_write) (by decide +kernel)) (fun _ _ _ _ _ => (pg_tupK (K := K) (n := 2) rfl (pgs_cons (pg_name (i := 11) sc.nd rfl (Or.inl rfl)) (pgs_cons (pg_name (i := 12) sc.nd rfl (Or.inl rfl)) pgs_nil)))) (fun _ _ _ _ _ => pts_nil) (fun _ _ _ _ _ => (pv 12)) (fun _ _ _ _ _ => (pe_ix (ix_tupK (K := K)) (pv 8) (pv 11) (fun _ _ => rfl)))))
      (pss_cons (ps_setLc (i := 6) (own := [("place", 11), ("text", 13)]) rfl sc.nd rfl rfl (sw_true rfl rfl rfl (by decide +kernel)) (pi_enum (by rfl) (z_enumerate T) (pa_cons (pv 2) pa_nil)) (blkOk_by (N := N_Work_write) (sc := defScope s_Work_write) (by decide +kernel)) (fun _ _ _ _ _ => (pg_tupK (K := K) (n := 2) rfl (pgs_cons (pg_name (i := 11) sc.nd rfl (Or.inl rfl)) (pgs_cons (pg_name (i := 13) sc.nd rfl (Or.inl rfl)) pgs_nil)))) (fun _ _ _ _ _ => pts_nil) (fun _ _ _ _ _ => (pe_ifExp (pt_cmp (pc_din (hu_of hr) (pv 11) (pv 5))) (pe_dget (hu_of hr) (pv 5) (pv 11) (fun _ _ => rfl)) (pmeth (pv 0) (c_Work T) (m_Work_new_line T) D_Work_new_line rfl (hr.mono (by decide)) passL (pa_cons (pv 13) pa_nil)))))
      (pss_one (ps_expr (pmeth (pv 0) (c_Work T) (m_Work_lay T) D_Work_lay rfl (hr.mono (by decide)) passL (pa_cons (pv 7) (pa_cons (pv 1) (pa_cons (pe_callTy (T := "tuple") call_tuple_of (by rfl) (z_tuple T) (by decide +kernel) (pa_cons (pv 6) pa_nil)) pa_nil))))))))))))))), ?_⟩
    have c := c_Work T
    refine ⟨_, rfl, _, rfl, x, dx, _, rfl, hW.ins, x, dx, f, _, rs, rfl, hW.ins, rfl, hW.files, (by omega), fun H1 p ys s1 hperm hp => ?_⟩
    have hzy : z ∉ ys := fun h => hz (hperm.mem_iff.mp h)
    refine ⟨p, _, rfl, .inr hp, rfl, flat_strs ys, ?_⟩
    have eI : (if false = true then !inV (.str z) (ys.map V.str) else inV (.str z) (ys.map V.str)) = false := by
      rw [inV_strs hzy]
      rfl
    rw [eI]
    refine set_ ?_
    have W1 := hW.same s1
    refine ⟨_, rfl, false, rfl, ?_⟩
    have hzl : z.length < sizeLine := by
      have := isName_len hnm
      exact Nat.lt_of_le_of_lt this (by decide)
    refine itb (fun _ => ⟨_, rfl, z, rfl, hzl, fun H2 s2 => ?_⟩) (fun e => absurd e (by decide))
    have W2 := W1.same s2
    have s02 := s1.trans s2
    refine ⟨isName z, rfl, ?_⟩
    rw [hnm]
    refine itb (fun e => absurd e (by decide)) (fun _ => ?_)
    refine ⟨_, rfl, l, ts, rfl, s02 _ _ hl, hts, hln, fun H3 s3 => ?_⟩
    have W3 := W2.same s3
    have s03 := s02.trans s3
    obtain ⟨vs, hf, hvs⟩ := W3.files
    have hvl := hvs.len
    refine ⟨_, rfl, false, rfl, ?_⟩
    refine itb (fun _ => ⟨_, rfl, x, _, dx, _, _, rfl, W3.ins, c, n_Work_files T, rfl, f, _, rfl, .inr (SqT.of hf), rfl, _, rfl, ?_⟩) (fun e => absurd e (by decide))
    have e12 : decide (V.int (vs.length : Int) = V.int 12) = false := by
      rw [dec_int]
      simp
      omega
    rw [e12]
    refine itb (fun e => absurd e (by decide)) (fun _ => ?_)
    refine ⟨_, rfl, x, _, dx, _, _, rfl, W3.ins, c, n_Work_files T, rfl, f, rfl, ⟨_, SqT.of hf⟩, fun C hC => ?_⟩
    refine lc_pure (walk_tup (K := K) (a := f) (xs := vs)) (by omega) (fun i x => vs[i]? = some x) (fun i v _ => ((freshN rs.length).map V.int)[i]? = some v) (fun H' s => SqT.of (s _ _ hf)) (fun i H' x H2 _ y => y) (fun _ _ _ _ _ e => e) hC (fun i v H' R hi hx s1 k => ?_) (fun xs H4 hx hlen s4 hev => ?_)
    · obtain ⟨r, hr0, t, u, rfl, ht, hu⟩ := hvs.at1 hx
      refine ⟨_, rfl, t, _, 0, _, rfl, rfl, SqT.of (s1 _ _ ht), atI_nat (j := 0) rfl, k _ H' (Same.refl _) ?_⟩
      rw [← hnum, List.map_map, List.getElem?_map, hr0]
      rfl
    have exs : xs = (freshN rs.length).map V.int := by
      refine List.ext_getElem? fun i => ?_
      cases e : xs[i]? with
      | none =>
        have z := List.getElem?_eq_none_iff.mp e
        rw [List.getElem?_eq_none_iff.mpr (by rw [List.length_map, freshN_len]; omega)]
      | some v => exact (hev i v e).symm
    subst exs
    have W4 := W3.same s4
    have s04 := s03.trans s4
    refine ⟨C, rs.length, rfl, SqL.of hx, (by omega), fun H5 s5 => ⟨(by show 0 ≤ sizeLine; decide), fun e1 he1 => ⟨(by show 2 ≤ sizeLine; decide), fun t1 ht1 => ?_⟩⟩⟩
    have s6 : Same H5 (upd H5 e1 (.tup [])) := nw (Same.refl _) he1
    have he6 : (upd H5 e1 (.tup [])) e1 = some (.tup []) := upd_same
    generalize upd H5 e1 (.tup []) = H6 at s6 he6 ht1
    have s7 : Same H6 (upd H6 t1 (.tup [.int (1000000000 + (rs.length : Int)), .ref e1])) := nw (Same.refl _) ht1
    have ht7 : (upd H6 t1 (.tup [.int (1000000000 + (rs.length : Int)), .ref e1])) t1 = some (.tup [.int (1000000000 + (rs.length : Int)), .ref e1]) := upd_same
    generalize upd H6 t1 (.tup [.int (1000000000 + (rs.length : Int)), .ref e1]) = H7 at s7 ht7
    have s07 := s04.trans (s5.trans (s6.trans s7))
    have W7 := hW.same s07
    have he7 := s7 _ _ he6
    refine ⟨t1, _, rfl, SqT.of ht7, rfl, _, _, rfl, _, _, rfl, rfl, ?_⟩
    refine ⟨_, rfl, false, rfl, ?_⟩
    refine itb (fun e => absurd e (by decide)) (fun _ => ?_)
    refine ⟨_, rfl, e1, rfl, ⟨_, SqT.of he7⟩, fun C2 hC2 => ?_⟩
    refine lc_pure (walk_tup (K := K) (a := e1) (xs := [])) (by decide) (fun i x => False) (fun i v _ => True) (fun H' s => SqT.of (s _ _ he7)) (fun i H' x H2 hi y => absurd hi (by simp)) (fun _ _ _ _ _ e => e) hC2 (fun i v H' R hi hx s1 k => hx.elim) (fun xs H8 hx8 hlen8 s8 hev8 => ?_)
    obtain rfl : xs = [] := List.eq_nil_of_length_eq_zero hlen8
    refine ⟨C2, [], rfl, .inl ⟨SqL.of hx8, fun ol hol => ?_⟩⟩
    have s9 : Same H8 (upd H8 ol (.tup [])) := nw (Same.refl _) hol
    have ho9 : (upd H8 ol (.tup [])) ol = some (.tup []) := upd_same
    generalize upd H8 ol (.tup []) = H9 at s9 ho9
    have s09 := s07.trans (s8.trans s9)
    refine set_ ?_
    have hl9 := s09 _ _ hl
    refine ⟨_, rfl, _, rfl, ol, l, _, rfl, ho9, hl9, (by rw [List.length_map]; omega), fun H10 pp s10 hpp => ⟨pp, rfl, ⟨_, SqT.of hpp⟩, fun D hD => ?_⟩⟩
    refine dc_it (walk_tup (K := K) (a := pp) (xs := [])) (fun i H' => H' = upd H10 D (.dK [])) rfl (fun i H' _ e => by rw [e]; exact SqT.of (by rw [upd_ne (ne_of_none hpp hD)]; exact hpp)) (fun i x _ _ hi _ _ => absurd hi (by simp)) (fun H' e => ?_)
    subst e
    refine set_ ?_
    have s11 : Same H (upd H10 D (.dK [])) := nw (s09.trans s10) hD
    have hD11 : (upd H10 D (.dK [])) D = some (.dK []) := upd_same
    have nDfr : D ≠ fr := by
      obtain ⟨k1, h1, _⟩ := hW.fresh
      exact Ne.symm (ne_of_none ((s09.trans s10) _ _ h1) hD)
    have nDlt : D ≠ lt := by
      obtain ⟨k1, h1, _⟩ := hW.ltd
      exact Ne.symm (ne_of_none ((s09.trans s10) _ _ h1) hD)
    generalize upd H10 D (.dK []) = H11 at s11 hD11
    have W11 := hW.same s11
    have hl11 := s11 _ _ hl
    have nlfr : l ≠ fr := by
      obtain ⟨k1, h1, _⟩ := hW.fresh
      exact ne_of hl h1 (by intro z; cases z)
    have nllt : l ≠ lt := by
      obtain ⟨k1, h1, _⟩ := hW.ltd
      exact ne_of hl h1 (by intro z; cases z)
    refine ⟨_, rfl, l, _, rfl, SqL.of hl11, fun C3 hC3 => ?_⟩
    have nCfr : C3 ≠ fr := by
      obtain ⟨k1, h1, _⟩ := W11.fresh
      exact Ne.symm (ne_of_none h1 hC3)
    have nClt : C3 ≠ lt := by
      obtain ⟨k1, h1, _⟩ := W11.ltd
      exact Ne.symm (ne_of_none h1 hC3)
    refine lc_it (walk_enum (K := K) (a := l) (xs := ts.map V.str)) (fun i H' => Kp [fr, lt] H11 H' ∧ TSame H11 H' ∧ WkAt K H' x dx sto v f0 f fr lt rs (ft ++ ts.take i) ∧ H' C3 = some (.lst ((newLines ft.length i).map V.int))) ⟨(Kp.refl _ _).nw hC3, same_ts (nw (Same.refl _) hC3), ?_, upd_same⟩ (fun i H' _ ⟨k, _, _, _⟩ => SqL.of (k _ _ (by simp [nlfr, nllt]) hl11)) (fun i u H12 H13 hi ⟨k12, t12, W12, hC12⟩ hy => ?_) (fun H12 ⟨k12, t12, W12, hC12⟩ => ?_)
    · rw [List.take_zero, List.append_nil]
      exact W11.same (nw (Same.refl _) hC3)
    · obtain ⟨T2, x1, y1, rfl, hT, rfl, h1, h2⟩ := hy
      cases h1
      have h2 : (ts.map V.str)[i]? = some y1 := h2
      rw [List.getElem?_map] at h2
      obtain ⟨t, ht, rfl⟩ := Option.map_eq_some_iff.mp h2
      have hil := (List.getElem?_eq_some_iff.mp ht).1
      have s13 : Same H12 (upd H12 T2 (.tup [.int (i : Nat), .str t])) := nw (Same.refl _) hT
      have hT13 : (upd H12 T2 (.tup [.int (i : Nat), .str t])) T2 = some (.tup [.int (i : Nat), .str t]) := upd_same
      generalize upd H12 T2 (.tup [.int (i : Nat), .str t]) = H13 at s13 hT13
      have W13 := W12.same s13
      have hD13 := s13 _ _ (k12 _ _ (by simp [nDfr, nDlt]) hD11)
      refine ⟨T2, _, rfl, SqT.of hT13, rfl, _, _, rfl, _, _, rfl, rfl, rfl, ?_⟩
      refine ⟨_, rfl, _, rfl, D, _, rfl, DGet.k (k := .inl (i : Nat)) hD13, _, rfl, itb (fun e => by cases e) (fun _ => ?_)⟩
      have hlt : (ts.take i).length = i := by rw [List.length_take]; omega
      refine ⟨_, rfl, x, dx, _, rfl, W13.ins, rfl, _, rfl, x, dx, sto, v, f0, f, fr, lt, rs, _, t, rfl, W13, (by rw [List.length_append, hlt]; omega), fun H14 k14 t14 W14 => ?_⟩
      have k114 : Kp [fr, lt] H11 H14 := (k12.trans (Kp.same s13)).trans k14
      have hC14 := k14 _ _ (by simp [nCfr, nClt]) (s13 _ _ hC12)
      have t114 : TSame H11 H14 := (t12.trans (same_ts s13)).trans t14
      have nl : ((newLines ft.length i).map V.int).length = i := by
        rw [List.length_map]
        simp [newLines]
      refine ⟨_, hC14, ?_, fun b o hb hH => ?_, fun b ys e => ?_, ?_, ?_⟩
      · rw [nl]
        exact Nat.lt_of_lt_of_le (show i < 100 by omega) (by decide)
      · rw [upd_ne (ne_of_none hH hC3)]
        exact k114 b o hb hH
      · rw [upd_ne (ne_of_none e hC3)]
        exact t114 b ys e
      · rw [take_snoc ht, ← List.append_assoc]
        have tC : TSame H14 (upd H14 C3 (.lst ((newLines ft.length i).map V.int ++ [.int (1000000000 + (((ft ++ ts.take i).length : Nat) : Int))]))) := TSame.lst hC14
        obtain ⟨kf, f1, f2, f3⟩ := W14.fresh
        obtain ⟨kl, g1, g2⟩ := W14.ltd
        exact ⟨by rw [upd_ne (ne_of W14.ins hC14 (by intro z; cases z))]; exact W14.ins, W14.files.ts tC, ⟨kf, by rw [upd_ne (Ne.symm nCfr)]; exact f1, f2, f3.mono fun _ _ z => z.ts tC⟩, ⟨kl, by rw [upd_ne (Ne.symm nClt)]; exact g1, g2⟩, W14.nfl⟩
      · rw [upd_same, newLines_snoc, List.map_append, List.length_append, hlt]
        rfl
    · refine set_ ?_
      rw [List.length_map, List.take_length] at W12
      rw [List.length_map] at hC12
      refine ⟨_, rfl, x, dx, _, rfl, W12.ins, rfl, _, rfl, _, rfl, _, rfl, C3, _, rfl, .inl ⟨SqL.of hC12, fun lp hlp => ?_⟩⟩
      have s13 : Same H12 (upd H12 lp (.tup ((newLines ft.length ts.length).map V.int))) := nw (Same.refl _) hlp
      have hl13 : (upd H12 lp (.tup ((newLines ft.length ts.length).map V.int))) lp = some (.tup ((newLines ft.length ts.length).map V.int)) := upd_same
      generalize upd H12 lp (.tup ((newLines ft.length ts.length).map V.int)) = H13 at s13 hl13
      refine ⟨x, dx, sto, v, f0, f, fr, lt, rs, _, _, z, lp, _, rfl, W12.same s13, (by omega), by rw [hnum]; exact freshN_up _, fun m hm => by rw [hnum] at hm; exact freshN_lt hm, hl13, fun H14 f' k14 t14 W14 => ?_⟩
      refine q H14 f' ?_ (((same_ts s11).trans t12).trans ((same_ts s13).trans t14)) W14
      intro b o hb hH
      have h3 : b ≠ x ∧ b ≠ fr ∧ b ≠ lt := by simpa using hb
      exact k14 _ _ (by simp [h3.1]) (s13 _ _ (k12 _ _ (by simp [h3.2.1, h3.2.2]) (s11 _ _ hH)))
end
end Sk
/-! K93Y0: numbers by place. -/
namespace Sk
open PySem PySem.Spec PyProof.Rows L2
/-- where a number stands -/
def ix : List Int → Int → Nat
  | [], _ => 0
  | x :: r, k => if x = k then 0 else ix r k + 1
theorem ix_snoc {k j : Int} : ∀ {ks : List Int}, j ∈ ks → ix (ks ++ [k]) j = ix ks j
  | [], h => by cases h
  | x :: r, h => by
    show (if x = j then 0 else ix (r ++ [k]) j + 1) = (if x = j then 0 else ix r j + 1)
    by_cases e : x = j
    · rw [if_pos e, if_pos e]
    · rw [if_neg e, if_neg e, ix_snoc]
      rcases List.mem_cons.mp h with z | z
      · exact absurd z.symm e
      · exact z
theorem ix_new {k : Int} : ∀ {ks : List Int}, k ∉ ks → ix (ks ++ [k]) k = ks.length
  | [], _ => by simp [ix]
  | x :: r, h => by
    rw [List.mem_cons, not_or] at h
    show (if x = k then 0 else ix (r ++ [k]) k + 1) = _
    rw [if_neg (Ne.symm h.1), ix_new h.2]
    rfl
theorem ix_at : ∀ {ks : List Int} {k : Int}, k ∈ ks → ks[ix ks k]? = some k
  | [], k, h => by cases h
  | x :: r, k, h => by
    show (x :: r)[if x = k then 0 else ix r k + 1]? = some k
    by_cases e : x = k
    · rw [if_pos e, ← e]
      rfl
    · rw [if_neg e, List.getElem?_cons_succ]
      rcases List.mem_cons.mp h with z | z
      · exact absurd z.symm e
      · exact ix_at z
theorem ix_inj {ks : List Int} {a b : Int} (ha : a ∈ ks) (hb : b ∈ ks) (e : ix ks a = ix ks b) : a = b := by
  have h1 := ix_at ha
  rw [e, ix_at hb] at h1
  exact (Option.some.inj h1).symm
theorem ix_get {ks : List Int} (hn : ks.Nodup) {i : Nat} {k : Int} (h : ks[i]? = some k) : ix ks k = i := by
  have hm := List.mem_of_getElem? h
  have h1 := ix_at hm
  have hi := (List.getElem?_eq_some_iff.mp h).1
  have hj := (List.getElem?_eq_some_iff.mp h1).1
  exact (List.getElem?_inj hj hn).mp (h1.trans h.symm)
theorem ix_up {ks : List Int} (hn : ks.Nodup) : (ks.map fun k => ((ix ks k : Nat) : Int)).Pairwise (fun a b => a < b) := by
  rw [List.pairwise_iff_getElem]
  intro i j hi hj hij
  rw [List.length_map] at hi hj
  rw [List.getElem_map, List.getElem_map, ix_get hn (List.getElem?_eq_getElem hi), ix_get hn (List.getElem?_eq_getElem hj)]
  exact Int.ofNat_lt.mpr hij
/-- a list, or it turned round -/
def rv {α : Type} (b : Bool) (l : List α) : List α := if b then l.reverse else l
theorem rv_len {α : Type} {b : Bool} {l : List α} : (rv b l).length = l.length := by cases b <;> simp [rv]
theorem rv_mem {α : Type} {b : Bool} {l : List α} {a : α} : a ∈ rv b l ↔ a ∈ l := by cases b <;> simp [rv]
theorem rv_map {α β : Type} {b : Bool} {f : α → β} {l : List α} : (rv b l).map f = rv b (l.map f) := by cases b <;> simp [rv]
theorem rv_perm {α : Type} {b : Bool} {l : List α} : (rv b l).Perm l := by
  cases b
  · exact List.Perm.refl _
  · exact List.reverse_perm l
theorem zip_rev {α β : Type} : ∀ {l : List α} {m : List β}, l.length = m.length → l.reverse.zip m.reverse = (l.zip m).reverse
  | [], [], _ => rfl
  | [], _ :: _, h => by cases h
  | _ :: _, [], h => by cases h
  | a :: l, b :: m, h => by
    have h2 : l.length = m.length := by simpa using h
    rw [List.reverse_cons, List.reverse_cons, List.zip_append (by simp [h2]), zip_rev h2]
    exact (List.reverse_cons (a := (a, b)) (as := l.zip m)).symm
theorem rv_zip {α β : Type} {b : Bool} {l : List α} {m : List β} (h : l.length = m.length) : ((rv b l).zip (rv b m)).Perm (l.zip m) := by
  cases b
  · exact List.Perm.refl _
  · show (l.reverse.zip m.reverse).Perm _
    rw [zip_rev h]
    exact List.reverse_perm _
theorem rv_all2 {α β : Type} {R : α → β → Prop} {b : Bool} {l : List α} {m : List β} (h : All2 R l m) : All2 R (rv b l) (rv b m) := by
  cases b
  · exact h
  · show All2 R l.reverse m.reverse
    induction h with
    | nil => exact .nil
    | cons a _ ih =>
      rw [List.reverse_cons, List.reverse_cons]
      exact all2_snoc ih a
theorem valV_app {k k2 : Key} {v : V} : ∀ {kvs : List (Key × V)}, k ≠ k2 → valV (kvs ++ [(k2, v)]) k = valV kvs k
  | [], h => by
    show valV ((k2, v) :: []) k = _
    rw [valV_neg (Ne.symm h)]
  | (x, y) :: r, h => by
    show valV ((x, y) :: (r ++ [(k2, v)])) k = valV ((x, y) :: r) k
    by_cases e : x = k
    · rw [valV_pos e, valV_pos e]
    · rw [valV_neg e, valV_neg e, valV_app h]
theorem valV_end {k : Key} {v : V} : ∀ {kvs : List (Key × V)}, k ∉ kvs.map (·.1) → valV (kvs ++ [(k, v)]) k = some v
  | [], h => by
    show valV ((k, v) :: []) k = _
    rw [valV_pos rfl]
  | (x, y) :: r, h => by
    rw [List.map_cons, List.mem_cons, not_or] at h
    show valV ((x, y) :: (r ++ [(k, v)])) k = _
    rw [valV_neg (Ne.symm h.1), valV_end h.2]
/-- a dict that gives each of ks its place -/
structure NumD (H : Hp) (d : Addr) (ks : List Int) : Prop where
  ex : ∃ kvs, H d = some (.dK kvs) ∧ kvs.map (·.1) = ks.map Sum.inl ∧ ∀ k ∈ ks, valV kvs (.inl k) = some (.int (ix ks k))
theorem NumD.nil {H : Hp} {d : Addr} (h : H d = some (.dK [])) : NumD H d [] := ⟨[], h, rfl, fun k hk => by cases hk⟩
theorem NumD.at_ {H H' : Hp} {d : Addr} {ks : List Int} (h : NumD H d ks) (e : ∀ o, H d = some o → H' d = some o) : NumD H' d ks := by
  obtain ⟨kvs, h1, h2⟩ := h.ex
  exact ⟨kvs, e _ h1, h2⟩
theorem NumD.put {H : Hp} {d : Addr} {ks : List Int} {k : Int} {kvs : List (Key × V)} (h1 : H d = some (.dK kvs)) (h2 : kvs.map (·.1) = ks.map Sum.inl) (h3 : ∀ k ∈ ks, valV kvs (.inl k) = some (.int (ix ks k))) (hk : k ∉ ks) :
    NumD (upd H d (.dK (putK kvs (.inl k) (.int (ks.length : Int))))) d (ks ++ [k]) := by
  have nk : (Sum.inl k : Key) ∉ kvs.map (·.1) := by
    rw [h2]
    intro hm
    obtain ⟨m, hm1, hm2⟩ := List.mem_map.mp hm
    rw [Sum.inl.inj hm2] at hm1
    exact hk hm1
  refine ⟨kvs ++ [(.inl k, .int (ks.length : Int))], by rw [upd_same, putK_new nk], by rw [List.map_append, h2, List.map_append]; rfl, fun j hj => ?_⟩
  rcases List.mem_append.mp hj with z | z
  · have ne : j ≠ k := fun e => hk (e ▸ z)
    rw [valV_app (fun e => ne (Sum.inl.inj e)), h3 j z, ix_snoc z]
  · have e : j = k := by simpa using z
    subst e
    rw [valV_end nk, ix_new hk]
end Sk
/-! K93Y: files and lines get their numbers. -/
namespace Sk
open PySem PySem.Spec PyProof.Rows L2
/-- a row that leads by its name -/
def rowN (r : FR) : PyData := .tuple [.str r.name, .int r.num, .tuple (r.lines.map PyData.int)]
def NRow (H : Hp) (v : V) (r : FR) : Prop := ∃ t u, v = .ref t ∧ H t = some (.tup [.str r.name, .int r.num, .ref u]) ∧ H u = some (.tup (r.lines.map V.int))
theorem NRow.ts {H H' : Hp} {v : V} {r : FR} (h : NRow H v r) (s : TSame H H') : NRow H' v r := by
  obtain ⟨t, u, e, h1, h2⟩ := h
  exact ⟨t, u, e, s _ _ h1, s _ _ h2⟩
theorem dp_nrow {K : PySem.W.Frag} {H : Hp} {xs : List V} {rs : List FR} (h : All2 (NRow H) xs rs) : DpAll K H xs (rs.map rowN) := by
  induction h with
  | nil => exact .nil
  | cons a _ ih =>
    obtain ⟨t, u, rfl, h1, h2⟩ := a
    exact .cons (.tup (SqT.of h1) (.cons (.str _) (.cons (.int _) (.cons (.tup (SqT.of h2) (dp_ints _)) .nil)))) ih
theorem rowsN_alike (rs : List FR) : PySem.W.AllAlike (rs.map rowN) := PySem.W.AllAlike.of fun a b => by
  simp [rowN, PySem.W.alike, PySem.W.alikeAll, PySem.W.alike_ints]
theorem rowsN_sortable (rs : List FR) : PySem.W.Sortable (rs.map rowN) := PySem.W.Sortable.tuples fun a => ⟨_, _, rfl⟩
theorem rowsN_deep (rs : List FR) : ∀ d ∈ rs.map rowN, d.depth ≤ 64 := fun d hd => by
  obtain ⟨r, _, rfl⟩ := List.mem_map.mp hd
  simp [rowN, PyData.depth, PyData.depthAll, PySem.W.depth_ints]
theorem rowsN_up {rs : List FR} (h : (rs.map (·.name)).Pairwise fun a b => cl a < cl b) : Up (rs.map rowN) := by
  unfold Up
  rw [List.pairwise_map] at h ⊢
  exact h.imp fun h => lt_str1 h
theorem nx_eq {nx : L2.St → Hp → Prop} {σ : L2.St} {H H' : Hp} (e : H = H') (h : nx σ H') : nx σ H := by
  rw [e]
  exact h
/-- what a row becomes -/
def renum (S : List FR) (r : FR) : FR := ⟨ix (S.map (·.num)) r.num, r.name, r.lines.map fun l => ((ix (allLines S) l : Nat) : Int)⟩
section
variable {P : Program} {w : World} {K : PySem.W.Frag} {mg : Str → Option Value} {base : Heap}
def spNumbered (K : PySem.W.Frag) : Sp := fun vs H Q _ => ∃ (s : Addr) (A : StA) (D : StD) (f fr : Addr) (kvs : List (Key × V)) (R : List FR) (b : Bool) (tx : Int → Str), vs = [.ref s, .ref f, .ref fr] ∧ StAt K H s A D ∧ D.fc = 0 ∧ D.lc = 0 ∧ RowsAt H f R ∧ R.length ≤ 12 ∧ (allLines R).length ≤ 2000 ∧
  (R.map (·.num)).Nodup ∧ (∀ n ∈ R.map (·.num), 1000000000 ≤ n) ∧ (allLines (rv b R)).Nodup ∧ (∀ l ∈ allLines (rv b R), 1000000000 ≤ l) ∧ ((rv b R).map (·.name)).Pairwise (fun a b => cl a < cl b) ∧ H fr = some (.dK kvs) ∧
  (∀ l ∈ allLines (rv b R), ∃ a, valV kvs (.inl l) = some (.ref a) ∧ H a = some (.tup [.str (tx l), .non])) ∧
  ∀ H' p f' bs ws, Same H H' → H' p = some (.tup [.ref f', .ref bs]) → RowsAt H' f' ((rv b R).map (renum (rv b R))) → H' bs = some (.tup ws) → All2 (FreshV H') ws ((allLines (rv b R)).map tx) → Q (.ref p) H'
abbrev N_numbered : List Str := ["state", "files", "fresh", "found", "new_files", "new_lines", "births", "name", "file", "lines", "line"]
theorem sc_numbered : FnScope N_numbered ["state", "files", "fresh"] (defScope s_numbered) := ⟨rfl, rfl, rfl, by decide +kernel, rfl, by decide +kernel, by decide +kernel⟩
theorem ok_numbered (T : Wt K mg) : Def P w K mg base 1 d_numbered ["state", "files", "fresh"] (spNumbered K) := by
  refine mk_def (F_numbered T) rfl sc_numbered (fun vs H Q E h => ?_) (fun _ _ _ _ _ _ us hl => match us, hl with | [_, _, _], _ => rfl) (fun cdv A outer s H vs Q E hr h => ?_)
  · obtain ⟨s, A, D, f, fr, kvs, R, b, tx, rfl, _⟩ := h
    rfl
  · have sc := sc_numbered
    obtain ⟨s, A, D, f, fr, kvs, R, b, tx, rfl, hS, hfc, hlc, ⟨vs, hf, hvs⟩, hR12, hL, hnn, hn9, hln, hl9, hup, hfr, htx, q⟩ := h
    refine ⟨_, (pss_cons (ps_asg (pe_tup (pa_cons pe_dnewK (pa_cons pe_dnewK (pa_cons (pe_lst pa_nil) pa_nil)))) (pg_tup rfl (pgs_cons (pg_name (i := 4) sc.nd rfl (Or.inl rfl)) (pgs_cons (pg_name (i := 5) sc.nd rfl (Or.inr rfl)) (pgs_cons (pg_name (i := 6) sc.nd rfl (Or.inl rfl)) pgs_nil)))))
      (pss_cons (ps_for PassesOwn.never rfl (pi_list (pe_callB (call_sortedD2 (hu100 hr)) (by rfl) (z_sorted T) (by decide +kernel) (pa_cons (pe_lc (own := [("file", 8), ("name", 7), ("lines", 9)]) rfl sc.nd (pi_tup (pv 1)) (blkOk_by (N := N_numbered) (sc := defScope s_numbered) (by decide +kernel)) (fun _ _ _ _ _ => (pg_tupK (K := K) (n := 3) rfl (pgs_cons (pg_name (i := 8) sc.nd rfl (Or.inl rfl)) (pgs_cons (pg_name (i := 7) sc.nd rfl (Or.inl rfl)) (pgs_cons (pg_name (i := 9) sc.nd rfl (Or.inl rfl)) pgs_nil))))) (fun _ _ _ _ _ => pts_nil) (fun _ _ _ _ _ => (pe_tup (pa_cons (pv 7) (pa_cons (pv 8) (pa_cons (pv 9) pa_nil)))))) pa_nil))) (pg_tup rfl (pgs_cons (pg_name (i := 7) sc.nd rfl (Or.inl rfl)) (pgs_cons (pg_name (i := 8) sc.nd rfl (Or.inl rfl)) (pgs_cons (pg_name (i := 9) sc.nd rfl (Or.inl rfl)) pgs_nil))))
        (pss_cons (ps_if (pt_cmpR op_ge (pv 8) (pgi (v_FRESH T)) (nomark _))
          (pss_one (ps_dput (hu_of hr) (pv 4) (pv 8) (pe_op op_add (pe_fld (pv 0) rfl) (pe_callB call_lenD (by rfl) (z_len T) (by decide +kernel) (pa_cons (pv 4) pa_nil))) rfl))
          pss_nil)
        (pss_one (ps_for PassesOwn.never rfl (pi_tup (pv 9)) (pg_name (i := 10) sc.nd rfl (Or.inl rfl))
          (pss_one (ps_if (pt_cmpR op_ge (pv 10) (pgi (v_FRESH T)) (nomark _))
            (pss_cons (ps_dput (hu_of hr) (pv 5) (pv 10) (pe_op op_add (pe_fld (pv 0) rfl) (pe_callB call_lenD (by rfl) (z_len T) (by decide +kernel) (pa_cons (pv 5) pa_nil))) rfl)
            (pss_one (ps_expr (pe_bm PySem.F.plainAttrs_list PySem.F.slot_list_append PySem.F.type_list_append mt_append (pv 6) (pa_cons (pe_dget (hu_of hr) (pv 2) (pv 10) (fun _ _ => rfl)) pa_nil)))))
            pss_nil))))))
      (pss_cons (ps_set (i := 3) sc.nd rfl (Or.inl rfl) (pe_lst pa_nil))
      (pss_cons (ps_for PassesOwn.never rfl (pi_tup (pv 1)) (pg_tup rfl (pgs_cons (pg_name (i := 8) sc.nd rfl (Or.inl rfl)) (pgs_cons (pg_name (i := 7) sc.nd rfl (Or.inl rfl)) (pgs_cons (pg_name (i := 9) sc.nd rfl (Or.inl rfl)) pgs_nil))))
        (pss_one (ps_expr (pe_bm PySem.F.plainAttrs_list PySem.F.slot_list_append PySem.F.type_list_append mt_append (pv 3) (pa_cons (pe_tup (pa_cons (pe_dget2 (hu_of hr) (pv 4) (pv 8) (pv 8) ⟨rfl, rfl, rfl, rfl⟩) (pa_cons (pv 7) (pa_cons (pe_callTy (T := "tuple") call_tuple_of (by rfl) (z_tuple T) (by decide +kernel) (pa_cons (pe_lc (own := [("line", 10)]) rfl sc.nd (pi_tup (pv 9)) (blkOk_by (N := N_numbered) (sc := defScope s_numbered) (by decide +kernel)) (fun _ _ _ _ _ => (pg_name (i := 10) sc.nd rfl (Or.inl rfl))) (fun _ _ _ _ _ => pts_nil) (fun _ _ _ _ _ => (pe_dget2 (hu_of hr) (pv 5) (pv 10) (pv 10) ⟨rfl, rfl, rfl, rfl⟩))) pa_nil)) pa_nil)))) pa_nil)))))
      (pss_one (ps_ret (pe_tup (pa_cons (pe_callTy (T := "tuple") call_tuple_of (by rfl) (z_tuple T) (by decide +kernel) (pa_cons (pe_callB (call_sortedD2 (hu100 hr)) (by rfl) (z_sorted T) (by decide +kernel) (pa_cons (pv 3) pa_nil)) pa_nil)) (pa_cons (pe_callTy (T := "tuple") call_tuple_of (by rfl) (z_tuple T) (by decide +kernel) (pa_cons (pv 6) pa_nil)) pa_nil))))))))), ?_⟩
    have c := c_State T
    have hlen := hvs.len
    refine fun nf hnf nl hnl => ⟨(by show 0 ≤ sizeLine; decide), fun bl hbl => ⟨(by show 3 ≤ sizeLine; decide), fun t1 ht1 => ?_⟩⟩
    have nfl : nf ≠ nl := ne_of_none upd_same hnl
    have s1 : Same H (upd (upd (upd (upd H nf (.dK [])) nl (.dK [])) bl (.lst [])) t1 (.tup [.ref nf, .ref nl, .ref bl])) := nw (nw (nw (nw (Same.refl _) hnf) hnl) hbl) ht1
    have hnf1 : (upd (upd (upd (upd H nf (.dK [])) nl (.dK [])) bl (.lst [])) t1 (.tup [.ref nf, .ref nl, .ref bl])) nf = some (.dK []) := new_at (new_at (new_at upd_same hnl) hbl) ht1
    have hnl1 : (upd (upd (upd (upd H nf (.dK [])) nl (.dK [])) bl (.lst [])) t1 (.tup [.ref nf, .ref nl, .ref bl])) nl = some (.dK []) := new_at (new_at upd_same hbl) ht1
    have hbl1 : (upd (upd (upd (upd H nf (.dK [])) nl (.dK [])) bl (.lst [])) t1 (.tup [.ref nf, .ref nl, .ref bl])) bl = some (.lst []) := new_at upd_same ht1
    have ht11 : (upd (upd (upd (upd H nf (.dK [])) nl (.dK [])) bl (.lst [])) t1 (.tup [.ref nf, .ref nl, .ref bl])) t1 = some (.tup [.ref nf, .ref nl, .ref bl]) := upd_same
    have n0 : H nf = none ∧ H nl = none ∧ H bl = none := by
      have a2 : H nl = none := by
        rw [upd_ne (Ne.symm nfl)] at hnl
        exact hnl
      refine ⟨hnf, a2, ?_⟩
      have z := hbl
      rw [upd_ne (Ne.symm (ne_of_none upd_same hbl)), upd_ne (Ne.symm (ne_of_none (new_at upd_same hnl) hbl))] at z
      exact z
    generalize upd (upd (upd (upd H nf (.dK [])) nl (.dK [])) bl (.lst [])) t1 (.tup [.ref nf, .ref nl, .ref bl]) = H1 at s1 hnf1 hnl1 hbl1 ht11
    refine ⟨t1, _, rfl, SqT.of ht11, rfl, _, _, rfl, _, _, rfl, _, _, rfl, rfl, ?_⟩
    have nbf : bl ≠ nf := ne_of hbl1 hnf1 (by intro z; cases z)
    have nbl : bl ≠ nl := ne_of hbl1 hnl1 (by intro z; cases z)
    have hf1 := s1 _ _ hf
    have hvs1 : All2 (RowV H1) vs R := hvs.mono fun _ _ z => z.ts (same_ts s1)
    refine ⟨_, rfl, f, rfl, ⟨_, SqT.of hf1⟩, fun C hC => ?_⟩
    refine lc_pureG (walk_tup (K := K) (a := f) (xs := vs)) (by omega) (fun i v H' => ∃ r, R[i]? = some r ∧ NRow H' v r) (fun H' s2 => SqT.of (s2 _ _ hf1)) (fun i v H2 H3 ts ⟨r, e1, e2⟩ => ⟨r, e1, e2.ts ts⟩) hC (fun i x H2 H3 R' hi s2 hy kk => ?_) (fun xs H2 hx2 hl2 s2 hev => ?_) gTup3_mono
    · obtain ⟨rfl, hx⟩ := hy
      obtain ⟨r, hr0, t, u, rfl, ht, hu⟩ := hvs1.at1 hx
      refine ⟨t, _, rfl, SqT.of (s2 _ _ ht), rfl, _, _, rfl, _, _, rfl, _, _, rfl, rfl, rfl, ?_⟩
      refine ⟨_, rfl, _, rfl, _, rfl, (by show 3 ≤ sizeLine; decide), fun p hp => kk _ _ (nw (Same.refl _) hp) ⟨r, hr0, p, u, rfl, upd_same, new_at (s2 _ _ hu) hp⟩⟩
    have hxr : All2 (NRow H2) xs R := all2_of (by omega) fun j a b h1 h2 => by
      obtain ⟨r, e1, e2⟩ := hev j a h1
      rw [h2] at e1
      cases e1
      exact e2
    have hxl : xs.length = R.length := hxr.len
    refine ⟨C, xs, R.map rowN, rfl, SqL.of hx2, dp_nrow hxr, rowsN_alike R, rowsN_sortable R, rowsN_deep R, fun p hp => ?_⟩
    rw [sortD_eq (vs := xs) (ys := rv b xs) (es := (rv b R).map rowN) (by rw [rv_len, List.length_map, rv_len]; exact hxl) (by rw [rv_map]; exact rv_zip (by rw [List.length_map]; exact hxl)) (rowsN_up hup)]
    have s3 : Same H1 (upd H2 p (.lst (rv b xs))) := nw s2 hp
    have hp3 : (upd H2 p (.lst (rv b xs))) p = some (.lst (rv b xs)) := upd_same
    have hall : All2 (NRow (upd H2 p (.lst (rv b xs)))) (rv b xs) (rv b R) := (rv_all2 hxr).mono fun _ _ z => z.ts (same_ts (nw (Same.refl _) hp))
    have npf : p ≠ nf := Ne.symm (ne_of_none (s2 _ _ hnf1) hp)
    have npl : p ≠ nl := Ne.symm (ne_of_none (s2 _ _ hnl1) hp)
    have npb : p ≠ bl := Ne.symm (ne_of_none (s2 _ _ hbl1) hp)
    generalize upd H2 p (.lst (rv b xs)) = H3 at s3 hp3 hall
    have hRS : R.length = (rv b R).length := rv_len.symm
    have hnS : ((rv b R).map (·.num)).Nodup := by
      rw [rv_map]
      exact rv_perm.nodup_iff.mpr hnn
    have hn9S : ∀ r ∈ rv b R, 1000000000 ≤ r.num := fun r hr => hn9 _ (List.mem_map.mpr ⟨r, rv_mem.mp hr, rfl⟩)
    have hLS : (allLines (rv b R)).length ≤ 2000 := by
      have z : (allLines (rv b R)).Perm (allLines R) := List.Perm.flatMap_right _ rv_perm
      rw [z.length_eq]
      exact hL
    have hmR : ∀ r ∈ R, r ∈ rv b R := fun r hr => rv_mem.mpr hr
    generalize hSS : rv b R = S at *
    have s03 := s1.trans s3
    have S3 := hS.same s03
    have small : ∀ {n : Nat}, n < 100000 → n < sizeLine := fun h => Nat.lt_of_lt_of_le h (by decide)
    have kst : ∀ {H' : Hp}, Kp [nf, nl, bl] H3 H' → Same H H' := fun k b o e => k b o (by
      have z1 := ne_of_none e n0.1
      have z2 := ne_of_none e n0.2.1
      have z3 := ne_of_none e n0.2.2
      simp [z1, z2, z3]) (s03 _ _ e)
    refine ⟨p, rfl, ⟨_, SqL.of hp3⟩, ?_⟩
    refine for_list (K := K) (xs := rv b xs) (fun i σ H' => ∃ a b' c e, σ = [some (.ref s), some (.ref f), some (.ref fr), none, some (.ref nf), some (.ref nl), some (.ref bl), a, b', c, e] ∧ Kp [nf, nl, bl] H3 H' ∧ TSame H3 H' ∧ NumD H' nf ((S.take i).map (·.num)) ∧ NumD H' nl (allLines (S.take i)) ∧ ∃ ws, H' bl = some (.lst ws) ∧ All2 (FreshV H') ws ((allLines (S.take i)).map tx)) ⟨none, none, none, none, rfl, Kp.refl _ _, fun _ _ e => e, NumD.nil (s3 _ _ hnf1), NumD.nil (s3 _ _ hnl1), [], s3 _ _ hbl1, .nil⟩
      (fun i σ H' _ ⟨_, _, _, _, _, k, _⟩ => SqL.of (k _ _ (by simp [npf, npl, npb]) hp3)) (fun i x σ H4 hx ⟨a, b', c', e, eσ, k4, t4, m1, m2, ws, hb4, hws⟩ => ?_) (fun σ H4 ⟨a, b', c', e, eσ, k4, t4, m1, m2, ws, hb4, hws⟩ => ?_)
    · subst eσ
      obtain ⟨r, hr0, t, u, rfl, ht, hu⟩ := hall.at1 hx
      have hrm := List.mem_of_getElem? hr0
      have s04 := kst k4
      have S4 := hS.same s04
      refine ⟨t, _, rfl, SqT.of (t4 _ _ ht), rfl, _, _, rfl, _, _, rfl, _, _, rfl, rfl, ?_⟩
      refine ⟨_, rfl, _, _, rfl, rfl, _, rfl, itd (fun _ => ?_) (fun h => absurd (hn9S r hrm) h)⟩
      obtain ⟨k1, g1, g2, g3⟩ := m1.ex
      have gl : k1.length = ((S.take i).map (·.num)).length := by
        have z := congrArg List.length g2
        rw [List.length_map, List.length_map (f := Sum.inl)] at z
        exact z
      have gi : ((S.take i).map (·.num)).length ≤ 12 := by
        rw [List.length_map, List.length_take]
        omega
      refine ⟨_, rfl, s, _, _, _, _, rfl, S4.ins, c, n_State_file_count T, lf_file_count, _, rfl, nf, k1, rfl, g1, _, _, rfl, rfl, _, rfl, _, rfl, nf, _, rfl, DPut.k (k := .inl r.num) g1 (small (by omega)), ?_⟩
      have e1 : D.fc + ((k1.length : Nat) : Int) = (((S.take i).map (·.num)).length : Int) := by
        rw [hfc, gl]
        omega
      refine nx_eq (H' := upd H4 nf (.dK (putK k1 (.inl r.num) (.int (((S.take i).map (·.num)).length : Int))))) (congrArg (fun z => upd H4 nf (.dK (putK k1 (.inl r.num) (.int z)))) e1) ?_
      have nk : r.num ∉ (S.take i).map (·.num) := fun hm => by
        have z := hnS
        have e2 : S.map (·.num) = (S.take i).map (·.num) ++ r.num :: (S.drop (i + 1)).map (·.num) := by
          have hil := (List.getElem?_eq_some_iff.mp hr0).1
          have e3 : S = S.take i ++ r :: S.drop (i + 1) := by
            rw [← (List.getElem?_eq_some_iff.mp hr0).2, List.getElem_cons_drop, List.take_append_drop]
          have e4 := congrArg (List.map (·.num)) e3
          rw [List.map_append, List.map_cons] at e4
          exact e4
        rw [e2] at z
        exact (List.nodup_append.mp z).2.2 _ hm _ (by simp) rfl
      have m1' := NumD.put g1 g2 g3 nk
      have k5 : Kp [nf, nl, bl] H3 (upd H4 nf (.dK (putK k1 (.inl r.num) (.int (((S.take i).map (·.num)).length : Int))))) := k4.put (by simp)
      have t5 : TSame H3 (upd H4 nf (.dK (putK k1 (.inl r.num) (.int (((S.take i).map (·.num)).length : Int))))) := fun b ys e => by
        rw [upd_ne (ne_of (t4 _ _ e) g1 (by intro z; cases z))]
        exact t4 _ _ e
      have t45 : TSame H4 (upd H4 nf (.dK (putK k1 (.inl r.num) (.int (((S.take i).map (·.num)).length : Int))))) := fun b ys e => by
        rw [upd_ne (ne_of e g1 (by intro z; cases z))]
        exact e
      have m2' : NumD (upd H4 nf (.dK (putK k1 (.inl r.num) (.int (((S.take i).map (·.num)).length : Int))))) nl (allLines (S.take i)) := m2.at_ fun o e => by
        rw [upd_ne (Ne.symm nfl)]
        exact e
      have hb5 : (upd H4 nf (.dK (putK k1 (.inl r.num) (.int (((S.take i).map (·.num)).length : Int))))) bl = some (.lst ws) := by
        rw [upd_ne nbf]
        exact hb4
      have hws5 : All2 (FreshV (upd H4 nf (.dK (putK k1 (.inl r.num) (.int (((S.take i).map (·.num)).length : Int)))))) ws ((allLines (S.take i)).map tx) := hws.mono fun _ _ z => z.ts t45
      generalize upd H4 nf (.dK (putK k1 (.inl r.num) (.int (((S.take i).map (·.num)).length : Int)))) = H5 at m1' k5 t5 m2' hb5 hws5
      have e6 : (S.take i).map (·.num) ++ [r.num] = (S.take (i + 1)).map (·.num) := by
        rw [take_snoc hr0, List.map_append]
        rfl
      rw [e6] at m1'
      obtain ⟨post, hpost⟩ := allLines_split hr0
      refine ⟨_, rfl, u, rfl, ⟨_, SqT.of (t5 _ _ hu)⟩, ?_⟩
      refine for_tup (K := K) (xs := r.lines.map V.int) (fun j σ H' => ∃ e, σ = [some (.ref s), some (.ref f), some (.ref fr), none, some (.ref nf), some (.ref nl), some (.ref bl), some (.str r.name), some (.int r.num), some (.ref u), e] ∧ Kp [nf, nl, bl] H3 H' ∧ TSame H3 H' ∧ NumD H' nf ((S.take (i + 1)).map (·.num)) ∧ NumD H' nl (allLines (S.take i) ++ r.lines.take j) ∧ ∃ ws, H' bl = some (.lst ws) ∧ All2 (FreshV H') ws ((allLines (S.take i) ++ r.lines.take j).map tx))
        ⟨e, rfl, k5, t5, m1', by rw [List.take_zero, List.append_nil]; exact m2', ws, hb5, by rw [List.take_zero, List.append_nil]; exact hws5⟩ (fun j σ H' _ ⟨_, _, _, t, _⟩ => SqT.of (t _ _ hu)) (fun j v σ H6 hv ⟨e7, eσ, k6, t6, m3, m4, ws2, hb6, hws6⟩ => ?_) (fun σ H6 ⟨e7, eσ, k6, t6, m3, m4, ws2, hb6, hws6⟩ => ?_)
      · subst eσ
        rw [List.getElem?_map] at hv
        obtain ⟨l, hl, rfl⟩ := Option.map_eq_some_iff.mp hv
        have hlS : l ∈ allLines S := by
          rw [hpost]
          exact List.mem_append_left _ (List.mem_append_right _ (List.mem_of_getElem? hl))
        have S6 := hS.same (kst k6)
        refine ⟨_, rfl, _, _, rfl, rfl, _, rfl, itd (fun _ => ?_) (fun h => absurd (hl9 l hlS) h)⟩
        obtain ⟨k2, g4, g5, g6⟩ := m4.ex
        have gl2 : k2.length = (allLines (S.take i) ++ r.lines.take j).length := by
          have z := congrArg List.length g5
          rw [List.length_map, List.length_map (f := Sum.inl)] at z
          exact z
        have hsp : r.lines = r.lines.take j ++ (l :: r.lines.drop (j + 1)) := by
          have hjl := (List.getElem?_eq_some_iff.mp hl).1
          rw [← (List.getElem?_eq_some_iff.mp hl).2, List.getElem_cons_drop, List.take_append_drop]
        have hAll : allLines S = (allLines (S.take i) ++ r.lines.take j) ++ (l :: (r.lines.drop (j + 1) ++ post)) := by
          have z := hpost
          rw [hsp] at z
          simpa [List.append_assoc] using z
        have gi2 : (allLines (S.take i) ++ r.lines.take j).length ≤ 2000 := by
          have z := congrArg List.length hAll
          rw [List.length_append] at z
          omega
        have nk2 : l ∉ allLines (S.take i) ++ r.lines.take j := fun hm => by
          have z := hln
          rw [hAll] at z
          exact (List.nodup_append.mp z).2.2 _ hm _ (by simp) rfl
        refine ⟨_, rfl, s, _, _, _, _, rfl, S6.ins, c, n_State_line_count T, lf_line_count, _, rfl, nl, k2, rfl, g4, _, _, rfl, rfl, _, rfl, _, rfl, nl, _, rfl, DPut.k (k := .inl l) g4 (small (by omega)), ?_⟩
        have e8 : D.lc + ((k2.length : Nat) : Int) = ((allLines (S.take i) ++ r.lines.take j).length : Int) := by
          rw [hlc, gl2]
          omega
        refine nx_eq (H' := upd H6 nl (.dK (putK k2 (.inl l) (.int ((allLines (S.take i) ++ r.lines.take j).length : Int))))) (congrArg (fun z => upd H6 nl (.dK (putK k2 (.inl l) (.int z)))) e8) ?_
        have m5 := NumD.put g4 g5 g6 nk2
        have t67 : TSame H6 (upd H6 nl (.dK (putK k2 (.inl l) (.int ((allLines (S.take i) ++ r.lines.take j).length : Int))))) := fun b ys e => by
          rw [upd_ne (ne_of e g4 (by intro z; cases z))]
          exact e
        have k7 : Kp [nf, nl, bl] H3 (upd H6 nl (.dK (putK k2 (.inl l) (.int ((allLines (S.take i) ++ r.lines.take j).length : Int))))) := k6.put (by simp)
        have m6 : NumD (upd H6 nl (.dK (putK k2 (.inl l) (.int ((allLines (S.take i) ++ r.lines.take j).length : Int))))) nf ((S.take (i + 1)).map (·.num)) := m3.at_ fun o e => by
          rw [upd_ne nfl]
          exact e
        have hb7 : (upd H6 nl (.dK (putK k2 (.inl l) (.int ((allLines (S.take i) ++ r.lines.take j).length : Int))))) bl = some (.lst ws2) := by
          rw [upd_ne nbl]
          exact hb6
        have hws7 := hws6.mono fun _ _ z => z.ts t67
        have t7 := t6.trans t67
        generalize upd H6 nl (.dK (putK k2 (.inl l) (.int ((allLines (S.take i) ++ r.lines.take j).length : Int)))) = H7 at m5 t67 k7 m6 hb7 hws7 t7
        obtain ⟨a, ha, hat⟩ := htx l hlS
        have hfr7 := kst k7 _ _ hfr
        have hat7 := kst k7 _ _ hat
        have gd := DGet.k (k := .inl l) hfr7
        rw [ha] at gd
        have hwl := hws7.len
        rw [List.length_map] at hwl
        refine ⟨_, rfl, .inl ⟨rfl, _, SqL.of hb7⟩, _, rfl, _, rfl, fr, .ref a, rfl, gd, bl, _, _, rfl, rfl, hb7, small (by omega), ?_⟩
        have t78 : TSame H7 (upd H7 bl (.lst (ws2 ++ [.ref a]))) := TSame.lst hb7
        have e9 : allLines (S.take i) ++ r.lines.take j ++ [l] = allLines (S.take i) ++ r.lines.take (j + 1) := by
          rw [take_snoc hl, List.append_assoc]
        rw [e9] at m5
        refine ⟨_, rfl, k7.put (by simp), t7.trans t78, m6.at_ fun o e => by rw [upd_ne (Ne.symm nbf)]; exact e, m5.at_ fun o e => by rw [upd_ne (Ne.symm nbl)]; exact e, _, upd_same, ?_⟩
        rw [← e9, List.map_append]
        exact all2_snoc (hws7.mono fun _ _ z => z.ts t78) ⟨a, rfl, t78 _ _ hat7⟩
      · subst eσ
        rw [List.length_map, List.take_length, ← allLines_snoc hr0] at m4 hws6
        exact ⟨_, _, _, _, rfl, k6, t6, m3, m4, ws2, hb6, hws6⟩
    · subst eσ
      have eS : S.take (rv b xs).length = S := List.take_of_length_le (by rw [rv_len, hxl, hRS]; exact Nat.le_refl _)
      rw [eS] at m1 m2 hws
      refine ⟨(by show 0 ≤ sizeLine; decide), fun fd hfd => set_ ?_⟩
      have k4f : Kp [nf, nl, bl] H3 (upd H4 fd (.lst [])) := k4.nw hfd
      have hnf5 : NumD (upd H4 fd (.lst [])) nf (S.map (·.num)) := m1.at_ fun o e => new_at e hfd
      have hnl5 : NumD (upd H4 fd (.lst [])) nl (allLines S) := m2.at_ fun o e => new_at e hfd
      have hbl5 : (upd H4 fd (.lst [])) bl = some (.lst ws) := new_at hb4 hfd
      have hws5 : All2 (FreshV (upd H4 fd (.lst []))) ws ((allLines S).map tx) := hws.mono fun _ _ z => z.ts (same_ts (nw (Same.refl _) hfd))
      have hfd5 : (upd H4 fd (.lst [])) fd = some (.lst []) := upd_same
      have s5 := kst k4f
      have nff : fd ≠ nf := by
        obtain ⟨k1, g1, _⟩ := m1.ex
        exact Ne.symm (ne_of_none g1 hfd)
      have nfl2 : fd ≠ nl := by
        obtain ⟨k1, g1, _⟩ := m2.ex
        exact Ne.symm (ne_of_none g1 hfd)
      have nfb : fd ≠ bl := Ne.symm (ne_of_none hb4 hfd)
      have hfd0 : H fd = none := by
        cases q0 : H fd with
        | none => rfl
        | some o =>
          have z := kst k4 _ _ q0
          rw [hfd] at z
          cases z
      generalize upd H4 fd (.lst []) = H5 at k4f hnf5 hnl5 hbl5 hws5 hfd5 s5
      have hf5 := s5 _ _ hf
      have hvs5 : All2 (RowV H5) vs R := hvs.mono fun _ _ z => z.ts (same_ts s5)
      have kst2 : ∀ {H' : Hp}, Kp [fd] H5 H' → Same H H' := fun k b o e => k b o (by
        have z1 := ne_of_none e hfd0
        simp [z1]) (s5 _ _ e)
      refine ⟨_, rfl, f, rfl, ⟨_, SqT.of hf5⟩, ?_⟩
      refine for_tup (K := K) (xs := vs) (fun i σ H' => ∃ a b' c e, σ = [some (.ref s), some (.ref f), some (.ref fr), some (.ref fd), some (.ref nf), some (.ref nl), some (.ref bl), a, b', c, e] ∧ Kp [fd] H5 H' ∧ TSame H5 H' ∧ ∃ ws, H' fd = some (.lst ws) ∧ All2 (RowV H') ws ((R.take i).map (renum S))) ⟨a, b', c', e, rfl, Kp.refl _ _, fun _ _ e => e, [], hfd5, .nil⟩
        (fun i σ H' _ ⟨_, _, _, _, _, k, _⟩ => SqT.of (kst2 k _ _ hf)) (fun i x σ H6 hx ⟨a, b', c', e, eσ, k6, t6, ws2, hf6, hws6⟩ => ?_) (fun σ H6 ⟨a, b', c', e, eσ, k6, t6, ws2, hf6, hws6⟩ => ?_)
      · subst eσ
        obtain ⟨r, hr0, t, u, rfl, ht, hu⟩ := hvs5.at1 hx
        have hrS : r ∈ S := hmR r (List.mem_of_getElem? hr0)
        have hlS : ∀ l ∈ r.lines, l ∈ allLines S := fun l hl => List.mem_flatMap.mpr ⟨r, hrS, hl⟩
        have hrl : r.lines.length ≤ 2000 := by
          obtain ⟨j, hj⟩ := List.mem_iff_getElem?.mp hrS
          obtain ⟨post, hpost⟩ := allLines_split hj
          have z := congrArg List.length hpost
          rw [List.length_append, List.length_append] at z
          omega
        have m3 : NumD H6 nf (S.map (·.num)) := hnf5.at_ fun o e => k6 _ _ (by simpa using Ne.symm nff) e
        have m4 : NumD H6 nl (allLines S) := hnl5.at_ fun o e => k6 _ _ (by simpa using Ne.symm nfl2) e
        obtain ⟨k1, g1, g2, g3⟩ := m3.ex
        obtain ⟨k2, g4, g5, g6⟩ := m4.ex
        refine ⟨t, _, rfl, SqT.of (t6 _ _ ht), rfl, _, _, rfl, _, _, rfl, _, _, rfl, rfl, ?_⟩
        have gd := DGet.k (k := .inl r.num) g1
        rw [g3 _ (List.mem_map.mpr ⟨r, hrS, rfl⟩)] at gd
        refine ⟨_, rfl, .inl ⟨rfl, _, SqL.of hf6⟩, _, rfl, nf, rfl, .inl ⟨k1, .inl g1⟩, _, rfl, _, rfl, _, gd, _, rfl, ?_⟩
        refine ⟨_, rfl, u, rfl, ⟨_, SqT.of (t6 _ _ hu)⟩, fun C hC => ?_⟩
        refine lc_pure (walk_tup (K := K) (a := u) (xs := r.lines.map V.int)) (by rw [List.length_map]; omega) (fun i x => (r.lines.map V.int)[i]? = some x) (fun i v _ => ((r.lines.map fun l => ((ix (allLines S) l : Nat) : Int)).map V.int)[i]? = some v) (fun H' s => SqT.of (s _ _ (t6 _ _ hu))) (fun i H' x H2 _ y => y) (fun _ _ _ _ _ e => e) hC (fun j v H' R' hj hv s1 kk => ?_) (fun xs H7 hx7 hlen7 s7 hev => ?_)
        · rw [List.getElem?_map] at hv
          obtain ⟨l, hl, rfl⟩ := Option.map_eq_some_iff.mp hv
          have gd2 := DGet.k (k := .inl l) (s1 _ _ g4)
          rw [g6 l (hlS l (List.mem_of_getElem? hl))] at gd2
          refine ⟨_, rfl, nl, rfl, .inl ⟨k2, .inl (s1 _ _ g4)⟩, _, rfl, _, rfl, _, gd2, kk _ H' (Same.refl _) ?_⟩
          rw [List.getElem?_map, List.getElem?_map, hl]
          rfl
        have exs : xs = (r.lines.map fun l => ((ix (allLines S) l : Nat) : Int)).map V.int := by
          refine List.ext_getElem? fun i => ?_
          cases e : xs[i]? with
          | none =>
            have z := List.getElem?_eq_none_iff.mp e
            rw [List.length_map] at hlen7
            rw [List.getElem?_eq_none_iff.mpr (by rw [List.length_map, List.length_map]; omega)]
          | some v => exact (hev i v e).symm
        subst exs
        refine ⟨C, _, rfl, .inl ⟨SqL.of hx7, fun lp hlp => ⟨(by show 3 ≤ sizeLine; decide), fun t2 ht2 => ?_⟩⟩⟩
        have s8 : Same H7 (upd H7 lp (.tup ((r.lines.map fun l => ((ix (allLines S) l : Nat) : Int)).map V.int))) := nw (Same.refl _) hlp
        have hlp8 : (upd H7 lp (.tup ((r.lines.map fun l => ((ix (allLines S) l : Nat) : Int)).map V.int))) lp = some (.tup ((r.lines.map fun l => ((ix (allLines S) l : Nat) : Int)).map V.int)) := upd_same
        generalize upd H7 lp (.tup ((r.lines.map fun l => ((ix (allLines S) l : Nat) : Int)).map V.int)) = H8 at s8 hlp8 ht2
        have s9 : Same H8 (upd H8 t2 (.tup [.int ((ix (S.map (·.num)) r.num : Nat) : Int), .str r.name, .ref lp])) := nw (Same.refl _) ht2
        have ht9 : (upd H8 t2 (.tup [.int ((ix (S.map (·.num)) r.num : Nat) : Int), .str r.name, .ref lp])) t2 = some (.tup [.int ((ix (S.map (·.num)) r.num : Nat) : Int), .str r.name, .ref lp]) := upd_same
        rw [Option.getD_some]
        generalize upd H8 t2 (.tup [.int ((ix (S.map (·.num)) r.num : Nat) : Int), .str r.name, .ref lp]) = H9 at s9 ht9
        have s69 := s7.trans (s8.trans s9)
        have hf9 := s69 _ _ hf6
        have hwl := hws6.len
        rw [List.length_map, List.length_take] at hwl
        refine ⟨fd, _, _, rfl, rfl, hf9, small (by omega), ?_⟩
        have t910 : TSame H9 (upd H9 fd (.lst (ws2 ++ [.ref t2]))) := TSame.lst hf9
        refine ⟨_, _, _, _, rfl, (k6.trans (Kp.same s69)).put (by simp), (t6.trans (same_ts s69)).trans t910, _, upd_same, ?_⟩
        rw [take_snoc hr0, List.map_append]
        exact all2_snoc (hws6.mono fun _ _ z => z.ts ((same_ts s69).trans t910)) ⟨t2, lp, rfl, t910 _ _ ht9, t910 _ _ (s9 _ _ hlp8)⟩
      · subst eσ
        have eR : R.take vs.length = R := List.take_of_length_le (by omega)
        rw [eR] at hws6
        have hnum : ((S.map (renum S)).map (·.num)).Pairwise (fun a b => a < b) := by
          have z := ix_up hnS
          rw [List.map_map] at z ⊢
          exact z
        have hwl : ws2.length = R.length := by rw [hws6.len, List.length_map]
        refine ⟨_, rfl, fd, ws2, (R.map (renum S)).map row3D, rfl, SqL.of hf6, dp_row3 hws6, rows3_alike _, rows3_sortable _, rows3_deep _, fun p2 hp2 => ?_⟩
        have eq2 : (rv b ((R.map (renum S)).map row3D)) = (S.map (renum S)).map row3D := by
          rw [← hSS, rv_map, rv_map]
        rw [sortD_eq (vs := ws2) (ys := rv b ws2) (es := (S.map (renum S)).map row3D) (by rw [rv_len, List.length_map, List.length_map]; omega) (by rw [← eq2]; exact rv_zip (by rw [List.length_map, List.length_map]; exact hwl)) (rows3_up hnum)]
        have hall6 : All2 (RowV H6) (rv b ws2) (S.map (renum S)) := by
          have z := rv_all2 (b := b) hws6
          rw [← rv_map, hSS] at z
          exact z
        refine ⟨p2, _, rfl, .inl ⟨SqL.of upd_same, fun f' hf' => ?_⟩⟩
        have s8 : Same H6 (upd (upd H6 p2 (.lst (rv b ws2))) f' (.tup (rv b ws2))) := nw (nw (Same.refl _) hp2) hf'
        have hf8 : (upd (upd H6 p2 (.lst (rv b ws2))) f' (.tup (rv b ws2))) f' = some (.tup (rv b ws2)) := upd_same
        generalize upd (upd H6 p2 (.lst (rv b ws2))) f' (.tup (rv b ws2)) = H8 at s8 hf8
        have hb8 := s8 _ _ (k6 _ _ (by simpa using Ne.symm nfb) hbl5)
        refine ⟨_, rfl, bl, ws, rfl, .inl ⟨SqL.of hb8, fun bs hbs => ⟨(by show 2 ≤ sizeLine; decide), fun t2 ht2 => ?_⟩⟩⟩
        have s9 : Same H8 (upd (upd H8 bs (.tup ws)) t2 (.tup [.ref f', .ref bs])) := nw (nw (Same.refl _) hbs) ht2
        have s69 := s8.trans s9
        exact q _ t2 f' bs ws ((kst2 k6).trans s69) upd_same ⟨_, s9 _ _ hf8, hall6.mono fun _ _ z => z.ts (same_ts s69)⟩ (new_at upd_same ht2) (hws5.mono fun _ _ z => z.ts (t6.trans (same_ts s69)))
end
end Sk
/-! K93Z: a version is made. -/
namespace Sk
open PySem PySem.Spec PyProof.Rows L2
/-- the book of the lines that were born, from i on -/
def mkB (v : Int) : Nat → List Str → List (Int × LD)
  | _, [] => []
  | i, t :: r => (((i : Nat) : Int), ⟨t, none, v⟩) :: mkB v (i + 1) r
theorem mkB_snoc {v : Int} {t : Str} : ∀ {i : Nat} {ts : List Str}, mkB v i (ts ++ [t]) = mkB v i ts ++ [(((i + ts.length : Nat) : Int), ⟨t, none, v⟩)]
  | i, [] => rfl
  | i, x :: r => by
    show _ :: mkB v (i + 1) (r ++ [t]) = _ :: (mkB v (i + 1) r ++ _)
    rw [mkB_snoc, List.length_cons, show i + 1 + r.length = i + (r.length + 1) by omega]
theorem mkB_get {v : Int} {t : Str} : ∀ {i j : Nat} {ts : List Str}, ts[j]? = some t → (mkB v i ts).lookup (((i + j : Nat) : Int)) = some ⟨t, none, v⟩
  | i, j, [], h => by simp at h
  | i, 0, x :: r, h => by
    have e : x = t := by simpa using h
    subst e
    simp [mkB, List.lookup]
  | i, j + 1, x :: r, h => by
    have h2 : r[j]? = some t := by simpa using h
    have ne : ((((i + (j + 1) : Nat)) : Int) == ((i : Nat) : Int)) = false := by
      simp
      omega
    show List.lookup _ ((((i : Nat) : Int), _) :: mkB v (i + 1) r) = _
    rw [List.lookup_cons, ne]
    have z := mkB_get (v := v) (i := i + 1) h2
    rw [show i + 1 + j = i + (j + 1) by omega] at z
    exact z
theorem mkB_no {v : Int} {n : Nat} : ∀ {i : Nat} {ts : List Str}, i + ts.length ≤ n → (mkB v i ts).lookup ((n : Nat) : Int) = none
  | i, [], _ => rfl
  | i, x :: r, h => by
    rw [List.length_cons] at h
    have ne : (((n : Nat) : Int) == ((i : Nat) : Int)) = false := by
      simp
      omega
    show List.lookup _ ((((i : Nat) : Int), _) :: mkB v (i + 1) r) = _
    rw [List.lookup_cons, ne]
    exact mkB_no (by omega)
theorem putK_none {kvs : List (Key × V)} {k : Key} {v : V} (h : valV kvs k = none) : putK kvs k v = kvs ++ [(k, v)] := by
  unfold putK
  rw [valV_any, h]
  rfl
theorem TSame.put {H H' : Hp} {b : Addr} {o o' : HO} (t : TSame H H') (h : H' b = some o) (ho : ∀ xs, o ≠ .tup xs) : TSame H (upd H' b o') := fun c ys e => by
  have z := t _ _ e
  rw [upd_ne (ne_of z h (Ne.symm (ho ys)))]
  exact z
theorem TSame.new {H H' : Hp} {b : Addr} {o' : HO} (t : TSame H H') (h : H' b = none) : TSame H (upd H' b o') := fun c ys e => by
  have z := t _ _ e
  rw [upd_ne (ne_of_none z h)]
  exact z
theorem nt_dK {kvs : List (Key × V)} : ∀ xs, (HO.dK kvs) ≠ .tup xs := fun xs h => by cases h
theorem nt_lst {ys : List V} : ∀ xs, (HO.lst ys) ≠ .tup xs := fun xs h => by cases h
theorem nt_ins {C dx : Addr} {fs : List (Str × V)} : ∀ xs, (HO.ins C dx fs) ≠ .tup xs := fun xs h => by cases h
section
variable {K : PySem.W.Frag} {H : Hp} {s : Addr} {A : StA} {D : StD}
theorem StAt.neN (h : StAt K H s A D) : s ≠ A.lb ∧ s ≠ A.vb ∧ s ≠ A.hb ∧ s ≠ A.kb ∧ s ≠ A.ob ∧ A.lb ≠ A.vb ∧ A.lb ≠ A.hb ∧ A.lb ≠ A.kb ∧ A.lb ≠ A.ob ∧ A.vb ≠ A.hb ∧ A.vb ≠ A.kb ∧ A.vb ≠ A.ob ∧ A.hb ≠ A.kb ∧ A.hb ≠ A.ob := by
  have z := h.nd
  simp only [List.nodup_cons, List.mem_cons, not_or, List.not_mem_nil] at z
  obtain ⟨⟨a1, a2, a3, a4, a5, _⟩, ⟨b1, b2, b3, b4, _⟩, ⟨c1, c2, c3, _⟩, ⟨d1, d2, _⟩, _⟩ := z
  exact ⟨a1, a2, a3, a4, a5, b1, b2, b3, b4, c1, c2, c3, d1, d2⟩
theorem StAt.putLb (h : StAt K H s A D) {kvs : List (Key × V)} {bk : List (Int × LD)} (e : All2 (LineV (upd H A.lb (.dK kvs))) kvs bk) : StAt K (upd H A.lb (.dK kvs)) s A { D with book := bk } := by
  obtain ⟨b1, b2, b3⟩ := h.book
  obtain ⟨v1, v2, v3⟩ := h.vers
  obtain ⟨x1, x2⟩ := h.bt
  obtain ⟨y1, y2⟩ := h.nr
  obtain ⟨n1, n2, n3, n4, n5, n6, n7, n8, n9, n10, n11, n12, n13, n14⟩ := h.neN
  have t : TSame H (upd H A.lb (.dK kvs)) := TSame.put (fun _ _ e => e) b2 nt_dK
  exact ⟨by rw [upd_ne n1]; exact h.ins, ⟨kvs, upd_same, e⟩, ⟨v1, by rw [upd_ne (Ne.symm n6)]; exact v2, v3.mono fun _ _ z => z.ts t⟩, by rw [upd_ne (Ne.symm n7)]; exact h.heads, t _ _ h.wait, ⟨x1, t _ _ x2⟩, by rw [upd_ne (Ne.symm n8)]; exact h.kept, by rw [upd_ne (Ne.symm n9)]; exact h.watch, ⟨y1, t _ _ y2⟩, h.nd⟩
theorem StAt.putVb (h : StAt K H s A D) {kvs : List (Key × V)} {bk : List (Int × List Int × List FR)} (e : All2 (VerV (upd H A.vb (.dK kvs))) kvs bk) : StAt K (upd H A.vb (.dK kvs)) s A { D with vers := bk } := by
  obtain ⟨b1, b2, b3⟩ := h.book
  obtain ⟨v1, v2, v3⟩ := h.vers
  obtain ⟨x1, x2⟩ := h.bt
  obtain ⟨y1, y2⟩ := h.nr
  obtain ⟨n1, n2, n3, n4, n5, n6, n7, n8, n9, n10, n11, n12, n13, n14⟩ := h.neN
  have t : TSame H (upd H A.vb (.dK kvs)) := TSame.put (fun _ _ e => e) v2 nt_dK
  exact ⟨by rw [upd_ne n2]; exact h.ins, ⟨b1, by rw [upd_ne n6]; exact b2, b3.mono fun _ _ z => z.ts t⟩, ⟨kvs, upd_same, e⟩, by rw [upd_ne (Ne.symm n10)]; exact h.heads, t _ _ h.wait, ⟨x1, t _ _ x2⟩, by rw [upd_ne (Ne.symm n11)]; exact h.kept, by rw [upd_ne (Ne.symm n12)]; exact h.watch, ⟨y1, t _ _ y2⟩, h.nd⟩
theorem StAt.putHb (h : StAt K H s A D) {hs : List (Str × Int)} : StAt K (upd H A.hb (.dK (headK hs))) s A { D with heads := hs } := by
  obtain ⟨b1, b2, b3⟩ := h.book
  obtain ⟨v1, v2, v3⟩ := h.vers
  obtain ⟨x1, x2⟩ := h.bt
  obtain ⟨y1, y2⟩ := h.nr
  obtain ⟨n1, n2, n3, n4, n5, n6, n7, n8, n9, n10, n11, n12, n13, n14⟩ := h.neN
  have t : TSame H (upd H A.hb (.dK (headK hs))) := TSame.put (fun _ _ e => e) h.heads nt_dK
  exact ⟨by rw [upd_ne n3]; exact h.ins, ⟨b1, by rw [upd_ne n7]; exact b2, b3.mono fun _ _ z => z.ts t⟩, ⟨v1, by rw [upd_ne n10]; exact v2, v3.mono fun _ _ z => z.ts t⟩, upd_same, t _ _ h.wait, ⟨x1, t _ _ x2⟩, by rw [upd_ne (Ne.symm n13)]; exact h.kept, by rw [upd_ne (Ne.symm n14)]; exact h.watch, ⟨y1, t _ _ y2⟩, h.nd⟩
theorem StAt.putN (h : StAt K H s A D) (lc fc vc : Int) : StAt K (upd H s (.ins (cSt K) A.dx (stF A { D with lc := lc, fc := fc, vc := vc }))) s A { D with lc := lc, fc := fc, vc := vc } := by
  obtain ⟨b1, b2, b3⟩ := h.book
  obtain ⟨v1, v2, v3⟩ := h.vers
  obtain ⟨x1, x2⟩ := h.bt
  obtain ⟨y1, y2⟩ := h.nr
  obtain ⟨n1, n2, n3, n4, n5, n6, n7, n8, n9, n10, n11, n12, n13, n14⟩ := h.neN
  have t : TSame H (upd H s (.ins (cSt K) A.dx (stF A { D with lc := lc, fc := fc, vc := vc }))) := TSame.put (fun _ _ e => e) h.ins nt_ins
  exact ⟨upd_same, ⟨b1, by rw [upd_ne (Ne.symm n1)]; exact b2, b3.mono fun _ _ z => z.ts t⟩, ⟨v1, by rw [upd_ne (Ne.symm n2)]; exact v2, v3.mono fun _ _ z => z.ts t⟩, by rw [upd_ne (Ne.symm n3)]; exact h.heads, t _ _ h.wait, ⟨x1, t _ _ x2⟩, by rw [upd_ne (Ne.symm n4)]; exact h.kept, by rw [upd_ne (Ne.symm n5)]; exact h.watch, ⟨y1, t _ _ y2⟩, h.nd⟩
theorem StAt.putW (h : StAt K H s A D) {q : Addr} {ws : List Str} (hq : H q = some (.tup (ws.map V.str))) : StAt K (upd H s (.ins (cSt K) A.dx (stF { A with wt := q } { D with wait := ws }))) s { A with wt := q } { D with wait := ws } := by
  obtain ⟨b1, b2, b3⟩ := h.book
  obtain ⟨v1, v2, v3⟩ := h.vers
  obtain ⟨x1, x2⟩ := h.bt
  obtain ⟨y1, y2⟩ := h.nr
  obtain ⟨n1, n2, n3, n4, n5, n6, n7, n8, n9, n10, n11, n12, n13, n14⟩ := h.neN
  have t : TSame H (upd H s (.ins (cSt K) A.dx (stF { A with wt := q } { D with wait := ws }))) := TSame.put (fun _ _ e => e) h.ins nt_ins
  exact ⟨upd_same, ⟨b1, by rw [upd_ne (Ne.symm n1)]; exact b2, b3.mono fun _ _ z => z.ts t⟩, ⟨v1, by rw [upd_ne (Ne.symm n2)]; exact v2, v3.mono fun _ _ z => z.ts t⟩, by rw [upd_ne (Ne.symm n3)]; exact h.heads, t _ _ hq, ⟨x1, t _ _ x2⟩, by rw [upd_ne (Ne.symm n4)]; exact h.kept, by rw [upd_ne (Ne.symm n5)]; exact h.watch, ⟨y1, t _ _ y2⟩, h.nd⟩
end
section
variable {P : Program} {w : World} {K : PySem.W.Frag} {mg : Str → Option Value} {base : Heap}
def spLayB (K : PySem.W.Frag) : Sp := fun vs H Q _ => ∃ (s : Addr) (A : StA) (D : StD) (bs : Addr) (v : Int) (ws : List V) (ts : List Str), vs = [.ref s, .ref bs, .int v] ∧ StAt K H s A D ∧ D.book = [] ∧ D.lc = 0 ∧ D.wait = [] ∧ H bs = some (.tup ws) ∧ All2 (FreshV H) ws ts ∧ ts.length ≤ 2000 ∧
  ∀ H' wt' ws', Kp [s, A.lb] H H' → TSame H H' → StAt K H' s { A with wt := wt' } { D with book := mkB v 0 ts, lc := (ts.length : Int), wait := ws' } → Q .non H'
abbrev N_lay_births : List Str := ["state", "births", "version", "there", "waiting", "text", "origin"]
theorem sc_lay_births : FnScope N_lay_births ["state", "births", "version"] (defScope s_lay_births) := ⟨rfl, rfl, rfl, by decide +kernel, rfl, by decide +kernel, by decide +kernel⟩
theorem ok_lay_births (T : Wt K mg) : Def P w K mg base 2 d_lay_births ["state", "births", "version"] (spLayB K) := by
  have D_texts_there := ok_texts_there (P := P) (w := w) (base := base) T
  refine mk_def (F_lay_births T) rfl sc_lay_births (fun vs H Q E h => ?_) (fun _ _ _ _ _ _ us hl => match us, hl with | [_, _, _], _ => rfl) (fun cdv A outer s H vs Q E hr h => ?_)
  · obtain ⟨s, A, D, bs, v, ws, ts, rfl, _⟩ := h
    rfl
  · have sc := sc_lay_births
    obtain ⟨s, A, D, bs, v, ws, ts, rfl, hS, hbk, hlc, hwt, hbs, hws, hn, q⟩ := h
    refine ⟨_, (pss_cons (ps_par (i := 3) (j := 4) rfl sc.nd rfl rfl (by decide) rfl rfl (pa_cons (pcall D_texts_there (hr.mono (by decide)) (by rfl) (g_texts_there T) passL (pa_cons (pv 0) pa_nil)) (pa_cons (pe_callTy (T := "list") call_list_of (by rfl) (z_list T) (by decide +kernel) (pa_cons (pe_fld (pv 0) rfl) pa_nil)) pa_nil)) (by rfl))
      (pss_cons (ps_for PassesOwn.never rfl (pi_tup (pv 1)) (pg_tup rfl (pgs_cons (pg_name (i := 5) sc.nd rfl (Or.inl rfl)) (pgs_cons (pg_name (i := 6) sc.nd rfl (Or.inl rfl)) pgs_nil)))
        (pss_cons (ps_dput (hu_of hr) (pe_fld (pv 0) rfl) (pe_fld (pv 0) rfl) (pe_tup (pa_cons (pv 5) (pa_cons (pv 6) (pa_cons (pv 2) pa_nil)))) rfl)
        (pss_cons (ps_fldaug (pv 0) pe_int in_add)
        (pss_one (ps_if (pt_cmp (pc_dnotin (hu_of hr) (pv 5) (pv 3)))
          (pss_cons (ps_dput (hu_of hr) (pv 3) (pv 5) pe_bl rfl)
          (pss_one (ps_expr (pe_bm PySem.F.plainAttrs_list PySem.F.slot_list_append PySem.F.type_list_append mt_append (pv 4) (pa_cons (pv 5) pa_nil)))))
          pss_nil)))))
      (pss_one (ps_fld (pv 0) (pe_callTy (T := "tuple") call_tuple_of (by rfl) (z_tuple T) (by decide +kernel) (pa_cons (pv 4) pa_nil)) rfl)))), ?_⟩
    have c := c_State T
    refine ⟨_, rfl, s, A, D, rfl, hS, hbk, fun th hth => ?_⟩
    have hw0 : H A.wt = some (.tup []) := by
      have z := hS.wait
      rw [hwt] at z
      exact z
    refine ⟨_, rfl, s, _, _, _, _, rfl, (hS.same (nw (Same.refl _) hth)).ins, c, n_State_waiting_texts T, lf_waiting_texts, A.wt, [], rfl, .inr (SqT.of (new_at hw0 hth)), fun wl hwl => ⟨_, _, rfl, ?_⟩⟩
    have s1 : Same H (upd (upd H th (.dK [])) wl (.lst [])) := nw (nw (Same.refl _) hth) hwl
    have hth1 : (upd (upd H th (.dK [])) wl (.lst [])) th = some (.dK []) := new_at upd_same hwl
    have hwl1 : (upd (upd H th (.dK [])) wl (.lst [])) wl = some (.lst []) := upd_same
    have hwl0 : H wl = none := by
      rw [upd_ne (Ne.symm (ne_of_none upd_same hwl))] at hwl
      exact hwl
    generalize upd (upd H th (.dK [])) wl (.lst []) = H1 at s1 hth1 hwl1
    obtain ⟨n1, n2, n3, n4, n5, n6, n7, n8, n9, n10, n11, n12, n13, n14⟩ := hS.neN
    have nts : th ≠ s := Ne.symm (ne_of_none hS.ins hth)
    have ntl : th ≠ A.lb := by
      obtain ⟨k, e, _⟩ := hS.book
      exact Ne.symm (ne_of_none e hth)
    have nws : wl ≠ s := Ne.symm (ne_of_none hS.ins hwl0)
    have nwl : wl ≠ A.lb := by
      obtain ⟨k, e, _⟩ := hS.book
      exact Ne.symm (ne_of_none e hwl0)
    have ntw : th ≠ wl := ne_of hth1 hwl1 (by intro z; cases z)
    have small : ∀ {n : Nat}, n < 100000 → n < sizeLine := fun h => Nat.lt_of_lt_of_le h (by decide)
    have hlen := hws.len
    have offT : ∀ q ∈ [s, A.lb, A.vb, A.hb, A.kb, A.ob], q ≠ th ∧ q ≠ wl := fun q hq => by
      have z := hS.there q hq
      exact ⟨fun e => z (by rw [e]; exact hth), fun e => z (by rw [e]; exact hwl0)⟩
    refine ⟨_, rfl, bs, rfl, ⟨_, SqT.of (s1 _ _ hbs)⟩, ?_⟩
    refine for_tup (K := K) (xs := ws) (fun i σ H' => ∃ a b, σ = [some (.ref s), some (.ref bs), some (.int v), some (.ref th), some (.ref wl), a, b] ∧ Kp [s, A.lb] H H' ∧ TSame H H' ∧ StAt K H' s A { D with book := mkB v 0 (ts.take i), lc := (i : Int) } ∧ ∃ kvs ws', H' th = some (.dK kvs) ∧ kvs.length ≤ i ∧ H' wl = some (.lst (ws'.map V.str)) ∧ ws'.length ≤ i)
      ⟨none, none, rfl, Kp.same s1, same_ts s1, ?_, [], [], hth1, Nat.le_refl _, hwl1, Nat.le_refl _⟩ (fun i σ H' _ ⟨_, _, _, _, t, _⟩ => SqT.of (t _ _ hbs)) (fun i x σ H4 hx ⟨a, b, eσ, k4, t4, S4, kvs, ws', hth4, hk4, hwl4, hw4⟩ => ?_) (fun σ H4 ⟨a, b, eσ, k4, t4, S4, kvs, ws', hth4, hk4, hwl4, hw4⟩ => ?_)
    · have z := hS.same s1
      have e : ∀ D0 : StD, D0.book = [] → D0.lc = 0 → { D0 with book := mkB v 0 (ts.take 0), lc := ((0 : Nat) : Int) } = D0 := by
        intro D0 h1 h2
        cases D0
        simp only at h1 h2
        subst h1 h2
        rfl
      rw [e D hbk hlc]
      exact z
    · subst eσ
      obtain ⟨t, ht, a, rfl, ha⟩ := hws.at1 hx
      have hil := (List.getElem?_eq_some_iff.mp ht).1
      refine ⟨a, _, rfl, SqT.of (t4 _ _ ha), rfl, _, _, rfl, _, _, rfl, rfl, ?_⟩
      refine ⟨_, rfl, _, rfl, _, rfl, (by show 3 ≤ sizeLine; decide), fun p hp => ?_⟩
      have s5 : Same H4 (upd H4 p (.tup [.str t, .non, .int v])) := nw (Same.refl _) hp
      have hp5 : (upd H4 p (.tup [.str t, .non, .int v])) p = some (.tup [.str t, .non, .int v]) := upd_same
      generalize upd H4 p (.tup [.str t, .non, .int v]) = H5 at s5 hp5
      have S5 := S4.same s5
      obtain ⟨bk, hb5, hl5⟩ := S5.book
      have hbl := hl5.len
      have hml : (mkB v 0 (ts.take i)).length = i := by
        have z : ∀ (l : List Str) (n : Nat), (mkB v n l).length = l.length := by
          intro l
          induction l with
          | nil => intro n; rfl
          | cons y r ih => intro n; show (mkB v (n + 1) r).length + 1 = _; rw [ih]; rfl
        rw [z, List.length_take]
        omega
      have hno : valV bk (.inl (i : Int)) = none := book_no line_key hl5 (mkB_no (by rw [List.length_take]; omega))
      refine ⟨_, rfl, s, _, _, _, _, rfl, S5.ins, c, n_State_line_book T, lf_line_book, _, rfl, s, _, _, _, _, rfl, S5.ins, c, n_State_line_count T, lf_line_count, A.lb, _, rfl, DPut.k (k := .inl (i : Int)) hb5 (small (by show bk.length < 100000; have : bk.length = (mkB v 0 (ts.take i)).length := hbl; omega)), ?_⟩
      rw [putK_none hno]
      have t56 : TSame H5 (upd H5 A.lb (.dK (bk ++ [(.inl (i : Int), .ref p)]))) := TSame.put (fun _ _ e => e) hb5 nt_dK
      have S6 := S5.putLb (kvs := bk ++ [(.inl (i : Int), .ref p)]) (bk := mkB v 0 (ts.take (i + 1))) (by
        rw [take_snoc ht, mkB_snoc]
        have ei : 0 + (ts.take i).length = i := by rw [List.length_take]; omega
        rw [ei]
        exact all2_snoc (hl5.mono fun _ _ z => z.ts t56) ⟨rfl, p, rfl, t56 _ _ hp5⟩)
      have k6 : Kp [s, A.lb] H (upd H5 A.lb (.dK (bk ++ [(.inl (i : Int), .ref p)]))) := (k4.trans (Kp.same s5)).put (by simp)
      have hth6 : (upd H5 A.lb (.dK (bk ++ [(.inl (i : Int), .ref p)]))) th = some (.dK kvs) := by
        rw [upd_ne ntl]
        exact s5 _ _ hth4
      have hwl6 : (upd H5 A.lb (.dK (bk ++ [(.inl (i : Int), .ref p)]))) wl = some (.lst (ws'.map V.str)) := by
        rw [upd_ne nwl]
        exact s5 _ _ hwl4
      have t6 : TSame H (upd H5 A.lb (.dK (bk ++ [(.inl (i : Int), .ref p)]))) := (t4.trans (same_ts s5)).trans t56
      generalize upd H5 A.lb (.dK (bk ++ [(.inl (i : Int), .ref p)])) = H6 at S6 k6 hth6 hwl6 t6
      refine ⟨_, rfl, s, _, _, _, _, rfl, S6.ins, c, n_State_line_count T, lf_line_count, _, _, rfl, rfl, _, _, S6.ins, len_stF, ?_⟩
      rw [pf_line_count]
      have S7 := S6.putN ((i : Int) + 1) D.fc D.vc
      have k7 : Kp [s, A.lb] H (upd H6 s (.ins (cSt K) A.dx (stF A { D with book := mkB v 0 (ts.take (i + 1)), lc := (i : Int) + 1 }))) := k6.put (by simp)
      have hth7 : (upd H6 s (.ins (cSt K) A.dx (stF A { D with book := mkB v 0 (ts.take (i + 1)), lc := (i : Int) + 1 }))) th = some (.dK kvs) := by
        rw [upd_ne nts]
        exact hth6
      have hwl7 : (upd H6 s (.ins (cSt K) A.dx (stF A { D with book := mkB v 0 (ts.take (i + 1)), lc := (i : Int) + 1 }))) wl = some (.lst (ws'.map V.str)) := by
        rw [upd_ne nws]
        exact hwl6
      have t7 : TSame H (upd H6 s (.ins (cSt K) A.dx (stF A { D with book := mkB v 0 (ts.take (i + 1)), lc := (i : Int) + 1 }))) := t6.put S6.ins nt_ins
      have S7' : StAt K (upd H6 s (.ins (cSt K) A.dx (stF A { D with book := mkB v 0 (ts.take (i + 1)), lc := (i : Int) + 1 }))) s A { D with book := mkB v 0 (ts.take (i + 1)), lc := ((i + 1 : Nat) : Int) } := S7
      generalize upd H6 s (.ins (cSt K) A.dx (stF A { D with book := mkB v 0 (ts.take (i + 1)), lc := (i : Int) + 1 })) = H7 at k7 hth7 hwl7 t7 S7'
      refine ⟨_, rfl, _, rfl, th, _, rfl, DGet.k (k := .inr t) hth7, _, rfl, itb (fun _ => ?_) (fun _ => ⟨_, _, rfl, k7, t7, S7', kvs, ws', hth7, by omega, hwl7, by omega⟩)⟩
      refine ⟨_, rfl, _, rfl, th, _, rfl, DPut.k (k := .inr t) hth7 (small (by omega)), ?_⟩
      have hwl8 : (upd H7 th (.dK (putK kvs (.inr t) (.bl true)))) wl = some (.lst (ws'.map V.str)) := by
        rw [upd_ne (Ne.symm ntw)]
        exact hwl7
      have k8 : Kp [th] H7 (upd H7 th (.dK (putK kvs (.inr t) (.bl true)))) := (Kp.refl _ _).put (by simp)
      have t8 : TSame H7 (upd H7 th (.dK (putK kvs (.inr t) (.bl true)))) := TSame.put (fun _ _ e => e) hth7 nt_dK
      have hth8 : (upd H7 th (.dK (putK kvs (.inr t) (.bl true)))) th = some (.dK (putK kvs (.inr t) (.bl true))) := upd_same
      generalize upd H7 th (.dK (putK kvs (.inr t) (.bl true))) = H8 at hwl8 k8 t8 hth8
      refine ⟨_, rfl, .inl ⟨rfl, _, SqL.of hwl8⟩, _, rfl, wl, _, _, rfl, rfl, hwl8, small (by rw [List.length_map]; omega), ?_⟩
      have t9 : TSame H8 (upd H8 wl (.lst (ws'.map V.str ++ [.str t]))) := TSame.lst hwl8
      have k9 : Kp [th, wl] H7 (upd H8 wl (.lst (ws'.map V.str ++ [.str t]))) := fun b o hb e => by
        have z : b ≠ th ∧ b ≠ wl := by simpa using hb
        rw [upd_ne z.2]
        exact k8 b o (by simpa using z.1) e
      refine ⟨_, _, rfl, fun b o hb e => ?_, (t7.trans t8).trans t9, S7'.kp k9 (fun q hq z => ?_) (t8.trans t9), putK kvs (.inr t) (.bl true), ws' ++ [t], ?_, ?_, ?_, ?_⟩
      · exact k9 b o (by
          have z1 := ne_of_none e hth
          have z2 := ne_of_none e hwl0
          simp [z1, z2]) (k7 b o hb e)
      · have z2 : q = th ∨ q = wl := by simpa using z
        rcases z2 with e | e
        · exact (offT q hq).1 e
        · exact (offT q hq).2 e
      · rw [upd_ne ntw]
        exact hth8
      · have z : (putK kvs (.inr t) (.bl true)).length ≤ kvs.length + 1 := by
          unfold putK
          split
          · rw [List.length_map]
            omega
          · rw [List.length_append]
            simp
        omega
      · rw [upd_same, List.map_append]
        rfl
      · rw [List.length_append, List.length_singleton]
        omega
    · subst eσ
      refine ⟨_, rfl, wl, _, rfl, .inl ⟨SqL.of hwl4, fun p hp => ⟨_, rfl, s, _, _, _, rfl, (S4.same (nw (Same.refl _) hp)).ins, c, n_State_waiting_texts T, len_stF, ?_⟩⟩⟩
      rw [pf_waiting_texts]
      have e : ts.take ws.length = ts := List.take_of_length_le (by omega)
      rw [e, hlen] at S4
      have S5 := (S4.same (nw (Same.refl H4) hp)).putW (q := p) (ws := ws') upd_same
      refine q _ p ws' ((k4.nw hp).put (by simp)) ((t4.new hp).put (S4.same (nw (Same.refl H4) hp)).ins nt_ins) ?_
      rw [hlen]
      exact S5
def spNotices (K : PySem.W.Frag) : Sp := fun vs H Q _ => ∃ (s : Addr) (A : StA) (D : StD) (v : V), vs = [.ref s, v] ∧ StAt K H s A D ∧ D.watch = [] ∧ ∀ H' p, Same H H' → H' p = some (.lst []) → Q (.ref p) H'
abbrev N_new_notices : List Str := ["state", "version", "found", "name", "taken", "parent", "came", "went"]
theorem sc_new_notices : FnScope N_new_notices ["state", "version"] (defScope s_new_notices) := ⟨rfl, rfl, rfl, by decide +kernel, rfl, by decide +kernel, by decide +kernel⟩
theorem ok_new_notices (T : Wt K mg) : Def P w K mg base 1 d_new_notices ["state", "version"] (spNotices K) := by
  refine mk_def (F_new_notices T) rfl sc_new_notices (fun vs H Q E h => ?_) (fun _ _ _ _ _ _ us hl => match us, hl with | [_, _], _ => rfl) (fun cdv A outer s H vs Q E hr h => ?_)
  · obtain ⟨s, A, D, v, rfl, _⟩ := h
    rfl
  · have sc := sc_new_notices
    obtain ⟨s, A, D, v, rfl, hS, hw, q⟩ := h
    refine ⟨_, (pss_cons (ps_set (i := 2) sc.nd rfl (Or.inl rfl) (pe_lst pa_nil))
      (pss_cons (ps_for PassesOwn.never rfl (pi_list (pe_callB (call_sortedD rfl) (by rfl) (z_sorted T) (by decide +kernel) (pa_cons (pe_fld (pv 0) rfl) pa_nil))) (pg_name (i := 3) sc.nd rfl (Or.inl rfl))
        (pss_cons ps_never
        (pss_one ps_never)))
      (pss_one (ps_ret (pv 2))))), ?_⟩
    have c := c_State T
    refine ⟨(by show 0 ≤ sizeLine; decide), fun l hl => set_ ?_⟩
    have s1 : Same H (upd H l (.lst [])) := nw (Same.refl _) hl
    have hl1 : (upd H l (.lst [])) l = some (.lst []) := upd_same
    generalize upd H l (.lst []) = H1 at s1 hl1
    have S1 := hS.same s1
    have hw1 := S1.watch
    rw [hw] at hw1
    refine ⟨_, rfl, s, _, _, _, _, rfl, S1.ins, c, n_State_watch_book T, lf_watch_book, A.ob, [], [], rfl, .inl hw1, rfl, (by decide), fun ys p hp _ hp2 => ?_⟩
    obtain rfl : ys = [] := List.perm_nil.mp hp
    refine ⟨p, rfl, ⟨_, SqL.of upd_same⟩, ?_⟩
    refine for_list (K := K) (xs := []) (fun i σ H' => σ = [some (.ref s), some v, some (.ref l), none, none, none, none, none] ∧ H' = upd H1 p (.lst [])) ⟨rfl, rfl⟩ (fun i σ H' _ ⟨_, e⟩ => by rw [e]; exact SqL.of upd_same) (fun i x σ H' hx _ => by simp at hx) (fun σ H' ⟨e1, e2⟩ => ?_)
    subst e1 e2
    exact ⟨_, rfl, q _ l (nw s1 hp2) (new_at hl1 hp2)⟩
end
end Sk
/-! K93ZA: a version is redone, made. -/
namespace Sk
open PySem PySem.Spec PyProof.Rows L2
/-- the state behind the first version -/
def stD1 (ts : List Str) (rs : List FR) (m : Int) (ws : List Str) : StD := ⟨mkB 1 0 ts, (ts.length : Int), m, [(0, [], []), (1, [0], rs)], 2, [("main", 1)], ws, [], [], 0⟩
section
variable {P : Program} {w : World} {K : PySem.W.Frag} {mg : Str → Option Value} {base : Heap}
def spRedo (K : PySem.W.Frag) : Sp := fun vs H Q _ => ∃ (s : Addr) (A : StA) (pp f bs : Addr) (rs : List FR) (ws : List V) (ts : List Str), vs = [.ref s, .str "main", .ref pp, .ref f, .ref bs] ∧ StAt K H s A stD0 ∧ H pp = some (.tup [.int 0]) ∧ RowsAt H f rs ∧ rs.length ≤ 12 ∧
  H bs = some (.tup ws) ∧ All2 (FreshV H) ws ts ∧ ts.length ≤ 2000 ∧
  ∀ H' wt' m ws', Kp [s, A.lb, A.vb, A.hb] H H' → TSame H H' → StAt K H' s { A with wt := wt' } (stD1 ts rs m ws') → Q .non H'
abbrev N_redo_version : List Str := ["state", "branch", "parents", "files", "births", "version", "row", "file", "name", "lines"]
theorem sc_redo_version : FnScope N_redo_version ["state", "branch", "parents", "files", "births"] (defScope s_redo_version) := ⟨rfl, rfl, rfl, by decide +kernel, rfl, by decide +kernel, by decide +kernel⟩
theorem ok_redo (T : Wt K mg) : Def P w K mg base 3 d_redo_version ["state", "branch", "parents", "files", "births"] (spRedo K) := by
  have D_lay_births := ok_lay_births (P := P) (w := w) (base := base) T
  have D_new_notices := ok_new_notices (P := P) (w := w) (base := base) T
  refine mk_def (F_redo_version T) rfl sc_redo_version (fun vs H Q E h => ?_) (fun _ _ _ _ _ _ us hl => match us, hl with | [_, _, _, _, _], _ => rfl) (fun cdv A outer s H vs Q E hr h => ?_)
  · obtain ⟨s, A, pp, f, bs, rs, ws, ts, rfl, _⟩ := h
    rfl
  · have sc := sc_redo_version
    obtain ⟨s, A, pp, f, bs, rs, ws, ts, rfl, hS, hpp, ⟨vs, hf, hvs⟩, hrl, hbs, hws, hn, q⟩ := h
    refine ⟨_, (pss_cons (ps_set (i := 5) sc.nd rfl (Or.inl rfl) (pe_fld (pv 0) rfl))
      (pss_cons (ps_expr (pcall D_lay_births (hr.mono (by decide)) (by rfl) (g_lay_births T) passL (pa_cons (pv 0) (pa_cons (pv 4) (pa_cons (pv 5) pa_nil)))))
      (pss_cons (ps_fld (pv 0) (pe_callB (cr_max rfl) (by rfl) (z_max T) (by decide +kernel) (pa_cons (pe_op op_cat (pe_lst (pa_cons (pe_fld (pv 0) rfl) pa_nil)) (pe_lc (own := [("file", 7), ("name", 8), ("lines", 9)]) rfl sc.nd (pi_tup (pv 3)) (blkOk_by (N := N_redo_version) (sc := defScope s_redo_version) (by decide +kernel)) (fun _ _ _ _ _ => (pg_tupK (K := K) (n := 3) rfl (pgs_cons (pg_name (i := 7) sc.nd rfl (Or.inl rfl)) (pgs_cons (pg_name (i := 8) sc.nd rfl (Or.inl rfl)) (pgs_cons (pg_name (i := 9) sc.nd rfl (Or.inl rfl)) pgs_nil))))) (fun _ _ _ _ _ => pts_nil) (fun _ _ _ _ _ => (pe_op op_add (pv 7) pe_int)))) pa_nil)) rfl)
      (pss_cons (ps_dput (hu_of hr) (pe_fld (pv 0) rfl) (pv 5) (pe_tup (pa_cons (pv 2) (pa_cons (pv 3) pa_nil))) rfl)
      (pss_cons (ps_fldaug (pv 0) pe_int in_add)
      (pss_cons (ps_dput (hu_of hr) (pe_fld (pv 0) rfl) (pv 1) (pv 5) rfl)
      (pss_one (ps_for PassesOwn.never rfl (pi_list (pcall D_new_notices (hr.mono (by decide)) (by rfl) (g_new_notices T) passL (pa_cons (pv 0) (pa_cons (pv 5) pa_nil)))) (pg_name (i := 6) sc.nd rfl (Or.inl rfl))
        (pss_cons ps_never
        (pss_one ps_never)))))))))), ?_⟩
    have c := c_State T
    have hvl := hvs.len
    refine ⟨_, rfl, s, _, _, _, _, rfl, hS.ins, c, n_State_version_count T, lf_version_count, set_ ?_⟩
    refine ⟨_, rfl, _, rfl, _, rfl, s, A, stD0, bs, 1, ws, ts, rfl, hS, rfl, rfl, rfl, hbs, hws, hn, fun H1 wt' ws' k1 t1 S1 => ?_⟩
    have hvs1 : All2 (RowV H1) vs rs := hvs.mono fun _ _ z => z.ts t1
    have hf1 := t1 _ _ hf
    refine ⟨_, rfl, s, _, _, _, _, rfl, S1.ins, c, n_State_file_count T, lf_file_count, (by show 1 ≤ sizeLine; decide), fun l1 hl1 => ?_⟩
    have s2 : Same H1 (upd H1 l1 (.lst [.int 0])) := nw (Same.refl _) hl1
    have hl2 : (upd H1 l1 (.lst [.int 0])) l1 = some (.lst [.int 0]) := upd_same
    refine ⟨_, rfl, f, rfl, ⟨_, SqT.of (s2 _ _ hf1)⟩, fun C hC => ?_⟩
    refine lc_pureG (walk_tup (K := K) (a := f) (xs := vs)) (by omega) (fun i v H' => ∃ r, rs[i]? = some r ∧ v = .int (r.num + 1)) (fun H' s3 => SqT.of (s3 _ _ (s2 _ _ hf1))) (fun i v H2 H3 ts e => e) hC (fun i x H2 H3 R' hi s3 hy kk => ?_) (fun xs H2 hx2 hxl s3 hev => ?_) gTup3_mono
    · obtain ⟨rfl, hx⟩ := hy
      obtain ⟨r, hr0, t, u, rfl, ht, hu⟩ := hvs1.at1 hx
      exact ⟨t, _, rfl, SqT.of (s3 _ _ (s2 _ _ ht)), rfl, _, _, rfl, _, _, rfl, _, _, rfl, rfl, rfl, _, rfl, _, _, rfl, rfl, kk _ _ (Same.refl _) ⟨r, hr0, rfl⟩⟩
    have ex : xs = (rs.map fun r => r.num + 1).map V.int := by
      refine List.ext_getElem? fun i => ?_
      cases e : xs[i]? with
      | none =>
        have z := List.getElem?_eq_none_iff.mp e
        rw [List.getElem?_eq_none_iff.mpr (by rw [List.length_map, List.length_map]; omega)]
      | some v =>
        obtain ⟨r, h1, h2⟩ := hev i v e
        rw [List.getElem?_map, List.getElem?_map, h1, h2]
        rfl
    subst ex
    refine ⟨l1, C, _, _, rfl, rfl, s3 _ _ hl2, hx2, ?_, fun p hp => ?_⟩
    · rw [List.length_map, List.length_map, List.length_singleton]
      exact Nat.le_trans (show 1 + rs.length ≤ 1000 by omega) (by decide)
    have s4 : Same H1 (upd H2 p (.lst ([.int 0] ++ (rs.map fun r => r.num + 1).map V.int))) := nw (s2.trans s3) hp
    have hp4 : (upd H2 p (.lst ([.int 0] ++ (rs.map fun r => r.num + 1).map V.int))) p = some (.lst ([.int 0] ++ (rs.map fun r => r.num + 1).map V.int)) := upd_same
    refine ⟨p, 0 :: (rs.map fun r : FR => r.num + 1), rfl, SqL.of (xs := (0 :: (rs.map fun r : FR => r.num + 1)).map V.int) hp4, by simp, fun m _ _ => ?_⟩
    generalize upd H2 p (.lst ([.int 0] ++ (rs.map fun r => r.num + 1).map V.int)) = H4 at s4 hp4
    have S4 := S1.same s4
    refine ⟨_, rfl, s, _, _, _, rfl, S4.ins, c, n_State_file_count T, len_stF, ?_⟩
    rw [pf_file_count]
    have S5 := S4.putN (ts.length : Int) m 1
    have t5 : TSame H (upd H4 s (.ins (cSt K) A.dx (stF { A with wt := wt' } { stD0 with book := mkB 1 0 ts, lc := (ts.length : Int), wait := ws', fc := m }))) := (t1.trans (same_ts s4)).put S4.ins nt_ins
    have k5 : Kp [s, A.lb, A.vb, A.hb] H (upd H4 s (.ins (cSt K) A.dx (stF { A with wt := wt' } { stD0 with book := mkB 1 0 ts, lc := (ts.length : Int), wait := ws', fc := m }))) := fun b o hb e => by
      have z : b ≠ s ∧ b ≠ A.lb ∧ b ≠ A.vb ∧ b ≠ A.hb := by simpa using hb
      rw [upd_ne z.1]
      exact s4 _ _ (k1 _ _ (by simp [z.1, z.2.1]) e)
    have S5' : StAt K (upd H4 s (.ins (cSt K) A.dx (stF { A with wt := wt' } { stD0 with book := mkB 1 0 ts, lc := (ts.length : Int), wait := ws', fc := m }))) s { A with wt := wt' } { stD0 with book := mkB 1 0 ts, lc := (ts.length : Int), wait := ws', fc := m } := S5
    refine nx_eq (H' := upd H4 s (.ins (cSt K) A.dx (stF { A with wt := wt' } { stD0 with book := mkB 1 0 ts, lc := (ts.length : Int), wait := ws', fc := m }))) rfl ?_
    generalize upd H4 s (.ins (cSt K) A.dx (stF { A with wt := wt' } { stD0 with book := mkB 1 0 ts, lc := (ts.length : Int), wait := ws', fc := m })) = H5 at t5 k5 S5'
    refine ⟨_, rfl, _, rfl, (by show 2 ≤ sizeLine; decide), fun a ha => ?_⟩
    have s6 : Same H5 (upd H5 a (.tup [.ref pp, .ref f])) := nw (Same.refl _) ha
    have ha6 : (upd H5 a (.tup [.ref pp, .ref f])) a = some (.tup [.ref pp, .ref f]) := upd_same
    generalize upd H5 a (.tup [.ref pp, .ref f]) = H6 at s6 ha6
    have S6 := S5'.same s6
    have t6 := t5.trans (same_ts s6)
    obtain ⟨vk, hv6, hvl6⟩ := S6.vers
    have hno : valV vk (.inl 1) = none := book_no ver_key hvl6 rfl
    refine ⟨_, rfl, s, _, _, _, _, rfl, S6.ins, c, n_State_version_book T, lf_version_book, _, rfl, A.vb, _, rfl, DPut.k (k := .inl 1) hv6 (by have z : vk.length = 1 := hvl6.len; rw [z]; decide), ?_⟩
    rw [putK_none hno]
    have t67 : TSame H6 (upd H6 A.vb (.dK (vk ++ [(.inl 1, .ref a)]))) := TSame.put (fun _ _ e => e) hv6 nt_dK
    have S7 := S6.putVb (kvs := vk ++ [(.inl 1, .ref a)]) (bk := [(0, [], []), (1, [0], rs)]) (all2_snoc (l := vk) (m := [(0, [], [])]) (hvl6.mono fun _ _ z => z.ts t67) ⟨rfl, a, pp, f, rfl, t67 _ _ ha6, (t6.trans t67) _ _ hpp, vs, (t6.trans t67) _ _ hf, hvs.mono fun _ _ z => z.ts (t6.trans t67)⟩)
    have t7 := t6.trans t67
    have k7 : Kp [s, A.lb, A.vb, A.hb] H (upd H6 A.vb (.dK (vk ++ [(.inl 1, .ref a)]))) := (k5.trans (Kp.same s6)).put (by simp)
    refine nx_eq (H' := upd H6 A.vb (.dK (vk ++ [(.inl 1, .ref a)]))) rfl ?_
    generalize upd H6 A.vb (.dK (vk ++ [(.inl 1, .ref a)])) = H7 at S7 t7 k7
    refine ⟨_, rfl, s, _, _, _, _, rfl, S7.ins, c, n_State_version_count T, lf_version_count, _, _, rfl, rfl, _, _, S7.ins, len_stF, ?_⟩
    rw [pf_version_count]
    have S8 := S7.putN (ts.length : Int) m 2
    have S8' : StAt K (upd H7 s (.ins (cSt K) A.dx (stF { A with wt := wt' } { stD0 with book := mkB 1 0 ts, lc := (ts.length : Int), wait := ws', fc := m, vers := [(0, [], []), (1, [0], rs)], vc := 2 }))) s { A with wt := wt' } { stD0 with book := mkB 1 0 ts, lc := (ts.length : Int), wait := ws', fc := m, vers := [(0, [], []), (1, [0], rs)], vc := 2 } := S8
    have t8 : TSame H (upd H7 s (.ins (cSt K) A.dx (stF { A with wt := wt' } { stD0 with book := mkB 1 0 ts, lc := (ts.length : Int), wait := ws', fc := m, vers := [(0, [], []), (1, [0], rs)], vc := 2 }))) := t7.put S7.ins nt_ins
    have k8 : Kp [s, A.lb, A.vb, A.hb] H (upd H7 s (.ins (cSt K) A.dx (stF { A with wt := wt' } { stD0 with book := mkB 1 0 ts, lc := (ts.length : Int), wait := ws', fc := m, vers := [(0, [], []), (1, [0], rs)], vc := 2 }))) := k7.put (by simp)
    refine nx_eq (H' := upd H7 s (.ins (cSt K) A.dx (stF { A with wt := wt' } { stD0 with book := mkB 1 0 ts, lc := (ts.length : Int), wait := ws', fc := m, vers := [(0, [], []), (1, [0], rs)], vc := 2 }))) rfl ?_
    generalize upd H7 s (.ins (cSt K) A.dx (stF { A with wt := wt' } { stD0 with book := mkB 1 0 ts, lc := (ts.length : Int), wait := ws', fc := m, vers := [(0, [], []), (1, [0], rs)], vc := 2 })) = H8 at S8' t8 k8
    have hh8 := S8'.heads
    have S9 := S8'.putHb (hs := [("main", 1)])
    have t9 : TSame H (upd H8 A.hb (.dK (headK [("main", 1)]))) := t8.put hh8 nt_dK
    have k9 : Kp [s, A.lb, A.vb, A.hb] H (upd H8 A.hb (.dK (headK [("main", 1)]))) := k8.put (by simp)
    refine ⟨_, rfl, _, rfl, s, _, _, _, _, rfl, S8'.ins, c, n_State_head_book T, lf_head_book, _, rfl, A.hb, _, rfl, DPut.k (k := .inr "main") hh8 (by show 1 < sizeLine; decide), ?_⟩
    refine nx_eq (H' := upd H8 A.hb (.dK (headK [("main", 1)]))) (congrArg (fun z => upd H8 A.hb (.dK z)) (by rfl)) ?_
    generalize upd H8 A.hb (.dK (headK [("main", 1)])) = H9 at S9 t9 k9
    refine ⟨_, rfl, _, rfl, s, _, _, _, rfl, S9, rfl, fun H10 p2 s10 hp2 => ⟨p2, rfl, ⟨_, SqL.of hp2⟩, ?_⟩⟩
    refine for_list (K := K) (xs := []) (fun i σ H' => H' = H10) rfl (fun i σ H' _ e => by rw [e]; exact SqL.of hp2) (fun i x σ H' hx _ => by simp at hx) (fun σ H' e2 => ?_)
    subst e2
    exact q _ wt' m ws' (k9.trans (Kp.same s10)) (t9.trans (same_ts s10)) (S9.same s10)
def spMkV (K : PySem.W.Frag) : Sp := fun vs H Q _ => ∃ (s : Addr) (A : StA) (pp f fr : Addr) (kvs : List (Key × V)) (R : List FR) (b : Bool) (tx : Int → Str), vs = [.ref s, .str "main", .ref pp, .ref f, .ref fr] ∧ StAt K H s A stD0 ∧ H pp = some (.tup [.int 0]) ∧ RowsAt H f R ∧ R.length ≤ 12 ∧ (allLines R).length ≤ 2000 ∧
  (R.map (·.num)).Nodup ∧ (∀ n ∈ R.map (·.num), 1000000000 ≤ n) ∧ (allLines (rv b R)).Nodup ∧ (∀ l ∈ allLines (rv b R), 1000000000 ≤ l) ∧ ((rv b R).map (·.name)).Pairwise (fun a b => cl a < cl b) ∧ H fr = some (.dK kvs) ∧
  (∀ l ∈ allLines (rv b R), ∃ a, valV kvs (.inl l) = some (.ref a) ∧ H a = some (.tup [.str (tx l), .non])) ∧
  ∀ H' p wt' m ws', Kp [s, A.lb, A.vb, A.hb] H H' → TSame H H' → StAt K H' s { A with wt := wt' } (stD1 ((allLines (rv b R)).map tx) ((rv b R).map (renum (rv b R))) m ws') → Q (.ref p) H'
theorem lines_rv {b : Bool} {R : List FR} : (allLines (rv b R)).length = (allLines R).length := (List.Perm.flatMap_right _ rv_perm : (allLines (rv b R)).Perm (allLines R)).length_eq
abbrev N_make_version : List Str := ["state", "branch", "parents", "files", "fresh", "last_files", "births"]
theorem sc_make_version : FnScope N_make_version ["state", "branch", "parents", "files", "fresh"] (defScope s_make_version) := ⟨rfl, rfl, rfl, by decide +kernel, rfl, by decide +kernel, by decide +kernel⟩
theorem ok_make_version (T : Wt K mg) : Def P w K mg base 4 d_make_version ["state", "branch", "parents", "files", "fresh"] (spMkV K) := by
  have D_numbered := ok_numbered (P := P) (w := w) (base := base) T
  have D_redo_version := ok_redo (P := P) (w := w) (base := base) T
  refine mk_def (F_make_version T) rfl sc_make_version (fun vs H Q E h => ?_) (fun _ _ _ _ _ _ us hl => match us, hl with | [_, _, _, _, _], _ => rfl) (fun cdv A outer s H vs Q E hr h => ?_)
  · obtain ⟨s, A, pp, f, fr, kvs, R, b, tx, rfl, _⟩ := h
    rfl
  · have sc := sc_make_version
    obtain ⟨s, A, pp, f, fr, kvs, R, b, tx, rfl, hS, hpp, hF, hRl, hL, hnn, hn9, hln, hl9, hup, hfr, htx, q⟩ := h
    refine ⟨_, (pss_cons (ps_asg (pcall D_numbered (hr.mono (by decide)) (by rfl) (g_numbered T) passL (pa_cons (pv 0) (pa_cons (pv 3) (pa_cons (pv 4) pa_nil)))) (pg_tup rfl (pgs_cons (pg_name (i := 5) sc.nd rfl (Or.inl rfl)) (pgs_cons (pg_name (i := 6) sc.nd rfl (Or.inl rfl)) pgs_nil))))
      (pss_cons (ps_expr (pcall D_redo_version (hr.mono (by decide)) (by rfl) (g_redo_version T) passL (pa_cons (pv 0) (pa_cons (pv 1) (pa_cons (pv 2) (pa_cons (pv 5) (pa_cons (pv 6) pa_nil)))))))
      (pss_one (ps_ret (pe_tup (pa_cons pe_str (pa_cons (pv 1) (pa_cons (pv 2) (pa_cons (pv 5) (pa_cons (pv 6) pa_nil)))))))))), ?_⟩
    refine ⟨_, rfl, _, rfl, _, rfl, s, A, stD0, f, fr, kvs, R, b, tx, rfl, hS, rfl, rfl, hF, hRl, hL, hnn, hn9, hln, hl9, hup, hfr, htx, fun H1 p f' bs ws s1 hp hF' hbs hws => ?_⟩
    refine ⟨p, _, rfl, SqT.of hp, rfl, _, _, rfl, _, _, rfl, rfl, ?_⟩
    refine ⟨_, rfl, _, rfl, _, rfl, _, rfl, _, rfl, s, A, pp, f', bs, _, ws, _, rfl, hS.same s1, s1 _ _ hpp, hF', (by rw [List.length_map, rv_len]; exact hRl), hbs, hws, (by rw [List.length_map, lines_rv]; exact hL), fun H2 wt' m ws' k2 t2 S2 => ?_⟩
    refine ⟨_, rfl, _, rfl, _, rfl, _, rfl, (by show 5 ≤ sizeLine; decide), fun t ht => ?_⟩
    exact q _ t wt' m ws' (((Kp.same s1).trans k2).nw ht) (((same_ts s1).trans t2).new ht) (S2.same (nw (Same.refl _) ht))
end
end Sk
/-! K93ZB: a work is kept. -/
namespace Sk
open PySem PySem.Spec PyProof.Rows L2
section
variable {P : Program} {w : World} {K : PySem.W.Frag} {mg : Str → Option Value} {base : Heap}
def spKept (K : PySem.W.Frag) : Sp := fun vs H Q _ => ∃ (x dx fr : Addr) (fs : List (Str × V)) (kvs : List (Key × V)) (l : Int) (v : V), vs = [.ref x, .int l] ∧ H x = some (.ins (cWk K) dx fs) ∧ fs.lookup ("fresh" : Str) = some (.ref fr) ∧ H fr = some (.dK kvs) ∧ valV kvs (.inl l) = some v ∧ Q (.int l) H
abbrev N_Work_kept_line : List Str := ["self", "line"]
theorem sc_Work_kept_line : FnScope N_Work_kept_line ["self", "line"] (defScope s_Work_kept_line) := ⟨rfl, rfl, rfl, by decide +kernel, rfl, by decide +kernel, by decide +kernel⟩
theorem ok_kept_line (T : Wt K mg) : Def P w K mg base 1 d_Work_kept_line ["self", "line"] (spKept K) := by
  refine mk_def (F_Work_kept_line T) rfl sc_Work_kept_line (fun vs H Q E h => ?_) (fun _ _ _ _ _ _ us hl => match us, hl with | [_, _], _ => rfl) (fun cdv A outer s H vs Q E hr h => ?_)
  · obtain ⟨x, dx, fr, fs, kvs, l, v, rfl, _⟩ := h
    rfl
  · have sc := sc_Work_kept_line
    obtain ⟨x, dx, fr, fs, kvs, l, v, rfl, hx, hl, hfr, hv, q⟩ := h
    refine ⟨_, (pss_cons (ps_if (PW.pt (pw_or (pt_cmp (pc_din (hu_of hr) (pv 1) (pe_fld (pv 0) rfl))) (pw_or1 (pt_cmp (pc_din (hu_of hr) (pv 1) (pe_fld (pe_fld (pe_fld (pv 0) rfl) rfl) rfl))))))
        (pss_one (ps_ret (pv 1)))
        pss_nil)
      (pss_one ps_never)), ?_⟩
    have gd := DGet.k (k := .inl l) hfr
    rw [hv] at gd
    exact ⟨_, rfl, _, rfl, x, _, dx, _, _, rfl, hx, c_Work T, n_Work_fresh T, hl, fr, _, rfl, gd, _, rfl, itb (fun _ => ⟨_, rfl, q⟩) (fun e => by cases e)⟩
def spRenew (K : PySem.W.Frag) : Sp := fun vs H Q _ => ∃ (x dx sto : Addr) (v : Int) (f0 f fr lt : Addr) (rs : List FR) (ft : List Str) (kvs : List (Key × V)), vs = [.ref x] ∧ WkAt K H x dx sto v f0 f fr lt rs ft ∧ rs.length ≤ 12 ∧ (allLines rs).length ≤ 2000 ∧ H fr = some (.dK kvs) ∧ (∀ l ∈ allLines rs, ∃ v, valV kvs (.inl l) = some v) ∧
  ∀ H' f', Kp [x] H H' → TSame H H' → WkAt K H' x dx sto v f0 f' fr lt rs ft → Q .non H'
abbrev N_Work_renew : List Str := ["self", "found", "file", "name", "lines", "line"]
theorem sc_Work_renew : FnScope N_Work_renew ["self"] (defScope s_Work_renew) := ⟨rfl, rfl, rfl, by decide +kernel, rfl, by decide +kernel, by decide +kernel⟩
theorem ok_renew (T : Wt K mg) : Def P w K mg base 2 d_Work_renew ["self"] (spRenew K) := by
  have D_Work_kept_line := ok_kept_line (P := P) (w := w) (base := base) T
  refine mk_def (F_Work_renew T) rfl sc_Work_renew (fun vs H Q E h => ?_) (fun _ _ _ _ _ _ us hl => match us, hl with | [_], _ => rfl) (fun cdv A outer s H vs Q E hr h => ?_)
  · obtain ⟨x, dx, sto, v, f0, f, fr, lt, rs, ft, kvs, rfl, _⟩ := h
    rfl
  · have sc := sc_Work_renew
    obtain ⟨x, dx, sto, v, f0, f, fr, lt, rs, ft, kvs, rfl, hW, hrl, hL, hfr, hkv, q⟩ := h
    refine ⟨_, (pss_cons (ps_set (i := 1) sc.nd rfl (Or.inl rfl) (pe_lst pa_nil))
      (pss_cons (ps_for PassesOwn.never rfl (pi_tup (pe_fld (pv 0) rfl)) (pg_tup rfl (pgs_cons (pg_name (i := 2) sc.nd rfl (Or.inl rfl)) (pgs_cons (pg_name (i := 3) sc.nd rfl (Or.inl rfl)) (pgs_cons (pg_name (i := 4) sc.nd rfl (Or.inl rfl)) pgs_nil))))
        (pss_one (ps_expr (pe_bm PySem.F.plainAttrs_list PySem.F.slot_list_append PySem.F.type_list_append mt_append (pv 1) (pa_cons (pe_tup (pa_cons (pv 2) (pa_cons (pv 3) (pa_cons (pe_callTy (T := "tuple") call_tuple_of (by rfl) (z_tuple T) (by decide +kernel) (pa_cons (pe_lc (own := [("line", 5)]) rfl sc.nd (pi_tup (pv 4)) (blkOk_by (N := N_Work_renew) (sc := defScope s_Work_renew) (by decide +kernel)) (fun _ _ _ _ _ => (pg_name (i := 5) sc.nd rfl (Or.inl rfl))) (fun _ _ _ _ _ => pts_nil) (fun _ _ _ _ _ => (pmeth (pv 0) (c_Work T) (m_Work_kept_line T) D_Work_kept_line rfl (hr.mono (by decide)) passL (pa_cons (pv 5) pa_nil)))) pa_nil)) pa_nil)))) pa_nil)))))
      (pss_one (ps_fld (pv 0) (pe_callTy (T := "tuple") call_tuple_of (by rfl) (z_tuple T) (by decide +kernel) (pa_cons (pv 1) pa_nil)) rfl)))), ?_⟩
    have c := c_Work T
    obtain ⟨vs, hf, hvs⟩ := hW.files
    have hvl := hvs.len
    refine ⟨(by show 0 ≤ sizeLine; decide), fun fd hfd => set_ ?_⟩
    have s1 : Same H (upd H fd (.lst [])) := nw (Same.refl _) hfd
    have hfd1 : (upd H fd (.lst [])) fd = some (.lst []) := upd_same
    have nfd : fd ∉ [x] := by
      simpa using Ne.symm (ne_of_none hW.ins hfd)
    generalize upd H fd (.lst []) = H1 at s1 hfd1
    have kst : ∀ {H' : Hp}, Kp [fd] H1 H' → Same H H' := fun k b o e => k b o (by simpa using ne_of_none e hfd) (s1 _ _ e)
    refine ⟨_, rfl, x, _, dx, _, _, rfl, s1 _ _ hW.ins, c, n_Work_files T, rfl, f, rfl, ⟨_, SqT.of (s1 _ _ hf)⟩, ?_⟩
    refine for_tup (K := K) (xs := vs) (fun i σ H' => ∃ a b e g, σ = [some (.ref x), some (.ref fd), a, b, e, g] ∧ Kp [fd] H1 H' ∧ TSame H1 H' ∧ ∃ ws, H' fd = some (.lst ws) ∧ All2 (RowV H') ws (rs.take i)) ⟨none, none, none, none, rfl, Kp.refl _ _, fun _ _ e => e, [], hfd1, .nil⟩
      (fun i σ H' _ ⟨_, _, _, _, _, k, _⟩ => SqT.of (kst k _ _ hf)) (fun i y σ H6 hx ⟨a, b, e, g, eσ, k6, t6, ws2, hf6, hws6⟩ => ?_) (fun σ H6 ⟨a, b, e, g, eσ, k6, t6, ws2, hf6, hws6⟩ => ?_)
    · subst eσ
      obtain ⟨r, hr0, t, u, rfl, ht, hu⟩ := hvs.at1 hx
      have hlS : ∀ l ∈ r.lines, l ∈ allLines rs := fun l hl => List.mem_flatMap.mpr ⟨r, List.mem_of_getElem? hr0, hl⟩
      have hrl2 : r.lines.length ≤ 2000 := by
        obtain ⟨post, hpost⟩ := allLines_split hr0
        have z := congrArg List.length hpost
        rw [List.length_append, List.length_append] at z
        omega
      have s06 := kst k6
      refine ⟨t, _, rfl, SqT.of (s06 _ _ ht), rfl, _, _, rfl, _, _, rfl, _, _, rfl, rfl, ?_⟩
      refine ⟨_, rfl, .inl ⟨rfl, _, SqL.of hf6⟩, _, rfl, _, rfl, _, rfl, u, rfl, ⟨_, SqT.of (s06 _ _ hu)⟩, fun C hC => ?_⟩
      refine lc_pure (walk_tup (K := K) (a := u) (xs := r.lines.map V.int)) (by rw [List.length_map]; omega) (fun i x => (r.lines.map V.int)[i]? = some x) (fun i v _ => (r.lines.map V.int)[i]? = some v) (fun H' s => SqT.of (s _ _ (s06 _ _ hu))) (fun i H' x H2 _ y => y) (fun _ _ _ _ _ e => e) hC (fun j v H' R' hj hv s1 kk => ?_) (fun xs H7 hx7 hlen7 s7 hev => ?_)
      · have hv0 := hv
        rw [List.getElem?_map] at hv
        obtain ⟨l, hl, rfl⟩ := Option.map_eq_some_iff.mp hv
        obtain ⟨v2, hv2⟩ := hkv l (hlS l (List.mem_of_getElem? hl))
        exact ⟨_, rfl, x, dx, _, rfl, s1 _ _ (s06 _ _ hW.ins), rfl, _, rfl, x, dx, fr, _, kvs, l, v2, rfl, s1 _ _ (s06 _ _ hW.ins), rfl, s1 _ _ (s06 _ _ hfr), hv2, kk _ H' (Same.refl _) hv0⟩
      have exs : xs = r.lines.map V.int := by
        refine List.ext_getElem? fun i => ?_
        cases e : xs[i]? with
        | none =>
          have z := List.getElem?_eq_none_iff.mp e
          rw [List.getElem?_eq_none_iff.mpr (by omega)]
        | some v => exact (hev i v e).symm
      subst exs
      refine ⟨C, _, rfl, .inl ⟨SqL.of hx7, fun lp hlp => ⟨(by show 3 ≤ sizeLine; decide), fun t2 ht2 => ?_⟩⟩⟩
      have s8 : Same H7 (upd H7 lp (.tup (r.lines.map V.int))) := nw (Same.refl _) hlp
      have hlp8 : (upd H7 lp (.tup (r.lines.map V.int))) lp = some (.tup (r.lines.map V.int)) := upd_same
      generalize upd H7 lp (.tup (r.lines.map V.int)) = H8 at s8 hlp8 ht2
      have s9 : Same H8 (upd H8 t2 (.tup [.int r.num, .str r.name, .ref lp])) := nw (Same.refl _) ht2
      have ht9 : (upd H8 t2 (.tup [.int r.num, .str r.name, .ref lp])) t2 = some (.tup [.int r.num, .str r.name, .ref lp]) := upd_same
      generalize upd H8 t2 (.tup [.int r.num, .str r.name, .ref lp]) = H9 at s9 ht9
      have s69 := s7.trans (s8.trans s9)
      have hf9 := s69 _ _ hf6
      have hwl := hws6.len
      rw [List.length_take] at hwl
      refine ⟨fd, _, _, rfl, rfl, hf9, Nat.lt_of_lt_of_le (show ws2.length < 100 by omega) (by decide), ?_⟩
      have t910 : TSame H9 (upd H9 fd (.lst (ws2 ++ [.ref t2]))) := TSame.lst hf9
      refine ⟨_, _, _, _, rfl, (k6.trans (Kp.same s69)).put (by simp), (t6.trans (same_ts s69)).trans t910, _, upd_same, ?_⟩
      rw [take_snoc hr0]
      exact all2_snoc (hws6.mono fun _ _ z => z.ts ((same_ts s69).trans t910)) ⟨t2, lp, rfl, t910 _ _ ht9, t910 _ _ (s9 _ _ hlp8)⟩
    · subst eσ
      have e : rs.take vs.length = rs := List.take_of_length_le (by omega)
      rw [e] at hws6
      refine ⟨_, rfl, fd, ws2, rfl, .inl ⟨SqL.of hf6, fun p hp => ?_⟩⟩
      have s06 := kst k6
      have s7 : Same H6 (upd H6 p (.tup ws2)) := nw (Same.refl _) hp
      have hp7 : (upd H6 p (.tup ws2)) p = some (.tup ws2) := upd_same
      generalize upd H6 p (.tup ws2) = H7 at s7 hp7
      have s07 := s06.trans s7
      have W7 := hW.same s07
      refine ⟨_, rfl, x, _, dx, _, rfl, W7.ins, c, n_Work_files T, (by show 8 < 1000; decide), ?_⟩
      have k8 : Kp [x] H (upd H7 x (.ins (cWk K) dx (putF "files" (.ref p) (wkF sto "main" v f0 f fr lt)))) := (Kp.same s07).put (by simp)
      have t78 : TSame H7 (upd H7 x (.ins (cWk K) dx (putF "files" (.ref p) (wkF sto "main" v f0 f fr lt)))) := TSame.put (fun _ _ e => e) W7.ins nt_ins
      obtain ⟨k1, h2, h3, h4⟩ := W7.fresh
      obtain ⟨k2, h5, h6⟩ := W7.ltd
      refine q _ p k8 ((same_ts s07).trans t78) ⟨upd_same, ⟨ws2, t78 _ _ hp7, hws6.mono fun _ _ z => z.ts ((same_ts s7).trans t78)⟩, ⟨k1, ?_, h3, h4.mono fun _ _ z => z.ts t78⟩, ⟨k2, ?_, h6⟩, hW.nfl⟩
      · rw [upd_ne (ne_of h2 W7.ins (by intro z; cases z))]
        exact h2
      · rw [upd_ne (ne_of h5 W7.ins (by intro z; cases z))]
        exact h5
def spCheckT (K : PySem.W.Frag) : Sp := fun vs H Q _ => ∃ (x dx sto dS dk g s : Addr) (fs : List (Str × V)), vs = [.ref x] ∧ H x = some (.ins (cWk K) dx fs) ∧ fs.lookup ("store" : Str) = some (.ref sto) ∧ fs.lookup ("trial_begun" : Str) = some (.int 0) ∧ StoAt K H sto dS dk g s ∧ Q .non H
abbrev N_Work_check_trial : List Str := ["self"]
theorem sc_Work_check_trial : FnScope N_Work_check_trial ["self"] (defScope s_Work_check_trial) := ⟨rfl, rfl, rfl, by decide +kernel, rfl, by decide +kernel, by decide +kernel⟩
theorem ok_check_trial (T : Wt K mg) : Def P w K mg base 3 d_Work_check_trial ["self"] (spCheckT K) := by
  have D_Store_trial_number := ok_trialno (P := P) (w := w) (base := base) T
  refine mk_def (F_Work_check_trial T) rfl sc_Work_check_trial (fun vs H Q E h => ?_) (fun _ _ _ _ _ _ us hl => match us, hl with | [_], _ => rfl) (fun cdv A outer s H vs Q E hr h => ?_)
  · obtain ⟨x, dx, sto, dS, dk, g, s, fs, rfl, _⟩ := h
    rfl
  · have sc := sc_Work_check_trial
    obtain ⟨x, dx, sto, dS, dk, g, s, fs, rfl, hx, h1, h2, hSto, q⟩ := h
    refine ⟨_, (pss_one (ps_if (pt_cmpR op_ne (pe_fld (pv 0) rfl) (pprop (pe_fld (pv 0) rfl) (c_Store T) (p_Store_trial_number T) D_Store_trial_number rfl (hr.mono (by decide)) passL) (nomark _))
        (pss_one ps_never)
        pss_nil)), ?_⟩
    refine ⟨_, rfl, x, _, dx, _, _, rfl, hx, c_Work T, n_Work_trial_begun T, h2, _, rfl, x, _, dx, _, _, rfl, hx, c_Work T, n_Work_store T, h1, sto, _, _, rfl, hSto.ins, sto, dS, dk, g, s, rfl, hSto, rfl, ?_⟩
    exact ⟨_, rfl, itb (fun e => by simp at e) (fun _ => q)⟩
end
end Sk
/-! K93ZC: a work is committed. -/
namespace Sk
open PySem PySem.Spec PyProof.Rows L2
theorem lay_ints : ∀ ns : List Int, PyData.canLayAll0 (ns.map PyData.int) = true ∧ PyData.depthAll (ns.map PyData.int) = 0
  | [] => ⟨by simp [PyData.canLayAll0], by simp [PyData.depthAll]⟩
  | n :: r => by
    obtain ⟨a, b⟩ := lay_ints r
    exact ⟨by simp only [List.map_cons, PyData.canLayAll0, PyData.canLay0, a, Bool.and_true], by simp only [List.map_cons, PyData.depthAll, PyData.depth, b, Nat.max_self]⟩
theorem lay_rows3 : ∀ rs : List FR, (∀ r ∈ rs, isName r.name = true) → PyData.canLayAll0 (rs.map row3D) = true ∧ PyData.depthAll (rs.map row3D) ≤ 2
  | [], _ => ⟨by simp [PyData.canLayAll0], by simp [PyData.depthAll]⟩
  | r :: rs, h => by
    obtain ⟨a, b⟩ := lay_rows3 rs fun y hy => h y (List.mem_cons_of_mem _ hy)
    obtain ⟨e1, e2⟩ := lay_ints r.lines
    constructor
    · simp only [List.map_cons, row3D, PyData.canLayAll0, PyData.canLay0, name_ok (h r List.mem_cons_self), e1, a, Bool.and_true]
    · simp only [List.map_cons, row3D, PyData.depthAll, PyData.depth, e2]
      omega
theorem shaped_rows3 {rs : List FR} (h : ∀ r ∈ rs, isName r.name = true) : SeqAt.shaped (.tuple (rs.map row3D)) = true := by
  obtain ⟨a, b⟩ := lay_rows3 rs h
  have c1 : PyData.canLay0 (.tuple (rs.map row3D)) = true := by
    simp only [PyData.canLay0]
    exact a
  have c2 : PyData.depth (.tuple (rs.map row3D)) ≤ 64 := by
    simp only [PyData.depth]
    omega
  unfold SeqAt.shaped
  rw [c1, Bool.true_and]
  exact decide_eq_true c2
theorem eqv_rows3 : ∀ rs : List FR, PyData.eqv (.tuple (rs.map row3D)) (.tuple []) = decide (rs = [])
  | [] => by simp [PyData.eqv, PyData.eqvAll]
  | r :: rs => by simp [PyData.eqv, PyData.eqvAll]
theorem lines_renum {S : List FR} : allLines (S.map (renum S)) = (allLines S).map fun l => ((ix (allLines S) l : Nat) : Int) := by
  have key : ∀ (f : Int → Int) (n : FR → Int) (l : List FR), allLines (l.map fun r => (⟨n r, r.name, r.lines.map f⟩ : FR)) = (allLines l).map f := by
    intro f n l
    induction l with
    | nil => rfl
    | cons a l ih =>
      show (a.lines.map f) ++ allLines (l.map fun r => (⟨n r, r.name, r.lines.map f⟩ : FR)) = (a.lines ++ allLines l).map f
      rw [ih, List.map_append]
  exact key (fun l => ((ix (allLines S) l : Nat) : Int)) (fun r => (ix (S.map (·.num)) r.num : Nat)) S
theorem nodup_ix {ks : List Int} (h : ks.Nodup) : (ks.map fun l => ((ix ks l : Nat) : Int)).Nodup := by
  have z := ix_up h
  exact z.imp fun h => by omega
section
variable {P : Program} {w : World} {K : PySem.W.Frag} {mg : Str → Option Value} {base : Heap}
def spCommit (K : PySem.W.Frag) : Sp := fun vs H Q _ => ∃ (x dx sto f0 f fr lt : Addr) (R : List FR) (ft : List Str) (dS dk g s : Addr) (A : StA), vs = [.ref x] ∧ WkAt K H x dx sto 0 f0 f fr lt R ft ∧ H f0 = some (.tup []) ∧ StoAt K H sto dS dk g s ∧ StAt K H s A stD0 ∧ H g = some (.lst []) ∧ (∀ r ∈ R, isName r.name = true) ∧
  (R = [] → ∀ H', Same H H' → Q .non H') ∧ (R ≠ [] → ∃ (b : Bool) (tx : Int → Str) (kvs : List (Key × V)), R.length ≤ 12 ∧ (allLines R).length ≤ 2000 ∧
    (R.map (·.num)).Nodup ∧ (∀ n ∈ R.map (·.num), 1000000000 ≤ n) ∧ (allLines (rv b R)).Nodup ∧ (∀ l ∈ allLines (rv b R), 1000000000 ≤ l) ∧ ((rv b R).map (·.name)).Pairwise (fun a b => cl a < cl b) ∧ H fr = some (.dK kvs) ∧
    (∀ l ∈ allLines (rv b R), ∃ a, valV kvs (.inl l) = some (.ref a) ∧ H a = some (.tup [.str (tx l), .non])) ∧
    ∀ H' s' A' m ws', Kp [x, sto, g] H H' → TSame H H' → StoAt K H' sto dS dk g s' → StAt K H' s' A' (stD1 ((allLines (rv b R)).map tx) ((rv b R).map (renum (rv b R))) m ws') → Q (.int 1) H')
abbrev N_Work_commit : List Str := ["self", "state", "deed"]
theorem sc_Work_commit : FnScope N_Work_commit ["self"] (defScope s_Work_commit) := ⟨rfl, rfl, rfl, by decide +kernel, rfl, by decide +kernel, by decide +kernel⟩
theorem ok_commit (T : Wt K mg) : Def P w K mg base 5 d_Work_commit ["self"] (spCommit K) := by
  have D_Work_check_trial := ok_check_trial (P := P) (w := w) (base := base) T
  have D_State_twin := ok_twin (P := P) (w := w) (base := base) T
  have D_Work_renew := ok_renew (P := P) (w := w) (base := base) T
  have D_make_version := ok_make_version (P := P) (w := w) (base := base) T
  have D_Store_finish := ok_finish (P := P) (w := w) (base := base) T
  have D_Work_begin := ok_begin (P := P) (w := w) (base := base) T
  refine mk_def (F_Work_commit T) rfl sc_Work_commit (fun vs H Q E h => ?_) (fun _ _ _ _ _ _ us hl => match us, hl with | [_], _ => rfl) (fun cdv A outer s H vs Q E hr h => ?_)
  · obtain ⟨x, dx, sto, f0, f, fr, lt, R, ft, dS, dk, g, s, A, rfl, _⟩ := h
    rfl
  · have sc := sc_Work_commit
    obtain ⟨x, dx, sto, f0, f, fr, lt, R, ft, dS, dk, g, s, A, rfl, hW, hf0, hSto, hS, hg, hnm, q1, q2⟩ := h
    refine ⟨_, (pss_cons (ps_expr (pmeth0 (pv 0) (c_Work T) (m_Work_check_trial T) D_Work_check_trial rfl (hr.mono (by decide)) passL))
      (pss_cons (ps_if (pt_cmpR (op_eqD hr.units) (pe_fld (pv 0) rfl) (pe_fld (pv 0) rfl) (nomark _))
        (pss_one (ps_ret pe_non))
        pss_nil)
      (pss_cons (ps_set (i := 1) sc.nd rfl (Or.inl rfl) (pmeth0 (pe_fld (pe_fld (pv 0) rfl) rfl) (c_State T) (m_State_twin T) D_State_twin rfl (hr.mono (by decide)) passL))
      (pss_cons (ps_if (PW.pt (pw_or (pt_cmp (pc_dnotin (hu_of hr) (pe_fld (pv 0) rfl) (pe_fld (pv 1) rfl))) (pw_or1 (pt_cmpR op_ne (pe_dget (hu_of hr) (pe_fld (pv 1) rfl) (pe_fld (pv 0) rfl) (fun _ _ => rfl)) (pe_fld (pv 0) rfl) (nomark _)))))
        (pss_one ps_never)
        pss_nil)
      (pss_cons (ps_expr (pmeth0 (pv 0) (c_Work T) (m_Work_renew T) D_Work_renew rfl (hr.mono (by decide)) passL))
      (pss_cons (ps_set (i := 2) sc.nd rfl (Or.inl rfl) (pcall D_make_version (hr.mono (by decide)) (by rfl) (g_make_version T) passL (pa_cons (pv 1) (pa_cons (pe_fld (pv 0) rfl) (pa_cons (pe_tup (pa_cons (pe_fld (pv 0) rfl) pa_nil)) (pa_cons (pe_fld (pv 0) rfl) (pa_cons (pe_fld (pv 0) rfl) pa_nil)))))))
      (pss_cons (ps_expr (pmeth (pe_fld (pv 0) rfl) (c_Store T) (m_Store_finish T) D_Store_finish rfl (hr.mono (by decide)) passL (pa_cons (pv 1) (pa_cons (pv 2) pa_nil))))
      (pss_cons (ps_expr (pmeth (pv 0) (c_Work T) (m_Work_begin T) D_Work_begin rfl (hr.mono (by decide)) passL (pa_cons (pe_dget (hu_of hr) (pe_fld (pv 1) rfl) (pe_fld (pv 0) rfl) (fun _ _ => rfl)) pa_nil)))
      (pss_one (ps_ret (pe_fld (pv 0) rfl))))))))))), ?_⟩
    have c := c_Work T
    have cs := c_State T
    obtain ⟨vs, hf, hvs⟩ := hW.files
    refine ⟨_, rfl, x, dx, _, rfl, hW.ins, rfl, x, dx, sto, dS, dk, g, s, _, rfl, hW.ins, rfl, rfl, hSto, ?_⟩
    refine ⟨_, rfl, x, _, dx, _, _, rfl, hW.ins, c, n_Work_files T, rfl, _, rfl, x, _, dx, _, _, rfl, hW.ins, c, n_Work_first_files T, rfl, .tuple (R.map row3D), .tuple [], .tup (SqT.of hf) (dp_row3 hvs), .tup (SqT.of hf0) .nil, shaped_rows3 hnm, by decide, _, rfl, ?_⟩
    rw [eqv_rows3]
    refine itd (fun e => q1 e H (Same.refl _)) (fun hne => ?_)
    obtain ⟨b, tx, kvs, hRl, hL, hnn, hn9, hln, hl9, hup, hfr, htx, q⟩ := q2 hne
    refine ⟨_, rfl, x, _, dx, _, _, rfl, hW.ins, c, n_Work_store T, rfl, sto, _, _, _, _, rfl, hSto.ins, c_Store T, n_Store_state T, rfl, s, _, _, rfl, hS.ins, rfl, s, A, stD0, rfl, hS, fun H1 s' A' s1 S1 fr1 => set_ ?_⟩
    have W1 := hW.same s1
    have gh := DGet.k (k := .inr "main") S1.heads
    refine ⟨_, rfl, x, _, dx, _, _, rfl, W1.ins, c, n_Work_branch T, rfl, _, rfl, s', _, _, _, _, rfl, S1.ins, cs, n_State_head_book T, lf_head_book, A'.hb, _, rfl, gh, _, rfl, itb (fun e => by cases e) (fun _ => ?_)⟩
    refine ⟨_, rfl, s', _, _, _, _, rfl, S1.ins, cs, n_State_head_book T, lf_head_book, _, rfl, x, _, dx, _, _, rfl, W1.ins, c, n_Work_branch T, rfl, A'.hb, .int 0, rfl, gh, _, rfl, x, _, dx, _, _, rfl, W1.ins, c, n_Work_start_version T, rfl, rfl, _, rfl, itb (fun e => by simp at e) (fun _ => ?_)⟩
    have n1 : ∀ q ∈ [s', A'.lb, A'.vb, A'.hb, A'.kb, A'.ob], ∀ b o, H b = some o → b ≠ q := fun q hq b o e => ne_of_none e (fr1 q hq)
    have hlR : ∀ l ∈ allLines R, ∃ a, valV kvs (.inl l) = some (.ref a) ∧ H a = some (.tup [.str (tx l), .non]) := fun l hl => htx l ((List.Perm.flatMap_right _ rv_perm : (allLines (rv b R)).Perm (allLines R)).mem_iff.mpr hl)
    refine ⟨_, rfl, x, dx, _, rfl, W1.ins, rfl, x, dx, sto, 0, f0, f, fr, lt, R, ft, kvs, rfl, W1, hRl, hL, s1 _ _ hfr, fun l hl => ⟨_, (hlR l hl).choose_spec.1⟩, fun H2 f' k2 t2 W2 => ?_⟩
    have t02 : TSame H H2 := (same_ts s1).trans t2
    have k02 : Kp [x] H H2 := (Kp.same s1).trans k2
    have S2 : StAt K H2 s' A' stD0 := S1.kp k2 (fun q hq z => (n1 q hq x _ hW.ins) (by simpa using (List.mem_singleton.mp z).symm)) t2
    have gh2 := DGet.k (k := .inr "main") S2.heads
    refine ⟨_, rfl, _, rfl, x, _, dx, _, _, rfl, W2.ins, c, n_Work_branch T, rfl, _, rfl, x, _, dx, _, _, rfl, W2.ins, c, n_Work_start_version T, rfl, (by show 1 ≤ sizeLine; decide), fun pp hpp => ?_⟩
    have s3 : Same H2 (upd H2 pp (.tup [.int 0])) := nw (Same.refl _) hpp
    have hpp3 : (upd H2 pp (.tup [.int 0])) pp = some (.tup [.int 0]) := upd_same
    generalize upd H2 pp (.tup [.int 0]) = H3 at s3 hpp3
    have W3 := W2.same s3
    have k03 : Kp [x] H H3 := k02.trans (Kp.same s3)
    have t03 : TSame H H3 := t02.trans (same_ts s3)
    have nfx : fr ≠ x := ne_of hfr hW.ins (by intro z; cases z)
    refine ⟨_, rfl, x, _, dx, _, _, rfl, W3.ins, c, n_Work_files T, rfl, _, rfl, x, _, dx, _, _, rfl, W3.ins, c, n_Work_fresh T, rfl, ?_⟩
    refine ⟨s', A', pp, f', fr, kvs, R, b, tx, rfl, S2.same s3, hpp3, W3.files, hRl, hL, hnn, hn9, hln, hl9, hup, k03 _ _ (by simpa using nfx) hfr, fun l hl => ?_, fun H4 deed wt m ws' k4 t4 S4 => set_ ?_⟩
    · obtain ⟨a, e1, e2⟩ := htx l hl
      exact ⟨a, e1, t03 _ _ e2⟩
    have k04 : Kp [x] H H4 := fun b o hb e => k4 _ _ (by
      have a1 := n1 s' (by simp) b o e
      have a2 := n1 A'.lb (by simp) b o e
      have a3 := n1 A'.vb (by simp) b o e
      have a4 := n1 A'.hb (by simp) b o e
      simp [a1, a2, a3, a4]) (k03 b o hb e)
    have t04 := t03.trans t4
    have hx4 : H4 x = some (.ins (cWk K) dx (wkF sto "main" 0 f0 f' fr lt)) := k4 _ _ (by
      have a1 := n1 s' (by simp) x _ hW.ins
      have a2 := n1 A'.lb (by simp) x _ hW.ins
      have a3 := n1 A'.vb (by simp) x _ hW.ins
      have a4 := n1 A'.hb (by simp) x _ hW.ins
      simp [a1, a2, a3, a4]) W3.ins
    have So4 : StoAt K H4 sto dS dk g s := hSto.kp k04 (fun q hq z => hSto.noW hW.ins rfl q hq (by simpa using z))
    have ngx : g ≠ x := hSto.noW hW.ins rfl g (by simp)
    have nsx : sto ≠ x := hSto.noW hW.ins rfl sto (by simp)
    have hg4 : H4 g = some (.lst []) := k04 _ _ (by simpa using ngx) hg
    refine ⟨_, rfl, x, _, dx, _, _, rfl, hx4, c, n_Work_store T, rfl, sto, dS, _, rfl, So4.ins, rfl, _, rfl, _, rfl, sto, dS, dk, g, s, s', _, rfl, So4, ⟨[], hg4, by decide⟩, fun H5 k5 t5 hg5 hs5 => ?_⟩
    have nd := hSto.nd
    have ndk : dk ∉ [sto, g] := by
      simp only [List.nodup_cons, List.mem_cons, not_or, List.not_mem_nil] at nd
      obtain ⟨⟨a1, a2, _⟩, ⟨a3, _⟩, _⟩ := nd
      simp [Ne.symm a1, a3]
    have So5 : StoAt K H5 sto dS dk g s' := by
      obtain ⟨dd, z, e⟩ := So4.disk
      exact ⟨hs5, ⟨dd, z, k5 _ _ ndk e⟩, hg5, hSto.nd⟩
    have S5 := S4.kp k5 (fun q hq z => by
      have z2 : q = sto ∨ q = g := by simpa using z
      rcases z2 with e | e
      · exact n1 q hq sto _ hSto.ins e.symm
      · exact n1 q hq g _ hg e.symm) t5
    have hx5 := k5 _ _ (by simp [Ne.symm nsx, Ne.symm ngx]) hx4
    have gh5 := DGet.k (k := .inr "main") S5.heads
    refine ⟨_, rfl, x, dx, _, rfl, hx5, rfl, _, rfl, s', _, _, _, _, rfl, S5.ins, cs, n_State_head_book T, lf_head_book, _, rfl, x, _, dx, _, _, rfl, hx5, c, n_Work_branch T, rfl, A'.hb, .int 1, rfl, gh5, ?_⟩
    have hlen : (allLines ((rv b R).map (renum (rv b R)))).length = (allLines (rv b R)).length := by
      rw [lines_renum, List.length_map]
    refine ⟨x, dx, sto, dS, dk, g, s', _, _, _, _, _, 1, rfl, hx5, (by show 8 ≤ 50; decide), rfl, rfl, So5, S5, rfl, ?_, ?_, fun j hj => ?_, fun H6 f6 fr6 lt6 kvs6 k6 _ _ _ _ _ _ _ hx6 => ?_⟩
    · rw [lines_renum]
      exact nodup_ix hln
    · rw [hlen, lines_rv]
      omega
    · rw [lines_renum] at hj
      obtain ⟨l, hl, rfl⟩ := List.mem_map.mp hj
      have e := ix_at hl
      have z := mkB_get (v := 1) (i := 0) (ts := (allLines (rv b R)).map tx) (j := ix (allLines (rv b R)) l) (t := tx l) (by rw [List.getElem?_map, e]; rfl)
      rw [Nat.zero_add] at z
      exact ⟨_, z⟩
    have t6 := kp1_ts hx5 k6
    refine ⟨_, rfl, x, _, dx, _, .int 1, rfl, hx6, c, n_Work_start_version T, rfl, q H6 s' _ m ws' (fun b o hb e => ?_) ((t04.trans t5).trans t6) (So5.kp k6 (fun q hq z => So5.noW hx5 rfl q hq (by simpa using z))) (S5.kp k6 (fun q hq z => S5.noW hx5 rfl q hq (by simpa using z)) t6)⟩
    have z : b ≠ x ∧ b ≠ sto ∧ b ≠ g := by simpa using hb
    exact k6 _ _ (by simpa using z.1) (k5 _ _ (by simp [z.2.1, z.2.2]) (k04 _ _ (by simpa using z.1) e))
end
end Sk
/-! K93ZD: what can be shown whole; is_right. -/
namespace Sk
open PySem PySem.Spec PyProof.Rows L2
structure Fits (d : PyData) : Prop where
  short : d.leavesShort 13 = true
  bulk : d.bulk ≤ 2 ^ 20
  able : d.showable = true
  deep : d.depth ≤ 64
theorem Fits.len {d : PyData} (h : Fits d) : d.shown.length ≤ sizeLine := PyData.shown_fits_bulk (by decide) (by decide) h.short h.bulk
def SmallS (z : Str) : Prop := ∀ c ∈ cl z, c < 1114112
theorem small_short {z : Str} (h : SmallS z) : (PyData.str z).leavesShort 13 = true := by
  simp only [PyData.leavesShort, List.all_eq_true, decide_eq_true_eq]
  exact fun c hc => Nat.lt_trans (h c hc) (by decide)
theorem fits_str {z : Str} (h : SmallS z) (hl : z.length ≤ 1000000) : Fits (.str z) :=
  ⟨small_short h, by simp only [PyData.bulk]; exact Nat.le_trans hl (by decide), by simp [PyData.showable], by simp [PyData.depth]⟩
theorem int_short {i : Int} (h : i.natAbs < 10 ^ 10) : (PyData.int i).leavesShort 13 = true := by
  simp only [PyData.leavesShort, decide_eq_true_eq]
  have z := int_text_length_le10 (a := i) (k := 10) (by decide) h
  show (Str.ofString (toString i)).length ≤ 13
  rw [PySem.ofString_length]
  omega
theorem int_able {i : Int} (h : i.natAbs < 10 ^ 10) : (PyData.int i).showable = true := by
  simp only [PyData.showable, decide_eq_true_eq]
  have z : i.natAbs < 2 ^ 40 := Nat.lt_of_lt_of_le h (by decide)
  by_cases e : i.natAbs = 0
  · rw [e]
    decide
  · have := (Nat.log2_lt e).mpr z
    omega
theorem line_small {x : Str} (h : isLine x = true) : SmallS x := fun c hc => letters_small c (line_cl h c hc)
theorem name_small {x : Str} (h : isName x = true) : SmallS x := fun c hc => smalls_small c (name_cl h c hc)
theorem strs_fit : ∀ (ts : List Str), (∀ x ∈ ts, isLine x = true) → PyData.leavesShortAll 13 (ts.map PyData.str) = true ∧ PyData.bulkAll (ts.map PyData.str) ≤ 81 * ts.length ∧ PyData.showableAll (ts.map PyData.str) = true ∧ PyData.depthAll (ts.map PyData.str) = 0
  | [], _ => ⟨by simp [PyData.leavesShortAll], by simp [PyData.bulkAll], by simp [PyData.showableAll], by simp [PyData.depthAll]⟩
  | x :: r, h => by
    obtain ⟨a, b, c, d⟩ := strs_fit r fun y hy => h y (List.mem_cons_of_mem _ hy)
    have h1 := h x List.mem_cons_self
    have h2 := isLine_len h1
    have h3 : x.cps.size ≤ 80 := h2
    refine ⟨?_, ?_, ?_, ?_⟩
    · simp only [List.map_cons, PyData.leavesShortAll, small_short (line_small h1), a, Bool.and_self]
    · simp only [List.map_cons, PyData.bulkAll, PyData.bulk, List.length_cons]
      omega
    · simp only [List.map_cons, PyData.showableAll, PyData.showable, c, Bool.and_self]
    · simp only [List.map_cons, PyData.depthAll, PyData.depth, d, Nat.max_self]
/-- files that can be shown -/
def Shw (fs : List FileP) : Prop := fs.length ≤ 12 ∧ ∀ f ∈ fs, isName f.1 = true ∧ f.2.length ≤ 60 ∧ ∀ x ∈ f.2, isLine x = true
theorem files_fit : ∀ (fs : List FileP), (∀ f ∈ fs, isName f.1 = true ∧ f.2.length ≤ 60 ∧ ∀ x ∈ f.2, isLine x = true) → PyData.leavesShortAll 13 (fs.map fileD) = true ∧ PyData.bulkAll (fs.map fileD) ≤ 5000 * fs.length ∧ PyData.showableAll (fs.map fileD) = true ∧ PyData.depthAll (fs.map fileD) ≤ 2
  | [], _ => ⟨by simp [PyData.leavesShortAll], by simp [PyData.bulkAll], by simp [PyData.showableAll], by simp [PyData.depthAll]⟩
  | f :: r, h => by
    obtain ⟨a, b, c, d⟩ := files_fit r fun y hy => h y (List.mem_cons_of_mem _ hy)
    obtain ⟨h1, h2, h3⟩ := h f List.mem_cons_self
    obtain ⟨e1, e2, e3, e4⟩ := strs_fit f.2 h3
    have h4 := isName_len h1
    have h5 : f.1.cps.size ≤ 8 := h4
    have s1 := small_short (name_small h1)
    refine ⟨?_, ?_, ?_, ?_⟩
    · simp only [List.map_cons, fileD, txD, PyData.leavesShortAll, s1, PyData.leavesShort, e1, a, Bool.and_self]
      simpa [PyData.leavesShort] using s1
    · simp only [List.map_cons, fileD, txD, PyData.bulkAll, PyData.bulk, List.length_cons]
      omega
    · simp only [List.map_cons, fileD, txD, PyData.showableAll, PyData.showable, e3, c, Bool.and_self]
    · simp only [List.map_cons, fileD, txD, PyData.depthAll, PyData.depth, e4]
      omega
def filesD (fs : List FileP) : PyData := .tuple (fs.map fileD)
theorem fits_files {fs : List FileP} (h : Shw fs) : Fits (filesD fs) := by
  obtain ⟨a, b, c, d⟩ := files_fit fs h.2
  have := h.1
  refine ⟨by simp only [filesD, PyData.leavesShort, a], ?_, by simp only [filesD, PyData.showable, c], ?_⟩
  · simp only [filesD, PyData.bulk]
    have e : (2 : Nat) ^ 20 = 1048576 := by decide
    omega
  · simp only [filesD, PyData.depth]
    omega
/-- what reading comes to, as data -/
def resD : Nat ⊕ List FileP → PyData
  | .inl j => .tuple [.str "bad", .int (j : Nat)]
  | .inr fs => .tuple [.str "files", filesD fs]
theorem dr_strs {K : PySem.W.Frag} {H : Hp} : ∀ ts : List Str, DrAll K H (ts.map V.str) (ts.map PyData.str)
  | [] => .nil
  | x :: r => .cons (.str x) (dr_strs r)
theorem dr_files {K : PySem.W.Frag} {H : Hp} {vs : List V} {fs : List FileP} (h : All2 (FileV H) vs fs) : DrAll K H vs (fs.map fileD) := by
  induction h with
  | nil => exact .nil
  | cons a _ ih =>
    obtain ⟨r, t, rfl, h1, h2⟩ := a
    exact .cons (.tup (SqT.of h1) (.cons (.str _) (.cons (.tup (SqT.of h2) (dr_strs _)) .nil))) ih
theorem dr_fs {K : PySem.W.Frag} {H : Hp} {p : Addr} {fs : List FileP} (h : FsAt H p fs) : Dr K H (.ref p) (filesD fs) := by
  obtain ⟨vs, h1, h2⟩ := h
  exact .tup (SqT.of h1) (dr_files h2)
theorem dr_res {K : PySem.W.Frag} {H : Hp} {u : V} : ∀ {r : Nat ⊕ List FileP}, ResV H u r → Dr K H u (resD r)
  | .inl j, ⟨p, e, h⟩ => by
    rw [e]
    exact .tup (SqT.of h) (.cons (.str _) (.cons (.int _) .nil))
  | .inr fs, ⟨p, t, e, h, hf⟩ => by
    rw [e]
    exact .tup (SqT.of h) (.cons (.str _) (.cons (dr_fs hf) .nil))
theorem bad_small : SmallS ("bad" : Str) := by
  unfold SmallS
  decide +kernel
theorem files_small : SmallS ("files" : Str) := by
  unfold SmallS
  decide +kernel
theorem fits_bad {j : Nat} (h : j < 10 ^ 10) : Fits (resD (.inl j)) := by
  have a := small_short bad_small
  have b := int_short (i := (j : Int)) (by simpa using h)
  have c := int_able (i := (j : Int)) (by simpa using h)
  have e : ("bad" : Str).cps.size = 3 := by decide +kernel
  refine ⟨by simp only [resD, PyData.leavesShort, PyData.leavesShortAll] at *; simp [a, b], ?_, by
    simp only [resD, PyData.showable, PyData.showableAll] at *
    rw [c]
    rfl, by simp [resD, PyData.depth, PyData.depthAll]⟩
  simp only [resD, PyData.bulk, PyData.bulkAll, e]
  decide
theorem fits_got {fs : List FileP} (h : Shw fs) : Fits (resD (.inr fs)) := by
  have a := small_short files_small
  obtain ⟨b1, b2, b3, b4⟩ := fits_files h
  have e : ("files" : Str).cps.size = 5 := by decide +kernel
  obtain ⟨q1, q2, q3, q4⟩ := files_fit fs h.2
  have hl := h.1
  refine ⟨by simp only [resD, PyData.leavesShort, PyData.leavesShortAll] at *; simp [a, b1], ?_, by simp only [resD, PyData.showable, PyData.showableAll] at *; simp [b3], ?_⟩
  · simp only [resD, filesD, PyData.bulk, PyData.bulkAll, e]
    have e2 : (2 : Nat) ^ 20 = 1048576 := by decide
    omega
  · simp only [resD, filesD, PyData.depth, PyData.depthAll]
    omega
/-! ### bounds of what reading comes to -/
theorem badAt_lt : ∀ {l : List Str} {k j : Nat}, badAt l k = some j → j < k
  | _, 0, j, h => by simp [badAt] at h
  | [], k + 1, j, h => by
    simp [badAt] at h
    omega
  | r :: rs, k + 1, j, h => by
    unfold badAt at h
    split at h
    · obtain ⟨i, h1, h2⟩ := Option.map_eq_some_iff.mp h
      have := badAt_lt h1
      omega
    · have e : 0 = j := by simpa using h
      omega
theorem stepR_inl {rows : List Str} {found : List FileP} {n j : Nat} (h : stepR rows found n = .inl j) : j ≤ n + 61 := by
  unfold stepR at h
  split at h
  · cases h
    omega
  · rename_i nm k e
    obtain ⟨h1, h2, h3⟩ := headIn_some e
    split at h
    · split at h
      · rename_i hb
        have := badAt_lt hb
        cases h
        omega
      · cases h
    · cases h
      omega
theorem readN_bound (rows : List Str) : ∀ (k : Nat) (found : List FileP) (n : Nat), n ≤ rows.length → (∀ f ∈ found, f.2.length ≤ 60) → (∀ j, readN rows k found n = .inl j → j ≤ rows.length + 61) ∧ (∀ fs, readN rows k found n = .inr fs → ∀ f ∈ fs, f.2.length ≤ 60)
  | 0, found, n, hn, hf => ⟨fun j h => by unfold readN at h; cases h; omega, fun fs h => by unfold readN at h; cases h⟩
  | k + 1, found, n, hn, hf => by
    unfold readN
    split
    · rename_i hlt
      split
      · rename_i j e
        have z := stepR_inl e
        exact ⟨fun i h => by cases h; omega, fun fs h => by cases h⟩
      · rename_i f m e
        have z := stepR_inr e
        exact readN_bound rows k _ m (stepR_le e hlt) fun g hg => by
          rcases List.mem_append.mp hg with q | q
          · exact hf g q
          · rw [List.mem_singleton.mp q]
            exact z.2.2.2.2
    · exact ⟨fun j h => (by cases h), fun fs h => by
        cases h
        exact hf⟩
theorem readR_inl {rows : List Str} {j : Nat} (h : readR rows = .inl j) : j ≤ rows.length + 61 := (readN_bound rows _ [] 0 (Nat.zero_le _) (fun f hf => by cases hf)).1 j h
theorem readR_inr {rows : List Str} {fs : List FileP} (h : readR rows = .inr fs) : ∀ f ∈ fs, f.2.length ≤ 60 := (readN_bound rows _ [] 0 (Nat.zero_le _) (fun f hf => by cases hf)).2 fs h
end Sk
/-! K93ZE: what was written is read. -/
namespace Sk
open PySem PySem.Spec PyProof.Rows L2
theorem nat_num : ∀ m : Fin 61, numIn (natS m.1) = some (m.1 : Int) := by decide +kernel
theorem nat_no32 : ∀ m : Fin 61, 32 ∉ cl (natS m.1) := by decide +kernel
theorem nat_no10 : ∀ m : Fin 61, 10 ∉ cl (natS m.1) := by decide +kernel
theorem nat_smallS : ∀ m : Fin 61, ∀ c ∈ cl (natS m.1), c < 1114112 := by decide +kernel
theorem blank_eq : (" " : Str) = ⟨#[32]⟩ := by decide +kernel
theorem feed_eq : ("\n" : Str) = ⟨#[10]⟩ := by decide +kernel
theorem small_no : ∀ c ∈ smallL, c ≠ 32 ∧ c ≠ 10 := by decide +kernel
theorem letters_no : ∀ c ∈ lettersL, c ≠ 10 := by decide +kernel
theorem headIn_row {f : FileP} (h1 : isName f.1 = true) (h2 : f.2.length ≤ 60) : headIn (headRow f) = some (f.1, (f.2.length : Int)) := by
  have e : Txt.split (headRow f) " " = [("file" : Str), f.1, natS f.2.length] := by
    rw [← head_join, tjoin, blank_eq]
    refine split_join (by simp) fun p hp => ?_
    have z : p = "file" ∨ p = f.1 ∨ p = natS f.2.length := by simpa using hp
    rcases z with e | e | e
    · rw [e]
      decide +kernel
    · rw [e]
      exact fun hc => (small_no 32 (name_cl h1 32 hc)).1 rfl
    · rw [e]
      exact nat_no32 ⟨f.2.length, by omega⟩
  rw [headIn_eq e, if_pos ⟨rfl, h1⟩, nat_num ⟨f.2.length, by omega⟩]
  rfl
theorem badAt_fine : ∀ {l r : List Str}, (∀ x ∈ l, isLine x = true) → badAt (l ++ r) l.length = none
  | [], r, _ => by cases r <;> rfl
  | x :: l, r, h => by
    show badAt (x :: (l ++ r)) (l.length + 1) = none
    unfold badAt
    rw [if_pos (h x List.mem_cons_self), badAt_fine fun y hy => h y (List.mem_cons_of_mem _ hy)]
    rfl
theorem rows_len : ∀ fs : List FileP, fs.length ≤ (rowsOf fs).length
  | [] => Nat.le_refl _
  | f :: r => by
    have := rows_len r
    show r.length + 1 ≤ (headRow f :: (f.2 ++ rowsOf r)).length
    rw [List.length_cons, List.length_append]
    omega
theorem read_on : ∀ (rest pre : List FileP) (k : Nat), Good (pre ++ rest) → rest.length + 1 ≤ k → readN (rowsOf (pre ++ rest)) k pre (rowsOf pre).length = .inr (pre ++ rest)
  | [], pre, 0, _, hk => absurd hk (by simp)
  | [], pre, k + 1, g, hk => by
    unfold readN
    rw [List.append_nil, if_neg (by omega)]
  | f :: r, pre, 0, _, hk => absurd hk (by simp)
  | f :: r, pre, k + 1, g, hk => by
    have g1 := g.nm f (by simp)
    have g2 := g.tx f (by simp)
    have gl := g.len
    rw [List.length_append, List.length_cons] at gl
    have er : rowsOf (pre ++ f :: r) = rowsOf pre ++ (headRow f :: (f.2 ++ rowsOf r)) := rowsOf_app pre (f :: r)
    have e1 : (rowsOf (pre ++ f :: r))[(rowsOf pre).length]? = some (headRow f) := by
      rw [er, List.getElem?_append_right (Nat.le_refl _), Nat.sub_self]
      rfl
    have e2 : (rowsOf (pre ++ f :: r)).drop ((rowsOf pre).length + 1) = f.2 ++ rowsOf r := by
      rw [er, List.drop_append]
      rw [List.drop_eq_nil_of_le (by omega), List.nil_append, Nat.add_sub_cancel_left]
      rfl
    have hlt : (rowsOf pre).length < (rowsOf (pre ++ f :: r)).length := (List.getElem?_eq_some_iff.mp e1).1
    have last : pre = [] ∨ ∃ f0, pre.getLast? = some f0 ∧ cl f0.1 < cl f.1 := by
      rcases List.eq_nil_or_concat pre with e | ⟨l, f0, e⟩
      · exact .inl e
      · refine .inr ⟨f0, by rw [e]; simp, ?_⟩
        have z := g.asc
        rw [e, List.map_append, List.pairwise_append] at z
        exact z.2.2 f0.1 (by simp) f.1 (by simp)
    have st : stepR (rowsOf (pre ++ f :: r)) pre (rowsOf pre).length = .inr (f, (rowsOf pre).length + 1 + f.2.length) := by
      unfold stepR
      rw [e1]
      show (match headIn (headRow f) with
        | none => _
        | some (nm, k) => _) = _
      rw [headIn_row g1.1 g2.1]
      show (if pre.length < 12 ∧ (pre = [] ∨ ∃ f0, pre.getLast? = some f0 ∧ cl f0.1 < cl f.1) then _ else _) = _
      rw [if_pos ⟨by omega, last⟩, e2]
      show (match badAt (f.2 ++ rowsOf r) f.2.length with
        | some j => _
        | none => Sum.inr ((f.1, (f.2 ++ rowsOf r).take f.2.length), _)) = _
      rw [badAt_fine g2.2, List.take_left' rfl]
      rfl
    unfold readN
    rw [if_pos hlt, st]
    show readN _ k (pre ++ [f]) _ = _
    have e3 : (rowsOf pre).length + 1 + f.2.length = (rowsOf (pre ++ [f])).length := by
      rw [rowsOf_app, List.length_append]
      show _ = (rowsOf pre).length + (headRow f :: (f.2 ++ [])).length
      rw [List.length_cons, List.append_nil]
      omega
    have e4 : pre ++ f :: r = (pre ++ [f]) ++ r := by simp
    rw [e3, e4]
    rw [List.length_cons] at hk
    exact read_on r (pre ++ [f]) k (by rw [← e4]; exact g) (by omega)
theorem head_no10 {f : FileP} (h1 : isName f.1 = true) (h2 : f.2.length ≤ 60) : 10 ∉ cl (headRow f) := by
  unfold headRow
  rw [cl_app, cl_app, cl_app]
  intro h
  rcases List.mem_append.mp h with h | h
  · rcases List.mem_append.mp h with h | h
    · rcases List.mem_append.mp h with h | h
      · revert h
        decide +kernel
      · exact (small_no 10 (name_cl h1 10 h)).2 rfl
    · revert h
      decide +kernel
  · exact nat_no10 ⟨f.2.length, by omega⟩ h
theorem rows_each {PP : Str → Prop} : ∀ {fs : List FileP}, (∀ f ∈ fs, PP (headRow f) ∧ ∀ x ∈ f.2, PP x) → ∀ x ∈ rowsOf fs, PP x
  | [], _, x, h => nomatch h
  | f :: r, hp, x, h => by
    obtain ⟨a, b⟩ := hp f List.mem_cons_self
    rcases List.mem_cons.mp h with e | h
    · rw [e]
      exact a
    · rcases List.mem_append.mp h with h | h
      · exact b x h
      · exact rows_each (fun g hg => hp g (List.mem_cons_of_mem _ hg)) x h
theorem rowsIn_page {fs : List FileP} (g : Good fs) : rowsIn (pageOf fs) = rowsOf fs := by
  cases fs with
  | nil => rfl
  | cons f r =>
    have ne : rowsOf (f :: r) ≠ [] := by simp [rowsOf]
    have no10 : ∀ x ∈ rowsOf (f :: r), 10 ∉ cl x := rows_each fun f hf => ⟨head_no10 (g.nm f hf).1 (g.tx f hf).1, fun x hx hc => letters_no 10 (line_cl ((g.tx f hf).2 x hx) 10 hc) rfl⟩
    have es : Txt.split (pageOf (f :: r)) "\n" = rowsOf (f :: r) := by
      unfold pageOf
      rw [tjoin, feed_eq]
      exact split_join ne no10
    unfold rowsIn
    rw [if_neg ?_, es]
    intro e
    rw [e] at es
    have z : Txt.split ("" : Str) "\n" = [("" : Str)] := by decide +kernel
    rw [z] at es
    have z2 : headRow f = "" := by
      have z3 : ("" : Str) :: [] = headRow f :: (f.2 ++ rowsOf r) := es
      injection z3 with a b
      exact a.symm
    have z4 := congrArg cl z2
    unfold headRow at z4
    rw [cl_app, cl_app, cl_app] at z4
    have z5 := congrArg List.length z4
    rw [List.length_append, List.length_append, List.length_append] at z5
    have e5 : (cl ("file " : Str)).length = 5 := by decide +kernel
    have e6 : (cl ("" : Str)).length = 0 := by decide +kernel
    omega
/-- WHAT WAS WRITTEN IS READ -/
theorem read_page {fs : List FileP} (g : Good fs) : readR (rowsIn (pageOf fs)) = .inr fs := by
  rw [rowsIn_page g]
  unfold readR
  exact read_on fs [] _ g (by have := rows_len fs; show fs.length + 1 ≤ (rowsOf fs).length + 1; omega)
theorem head_small {f : FileP} (h1 : isName f.1 = true) (h2 : f.2.length ≤ 60) : SmallS (headRow f) := by
  unfold SmallS headRow
  rw [cl_app, cl_app, cl_app]
  intro c h
  rcases List.mem_append.mp h with h | h
  · rcases List.mem_append.mp h with h | h
    · rcases List.mem_append.mp h with h | h
      · have z : ∀ c ∈ cl ("file " : Str), c < 1114112 := by decide +kernel
        exact z c h
      · exact name_small h1 c h
    · have z : ∀ c ∈ cl (" " : Str), c < 1114112 := by decide +kernel
      exact z c h
  · exact nat_smallS ⟨f.2.length, by omega⟩ c h
theorem small_app {x y : Str} (h : SmallS x) (k : SmallS y) : SmallS (x ++ y) := by
  unfold SmallS
  rw [cl_app]
  intro c hc
  rcases List.mem_append.mp hc with z | z
  · exact h c z
  · exact k c z
theorem small_join {y : Str} (hy : SmallS y) : ∀ {l : List Str}, (∀ x ∈ l, SmallS x) → SmallS (Str.join y l)
  | [], _ => by
    unfold SmallS
    intro c hc
    cases hc
  | [x], h => h x List.mem_cons_self
  | x :: z :: r, h => small_app (small_app (h x List.mem_cons_self) hy) (small_join hy fun w hw => h w (List.mem_cons_of_mem _ hw))
theorem feed_small : SmallS ("\n" : Str) := by
  unfold SmallS
  decide +kernel
theorem page_small {fs : List FileP} (g : Good fs) : SmallS (pageOf fs) := by
  unfold pageOf
  rw [tjoin]
  exact small_join feed_small (rows_each fun f hf => ⟨head_small (g.nm f hf).1 (g.tx f hf).1, fun x hx => line_small ((g.tx f hf).2 x hx)⟩)
theorem join_len_le {l : List Str} {k : Nat} (h : ∀ x ∈ l, x.length ≤ k) : (Txt.join "\n" l).length ≤ (k + 1) * l.length := by
  rw [tjoin]
  have e1 : ("\n" : Str).length = 1 := by decide +kernel
  have z := sum_le h
  cases l with
  | nil => exact Nat.zero_le _
  | cons a r =>
    rw [len_join_cons, e1, Nat.add_mul, Nat.mul_one]
    rw [List.length_cons] at z ⊢
    omega
theorem page_len {fs : List FileP} (g : Good fs) : (pageOf fs).length ≤ 100000 := by
  obtain ⟨a, b⟩ := rowsOf_small (fun f hf => (g.nm f hf).1) g.tx
  have z := join_len_le b
  have := g.len
  unfold pageOf
  have e : (80 + 1) * (rowsOf fs).length ≤ 81 * (61 * 12) := Nat.mul_le_mul_left _ (by omega)
  omega
theorem good_shw {fs : List FileP} (g : Good fs) : Shw fs := ⟨g.len, fun f hf => ⟨(g.nm f hf).1, g.tx f hf⟩⟩
end Sk
/-! K93ZF: is_right. -/
namespace Sk
open PySem PySem.Spec PyProof.Rows L2
/-- a value whose reading can be asked -/
def Askd (K : PySem.W.Frag) (H : Hp) (v : V) : Prop := (∃ z : Str, v = .str z ∧ SmallS z ∧ z.length ≤ 100000) ∨ ∃ d, Dr K H v d ∧ Fits d ∧ ∃ t, TyX K H v t ∧ PySem.W.kitOne K t (.type "str") = some false
theorem feed_one {z : Str} : (rowsIn z).length ≤ z.length + 1 := by
  unfold rowsIn
  split
  · exact Nat.zero_le _
  · exact split_many (by decide +kernel)
section
variable {P : Program} {w : World} {K : PySem.W.Frag} {mg : Str → Option Value} {base : Heap}
def spRight (K : PySem.W.Frag) : Sp := fun vs H Q _ => ∃ v, vs = [v] ∧ Askd K H v ∧ ∀ H', Same H H' → Q (.bl true) H'
abbrev N_law_is_right : List Str := ["_law_value_here", "_law_kept"]
theorem sc_law_is_right : FnScope N_law_is_right ["_law_value_here"] (defScope s_law_is_right) := ⟨rfl, rfl, rfl, by decide +kernel, rfl, by decide +kernel, by decide +kernel⟩
theorem ok_law_is_right (G : PgOk P) (T : Wt K mg) : DefG P w K mg base 9 d_law_is_right 1 (spRight K) := by
  have D_law_heard := ok_law_heard (P := P) (w := w) (base := base) G T
  have D_law_due := ok_law_due (P := P) (w := w) (base := base) T
  refine mk_defG (ps := ["_law_value_here"]) (F_law_is_right T) rfl sc_law_is_right (fun vs H Q E h => ?_) (fun _ _ _ _ _ _ us hl => match us, hl with | [_], _ => rfl) (fun cdv A outer s H vs Q ec hc hr h => ?_)
  · obtain ⟨v, rfl, _⟩ := h
    rfl
  · have sc := sc_law_is_right
    obtain ⟨v, rfl, h, q⟩ := h
    refine ⟨_, (pss_cons (ps_set (i := 1) sc.nd rfl (Or.inl rfl) (pe_callB (call_reprG hc (hu100 hr) (mods T)) (by rfl) (z_repr T) (by decide +kernel) (pa_cons (pv 0) pa_nil)))
      (pss_one (ps_ret (pe_and (pe_cmpR op_eq (pe_callB (call_reprG hc (hu100 hr) (mods T)) (by rfl) (z_repr T) (by decide +kernel) (pa_cons (pcall D_law_heard (hr.mono (by decide)) (by rfl) (g_law_heard T) passL (pa_cons (pv 0) pa_nil)) pa_nil)) (pe_callB (call_reprG hc (hu100 hr) (mods T)) (by rfl) (z_repr T) (by decide +kernel) (pa_cons (pcall D_law_due (hr.mono (by decide)) (by rfl) (g_law_due T) passL (pa_cons (pv 0) pa_nil)) pa_nil)) (nomark _)) (pe_one (pe_cmpR op_eq (pe_callB (call_reprG hc (hu100 hr) (mods T)) (by rfl) (z_repr T) (by decide +kernel) (pa_cons (pv 0) pa_nil)) (pv 1) (nomark _))))))), ?_⟩
    rcases h with ⟨z, rfl, hz, hzl⟩ | ⟨d, hd, fd, ty⟩
    · have fz := fits_str hz (by omega)
      refine ⟨_, rfl, .str z, .str z, rfl, .str z, fz.able, fz.deep, fz.len, set_ ?_⟩
      have fr : ∀ fs, readR (rowsIn z) = .inr fs → (Fine fs ∧ fs.length ≤ 12) → Shw fs := fun fs e ⟨h1, h2⟩ => ⟨h2, fun f hf => ⟨(h1 f hf).1, readR_inr e f hf, (h1 f hf).2⟩⟩
      have ff : (∀ fs, readR (rowsIn z) = .inr fs → Fine fs ∧ fs.length ≤ 12) → Fits (resD (readR (rowsIn z))) := fun k => by
        cases e : readR (rowsIn z) with
        | inl j =>
          have a := readR_inl e
          have b := feed_one (z := z)
          exact fits_bad (Nat.lt_of_le_of_lt (show j ≤ 200000 by omega) (by decide))
        | inr fs => exact fits_got (fr fs e (k fs e))
      refine ⟨_, rfl, .str z, rfl, .inl ⟨z, rfl, by omega, fun H1 u s1 hu k1 => ?_⟩⟩
      have f1 := ff k1
      refine ⟨u, _, rfl, dr_res hu, f1.able, f1.deep, f1.len, ?_⟩
      refine ⟨_, rfl, .str z, rfl, .inl ⟨z, rfl, by omega, fun H2 u2 s2 hu2 k2 => ?_⟩⟩
      refine ⟨u2, _, rfl, dr_res hu2, f1.able, f1.deep, f1.len, ?_⟩
      refine ⟨rfl, _, rfl, itd (fun _ => ?_) (fun e => absurd rfl e)⟩
      refine ⟨_, rfl, .str z, .str z, rfl, .str z, fz.able, fz.deep, fz.len, _, rfl, rfl, ?_⟩
      exact qb (q H2 (s1.trans s2)) (decide_eq_true rfl).symm
    · have f0 : Fits (resD (.inl 0)) := fits_bad (by decide)
      refine ⟨_, rfl, v, d, rfl, hd, fd.able, fd.deep, fd.len, set_ ?_⟩
      refine ⟨_, rfl, v, rfl, .inr ⟨ty, fun H1 u s1 hu => ?_⟩⟩
      refine ⟨u, _, rfl, dr_res hu, f0.able, f0.deep, f0.len, ?_⟩
      obtain ⟨t, t1, t2⟩ := ty
      refine ⟨_, rfl, v, rfl, .inr ⟨⟨t, TyX_same s1 t1, t2⟩, fun H2 u2 s2 hu2 => ?_⟩⟩
      refine ⟨u2, _, rfl, dr_res hu2, f0.able, f0.deep, f0.len, ?_⟩
      refine ⟨rfl, _, rfl, itd (fun _ => ?_) (fun e => absurd rfl e)⟩
      refine ⟨_, rfl, v, d, rfl, Dr.keep (s1.trans s2) d v hd, fd.able, fd.deep, fd.len, _, rfl, rfl, ?_⟩
      exact qb (q H2 (s1.trans s2)) (decide_eq_true rfl).symm
end
end Sk
/-! K93ZG: a page spoilt. -/
namespace Sk
open PySem PySem.Spec PyProof.Rows L2
/-- what rows weigh -/
def wgt (l : List Str) : Nat := (l.map (·.length)).sum + l.length
theorem wgt_app (a b : List Str) : wgt (a ++ b) = wgt a + wgt b := by
  unfold wgt
  rw [List.map_append, List.sum_append, List.length_append]
  omega
theorem wgt_take : ∀ (l : List Str) (n : Nat), wgt (l.take n) ≤ wgt l
  | [], n => by simp [wgt]
  | x :: r, 0 => by simp [wgt]
  | x :: r, n + 1 => by
    have := wgt_take r n
    rw [List.take_succ_cons]
    simp only [wgt, List.map_cons, List.sum_cons, List.length_cons] at *
    omega
theorem wgt_drop : ∀ (l : List Str) (n : Nat), wgt (l.drop n) ≤ wgt l
  | [], n => by simp [wgt]
  | x :: r, 0 => by simp [wgt]
  | x :: r, n + 1 => by
    have := wgt_drop r n
    rw [List.drop_succ_cons]
    simp only [wgt, List.map_cons, List.sum_cons, List.length_cons] at *
    omega
theorem wgt_mem {l : List Str} {x : Str} (h : x ∈ l) : x.length + 1 ≤ wgt l := by
  induction l with
  | nil => cases h
  | cons a r ih =>
    simp only [wgt, List.map_cons, List.sum_cons, List.length_cons] at *
    rcases List.mem_cons.mp h with e | e
    · rw [e]
      omega
    · have := ih e
      omega
theorem cut_map (ws : List Str) (lo hi : Option Int) : ∃ us, cutV (ws.map V.str) lo hi = us.map V.str ∧ wgt us ≤ wgt ws ∧ ∀ x ∈ us, x ∈ ws := by
  unfold cutV
  rw [List.length_map]
  refine ⟨(ws.drop (HT.sIx ws.length 0 lo)).take (HT.sIx ws.length ws.length hi - HT.sIx ws.length 0 lo), ?_, Nat.le_trans (wgt_take _ _) (wgt_drop _ _), fun x hx => List.mem_of_mem_drop (List.mem_of_mem_take hx)⟩
  rw [List.map_take, List.map_drop]
theorem cutS_small {z : Str} (h : SmallS z) (lo hi : Option Int) : SmallS (cutS z lo hi) ∧ (cutS z lo hi).length ≤ z.length := by
  unfold cutS SmallS cl
  refine ⟨fun c hc => h c ?_, ?_⟩
  · exact List.mem_of_mem_drop (List.mem_of_mem_take (i := HT.sIx z.length z.length hi - HT.sIx z.length 0 lo) (l := z.cps.toList.drop (HT.sIx z.length 0 lo)) hc)
  · show (((z.cps.toList.drop _).take _).toArray).size ≤ z.cps.size
    rw [List.size_toArray, List.length_take, List.length_drop, ← Array.length_toList]
    omega
/-- rows that may be joined -/
structure Rws (ws : List Str) (n : Nat) : Prop where
  sm : ∀ x ∈ ws, SmallS x
  wt : wgt ws ≤ n
/-- a text that may be asked -/
def OkS (n : Nat) (x : Str) : Prop := SmallS x ∧ x.length ≤ n
theorem Rws.app {a b : List Str} {n m : Nat} (h : Rws a n) (k : Rws b m) : Rws (a ++ b) (n + m) := by
  refine ⟨fun x hx => ?_, by rw [wgt_app]; have := h.wt; have := k.wt; omega⟩
  rcases List.mem_append.mp hx with z | z
  · exact h.sm x z
  · exact k.sm x z
theorem Rws.join {a : List Str} {n : Nat} (h : Rws a n) : OkS n (Txt.join "\n" a) := by
  refine ⟨by rw [tjoin]; exact small_join feed_small h.sm, ?_⟩
  have w := h.wt
  rw [tjoin]
  have e1 : ("\n" : Str).length = 1 := by decide +kernel
  cases a with
  | nil => exact Nat.zero_le _
  | cons x r =>
    rw [len_join_cons, e1]
    simp only [wgt, List.length_cons] at *
    omega
theorem Rws.sum {a : List Str} {n : Nat} (h : Rws a n) (hn : n ≤ 1000000) : (a.map (·.length)).sum + a.length * ("\n" : Str).length ≤ 2000000 := by
  have e1 : ("\n" : Str).length = 1 := by decide +kernel
  have w := h.wt
  unfold wgt at w
  rw [e1]
  omega
theorem Rws.one {x : Str} {n : Nat} (h : OkS n x) : Rws [x] (n + 1) := by
  refine ⟨fun y hy => by rw [List.mem_singleton.mp hy]; exact h.1, ?_⟩
  have := h.2
  simp only [wgt, List.map_cons, List.map_nil, List.sum_cons, List.sum_nil, List.length_cons, List.length_nil]
  omega
theorem mem_join {y c} : ∀ {l : List Str} {p : Str}, p ∈ l → c ∈ cl p → c ∈ cl (Str.join y l)
  | [], p, h, _ => nomatch h
  | [x], p, h, hc => by
    rw [List.mem_singleton.mp h] at hc
    exact hc
  | x :: z :: r, p, h, hc => by
    show c ∈ cl (x ++ y ++ Str.join y (z :: r))
    rw [cl_app, cl_app]
    rcases List.mem_cons.mp h with e | e
    · rw [e] at hc
      exact List.mem_append_left _ (List.mem_append_left _ hc)
    · exact List.mem_append_right _ (mem_join e hc)
theorem split_rws {z : Str} (h : SmallS z) : Rws (Txt.split z "\n") (z.length + 1) := by
  refine ⟨fun x hx c hc => h c ?_, split_weight z "\n" (by decide +kernel)⟩
  have e := StrLaws.join_split z "\n"
  rw [← e]
  exact mem_join hx hc
theorem OkS.add {a b : Nat} {x y : Str} (h : OkS a x) (k : OkS b y) : OkS (a + b) (x ++ y) := ⟨small_app h.1 k.1, by rw [len_app]; have := h.2; have := k.2; omega⟩
theorem OkS.mono {a b : Nat} {x : Str} (h : OkS a x) (l : a ≤ b) : OkS b x := ⟨h.1, Nat.le_trans h.2 l⟩
def oddL : List Str := ["", "file a 0", "file zz 2", "file b 60", "file b 61", "file B 1", repS "a" 81, "A", "file c 00"]
theorem odd_ok : ∀ x ∈ oddL, OkS 81 x := by
  have z : (oddL.all fun x => (cl x).all (fun c => decide (c < 1114112)) && decide (x.length ≤ 81)) = true := by decide +kernel
  intro x hx
  have a := List.all_eq_true.mp z x hx
  rw [Bool.and_eq_true, List.all_eq_true] at a
  exact ⟨fun c hc => of_decide_eq_true (a.1 c hc), of_decide_eq_true a.2⟩
theorem sign_ok : ∀ c ∈ cl ("ab 019\n-F" : Str), c < 1114112 := by decide +kernel
theorem small_sz {n : Nat} (h : n ≤ 1000000) : n ≤ sizeLine := Nat.le_trans h (by decide)
section
variable {P : Program} {w : World} {K : PySem.W.Frag} {mg : Str → Option Value} {base : Heap}
def spSpoilt : Sp := fun vs H Q _ => ∃ (p : Addr) (n : Int) (z : Str), vs = [.ref p, .str z] ∧ PotAt H p n ∧ n < 900000 ∧ SmallS z ∧ z.length ≤ 20000 ∧ ∀ (H' : Hp) (x : Str), Frm p H H' → PotAt H' p (n + 10) → OkS (3 * z.length + 100) x → Q (.str x) H'
abbrev N_law_spoilt : List Str := ["_law_pot_here", "_law_page", "_law_odd", "_law_some", "_law_rows", "_law_sign", "_law_at", "_law_spot", "_law_place", "_law_other", "_law_behind"]
theorem sc_law_spoilt : FnScope N_law_spoilt ["_law_pot_here", "_law_page"] (defScope s_law_spoilt) := ⟨rfl, rfl, rfl, by decide +kernel, rfl, by decide +kernel, by decide +kernel⟩
theorem ok_law_spoilt (T : Wt K mg) : Def P w K mg base 3 d_law_spoilt ["_law_pot_here", "_law_page"] spSpoilt := by
  have D_law_draw := ok_law_draw (P := P) (w := w) (base := base) T
  have D_law_any := ok_law_any (P := P) (w := w) (base := base) T
  refine mk_def (F_law_spoilt T) rfl sc_law_spoilt (fun vs H Q E h => ?_) (fun _ _ _ _ _ _ us hl => match us, hl with | [_, _], _ => rfl) (fun cdv A outer s H vs Q E hr h => ?_)
  · obtain ⟨p, n, z, rfl, _⟩ := h
    rfl
  · have sc := sc_law_spoilt
    obtain ⟨p, n, z, rfl, hp, hn, hz, hzl, q⟩ := h
    refine ⟨_, (pss_cons (ps_par (i := 4) (j := 5) rfl sc.nd rfl rfl (by decide) rfl rfl (pa_cons (pe_split (pv 1) pe_str) (pa_cons (pcall D_law_any (hr.mono (by decide)) (by rfl) (g_law_any T) passL (pa_cons (pv 0) (pa_cons pe_str pa_nil))) pa_nil)) (by rfl))
      (pss_cons (ps_par3 (i := 6) (j := 7) (l := 8) rfl sc.nd rfl rfl rfl (by decide) (by decide) (by decide) rfl rfl rfl (pa_cons (pcall D_law_draw (hr.mono (by decide)) (by rfl) (g_law_draw T) passL (pa_cons (pv 0) (pa_cons (pe_callB call_len_seq (by rfl) (z_len T) (by decide +kernel) (pa_cons (pv 4) pa_nil)) pa_nil))) (pa_cons (pcall D_law_draw (hr.mono (by decide)) (by rfl) (g_law_draw T) passL (pa_cons (pv 0) (pa_cons (pe_op op_add (pe_callB call_len_seq (by rfl) (z_len T) (by decide +kernel) (pa_cons (pv 4) pa_nil)) pe_int) pa_nil))) (pa_cons (pcall D_law_draw (hr.mono (by decide)) (by rfl) (g_law_draw T) passL (pa_cons (pv 0) (pa_cons (pe_op op_add (pe_callB call_len_str (by rfl) (z_len T) (by decide +kernel) (pa_cons (pv 1) pa_nil)) pe_int) pa_nil))) pa_nil))) (by rfl))
      (pss_cons (ps_set (i := 2) sc.nd rfl (Or.inl rfl) (pe_lst (pa_cons pe_str (pa_cons pe_str (pa_cons pe_str (pa_cons pe_str (pa_cons pe_str (pa_cons pe_str (pa_cons (pe_op op_mul_si pe_str pe_int) (pa_cons pe_str (pa_cons pe_str pa_nil)))))))))))
      (pss_cons (ps_par (i := 9) (j := 10) rfl sc.nd rfl rfl (by decide) rfl rfl (pa_cons (pcall D_law_any (hr.mono (by decide)) (by rfl) (g_law_any T) passL (pa_cons (pv 0) (pa_cons (pv 2) pa_nil))) (pa_cons (pe_slice sl_str (pv 1) (po_some (pe_op op_add (pv 8) pe_int)) po_none) pa_nil)) (by rfl))
      (pss_cons (ps_set (i := 3) sc.nd rfl (Or.inl rfl) (pe_lst (pa_cons (pe_op op_add_str (pe_slice sl_str (pv 1) po_none (po_some (pv 8))) (pv 10)) (pa_cons (pe_op op_add_str (pe_op op_add_str (pe_slice sl_str (pv 1) po_none (po_some (pv 8))) (pv 5)) (pe_slice sl_str (pv 1) (po_some (pv 8)) po_none)) (pa_cons (pe_op op_add_str (pe_op op_add_str (pe_slice sl_str (pv 1) po_none (po_some (pv 8))) (pv 5)) (pv 10)) pa_nil)))))
      (pss_cons (ps_set (i := 3) sc.nd rfl (Or.inl rfl) (pe_op op_cat (pv 3) (pe_lst (pa_cons (pe_join pe_str (pe_op op_cat (pe_slice sl_list (pv 4) po_none (po_some (pv 6))) (pe_slice sl_list (pv 4) (po_some (pe_op op_add (pv 6) pe_int)) po_none))) (pa_cons (pe_join pe_str (pe_op op_cat (pe_slice sl_list (pv 4) po_none (po_some (pe_op op_add (pv 6) pe_int))) (pe_slice sl_list (pv 4) (po_some (pv 6)) po_none))) pa_nil)))))
      (pss_cons (ps_set (i := 3) sc.nd rfl (Or.inl rfl) (pe_op op_cat (pv 3) (pe_lst (pa_cons (pe_join pe_str (pe_op op_cat (pe_op op_cat (pe_slice sl_list (pv 4) po_none (po_some (pv 7))) (pe_lst (pa_cons (pv 9) pa_nil))) (pe_slice sl_list (pv 4) (po_some (pv 7)) po_none))) (pa_cons (pe_join pe_str (pe_op op_cat (pe_op op_cat (pe_slice sl_list (pv 4) po_none (po_some (pv 6))) (pe_lst (pa_cons (pv 9) pa_nil))) (pe_slice sl_list (pv 4) (po_some (pe_op op_add (pv 6) pe_int)) po_none))) pa_nil)))))
      (pss_one (ps_ret (pcall D_law_any (hr.mono (by decide)) (by rfl) (g_law_any T) passL (pa_cons (pv 0) (pa_cons (pe_op op_cat (pv 3) (pe_lst (pa_cons (pe_join pe_str (pe_op op_cat (pe_op op_cat (pe_slice sl_list (pv 4) po_none (po_some (pv 7))) (pe_lst (pa_cons (pe_ix ix_list (pv 4) (pv 6) (fun _ _ => rfl)) pa_nil))) (pe_slice sl_list (pv 4) (po_some (pv 7)) po_none))) (pa_cons (pe_join pe_str (pe_slice sl_list (pv 4) po_none (po_some (pv 6)))) pa_nil)))) pa_nil)))))))))))), ?_⟩
    have hR := split_rws hz
    have hRl : (Txt.split z "\n").length ≤ z.length + 1 := split_many (by decide +kernel)
    have hR1 : 1 ≤ (Txt.split z "\n").length := split_pos z "\n"
    generalize eR : Txt.split z "\n" = R at hR hRl hR1
    have hsz : z.length ≤ sizeLine := small_sz (by omega)
    refine ⟨_, rfl, ⟨_, rfl⟩, z, _, rfl, rfl, by decide +kernel, small_sz (by omega), fun lr hlr => ?_⟩
    rw [eR]
    have hp1 := hp.upd (o := .lst (R.map V.str)) (hp.ne hlr)
    have f1 : Frm p H (upd H lr (.lst (R.map V.str))) := Frm.new hlr
    have nlr := hp.ne hlr
    have hlr1 : (upd H lr (.lst (R.map V.str))) lr = some (.lst (R.map V.str)) := upd_same
    generalize upd H lr (.lst (R.map V.str)) = H1 at hp1 f1 hlr1
    refine ⟨_, rfl, p, n, hp1, by omega, .inr ⟨_, rfl, by decide +kernel, by decide +kernel, fun H2 c f2 hp2 hc => ⟨_, _, rfl, ?_⟩⟩⟩
    have hsg : OkS 1 (⟨#[c]⟩ : Str) := ⟨fun d hd => by
      have e : d = c := by simpa [cl] using hd
      rw [e]
      exact sign_ok c hc, Nat.le_refl 1⟩
    generalize (⟨#[c]⟩ : Str) = sg at hsg
    have hl2 := f2 _ _ nlr hlr1
    refine ⟨_, rfl, _, rfl, lr, _, rfl, .inl (SqL.of hl2), p, _, n + 1, rfl, by rw [List.length_map]; omega, by rw [List.length_map]; omega, hp2, by omega, fun H3 at_ f3 hp3 a0 a1 => ?_⟩
    have hl3 := f3 _ _ nlr hl2
    refine ⟨_, rfl, _, rfl, lr, _, rfl, .inl (SqL.of hl3), _, _, rfl, rfl, p, _, n + 1 + 1, rfl, by rw [List.length_map]; omega, by rw [List.length_map]; omega, hp3, by omega, fun H4 spot f4 hp4 b0 b1 => ?_⟩
    have hl4 := f4 _ _ nlr hl3
    refine ⟨_, rfl, _, rfl, z, rfl, hsz, _, _, rfl, rfl, p, _, n + 1 + 1 + 1, rfl, by omega, by omega, hp4, by omega, fun H5 place f5 hp5 c0 c1 => ⟨_, _, _, rfl, ?_⟩⟩
    have hl5 := f5 _ _ nlr hl4
    refine ⟨_, _, rfl, rfl, by decide, by decide, by decide +kernel, by decide +kernel, by decide +kernel, (by show 9 ≤ sizeLine; decide), fun lo hlo => set_ ?_⟩
    have hp6 := hp5.upd (o := .lst (oddL.map V.str)) (hp5.ne hlo)
    have nlo := hp5.ne hlo
    have hl6 : (upd H5 lo (.lst (oddL.map V.str))) lr = some (.lst (R.map V.str)) := new_at hl5 hlo
    have ho6 : (upd H5 lo (.lst (oddL.map V.str))) lo = some (.lst (oddL.map V.str)) := upd_same
    have f6 : Frm p H (upd H5 lo (.lst (oddL.map V.str))) := (f1.trans (f2.trans (f3.trans (f4.trans f5)))).trans (Frm.new hlo)
    show tSeq _ _ _ _ (upd H5 lo (.lst (oddL.map V.str)))
    generalize upd H5 lo (.lst (oddL.map V.str)) = H6 at hp6 hl6 ho6 f6
    refine ⟨_, rfl, _, rfl, p, _, hp6, by omega, .inl ⟨lo, _, rfl, SqL.of ho6, nlo, by simp [oddL], by simp [oddL], fun H7 v f7 hp7 hv => ?_⟩⟩
    obtain ⟨od, hod, rfl⟩ := List.mem_map.mp hv
    have hod := odd_ok od hod
    have hl7 := f7 _ _ nlr hl6
    have cb := cutS_small hz (some (place + 1)) none
    refine ⟨_, rfl, _, rfl, _, _, rfl, rfl, _, rfl, z, rfl, hsz, _, _, rfl, ?_⟩
    have cb : OkS z.length (cutS z (some (place + 1)) none) := cb
    generalize cutS z (some (place + 1)) none = behind at cb
    have ca : OkS z.length (cutS z none (some place)) := cutS_small hz none (some place)
    have cd : OkS z.length (cutS z (some place) none) := cutS_small hz (some place) none
    have sz2 : ∀ {x y : Str} {a b : Nat}, OkS a x → OkS b y → a + b ≤ 1000000 → x.length + y.length ≤ sizeLine := fun h k l => small_sz (by have := h.2; have := k.2; omega)
    refine ⟨_, rfl, _, rfl, _, rfl, z, rfl, hsz, _, rfl, _, _, rfl, rfl, sz2 ca cb (by omega), ?_⟩
    refine ⟨_, rfl, _, rfl, _, rfl, z, rfl, hsz, _, rfl, _, _, rfl, rfl, sz2 ca hsg (by omega), _, rfl, _, rfl, _, rfl, z, rfl, hsz, _, _, rfl, rfl, sz2 (ca.add hsg) cd (by omega), ?_⟩
    refine ⟨_, rfl, _, rfl, _, rfl, z, rfl, hsz, _, rfl, _, _, rfl, rfl, sz2 ca hsg (by omega), _, rfl, _, _, rfl, rfl, sz2 (ca.add hsg) cb (by omega), (by show 3 ≤ sizeLine; decide), fun l3 h3 => set_ ?_⟩
    have l3k : ∀ {v : V}, v ∈ [V.str (cutS z none (some place) ++ behind), .str (cutS z none (some place) ++ sg ++ cutS z (some place) none), .str (cutS z none (some place) ++ sg ++ behind)] → ∃ y, v = .str y ∧ OkS (3 * z.length + 100) y := fun {v} hv => by
      have h3 : v = V.str (cutS z none (some place) ++ behind) ∨ v = .str (cutS z none (some place) ++ sg ++ cutS z (some place) none) ∨ v = .str (cutS z none (some place) ++ sg ++ behind) := by simpa using hv
      rcases h3 with e | e | e
      · exact ⟨_, e, (ca.add cb).mono (by omega)⟩
      · exact ⟨_, e, ((ca.add hsg).add cd).mono (by omega)⟩
      · exact ⟨_, e, ((ca.add hsg).add cb).mono (by omega)⟩
    have hl3n : ([V.str (cutS z none (some place) ++ behind), .str (cutS z none (some place) ++ sg ++ cutS z (some place) none), .str (cutS z none (some place) ++ sg ++ behind)]).length = 3 := rfl
    have hp8 := hp7.upd (o := .lst [V.str (cutS z none (some place) ++ behind), .str (cutS z none (some place) ++ sg ++ cutS z (some place) none), .str (cutS z none (some place) ++ sg ++ behind)]) (hp7.ne h3)
    have f8 : Frm p H (upd H7 l3 (.lst [V.str (cutS z none (some place) ++ behind), .str (cutS z none (some place) ++ sg ++ cutS z (some place) none), .str (cutS z none (some place) ++ sg ++ behind)])) := (f6.trans f7).trans (Frm.new h3)
    have hl8 : (upd H7 l3 (.lst [V.str (cutS z none (some place) ++ behind), .str (cutS z none (some place) ++ sg ++ cutS z (some place) none), .str (cutS z none (some place) ++ sg ++ behind)])) lr = some (.lst (R.map V.str)) := new_at hl7 h3
    have hl3_8 : (upd H7 l3 (.lst [V.str (cutS z none (some place) ++ behind), .str (cutS z none (some place) ++ sg ++ cutS z (some place) none), .str (cutS z none (some place) ++ sg ++ behind)])) l3 = some (.lst [V.str (cutS z none (some place) ++ behind), .str (cutS z none (some place) ++ sg ++ cutS z (some place) none), .str (cutS z none (some place) ++ sg ++ behind)]) := upd_same
    generalize upd H7 l3 (.lst [V.str (cutS z none (some place) ++ behind), .str (cutS z none (some place) ++ sg ++ cutS z (some place) none), .str (cutS z none (some place) ++ sg ++ behind)]) = H8 at hp8 f8 hl8 hl3_8
    generalize [V.str (cutS z none (some place) ++ behind), .str (cutS z none (some place) ++ sg ++ cutS z (some place) none), .str (cutS z none (some place) ++ sg ++ behind)] = K3 at l3k hl3n hl3_8
    have lenc : ∀ lo hi, (cutV (R.map V.str) lo hi).length ≤ 30000 := fun lo hi => Nat.le_trans (cutV_length _ _ _) (by rw [List.length_map]; omega)
    have lenc2 : ∀ a b c d, (cutV (R.map V.str) a b).length + (cutV (R.map V.str) c d).length ≤ sizeLine := fun a b c d => small_sz (by have := lenc a b; have := lenc c d; omega)
    have lenc1 : ∀ a b (x : Str), (cutV (R.map V.str) a b).length + [V.str x].length ≤ sizeLine := fun a b x => small_sz (by have := lenc a b; rw [List.length_singleton]; omega)
    have lenc3 : ∀ a b (x : Str) c d, (cutV (R.map V.str) a b ++ [V.str x]).length + (cutV (R.map V.str) c d).length ≤ sizeLine := fun a b x c d => small_sz (by have := lenc a b; have := lenc c d; rw [List.length_append, List.length_singleton]; omega)
    refine ⟨_, rfl, ?_⟩
    obtain ⟨uA1, eA1, wA1, mA1⟩ := cut_map R none (some at_)
    obtain ⟨uB1, eB1, wB1, mB1⟩ := cut_map R (some (at_ + 1)) none
    have rw1 : Rws (uA1 ++ uB1) ((z.length + 1) + (z.length + 1)) := Rws.app ⟨fun x h => hR.sm x (mA1 x h), Nat.le_trans wA1 hR.wt⟩ ⟨fun x h => hR.sm x (mB1 x h), Nat.le_trans wB1 hR.wt⟩
    refine ⟨⟨_, rfl⟩, _, rfl, _, rfl, _, rfl, lr, _, rfl, SqL.of hl8, fun q1 hq1 => ⟨_, rfl, _, rfl, _, _, rfl, rfl, _, rfl, lr, _, rfl, SqL.of (new_at hl8 hq1), fun q2 hq2 => ⟨q1, q2, _, _, rfl, rfl, new_at upd_same hq2, upd_same, lenc2 _ _ _ _, fun q3 hq3 => ⟨_, q3, uA1 ++ uB1, rfl, rfl, .inl (SqL.of (by rw [upd_same, eA1, eB1, List.map_append])), Nat.le_trans (rw1.sum (by omega)) (by decide), ?_⟩⟩⟩⟩
    have s9 : Same H8 (upd (upd (upd H8 q1 (.lst (cutV (R.map V.str) none (some at_)))) q2 (.lst (cutV (R.map V.str) (some (at_ + 1)) none))) q3 (.lst (cutV (R.map V.str) none (some at_) ++ cutV (R.map V.str) (some (at_ + 1)) none))) := nw (nw (nw (Same.refl _) hq1) hq2) hq3
    generalize upd (upd (upd H8 q1 (.lst (cutV (R.map V.str) none (some at_)))) q2 (.lst (cutV (R.map V.str) (some (at_ + 1)) none))) q3 (.lst (cutV (R.map V.str) none (some at_) ++ cutV (R.map V.str) (some (at_ + 1)) none)) = H9 at s9
    have hl9 := s9 _ _ hl8
    have hp9 := hp8.same s9
    have hl3_9 := s9 _ _ hl3_8
    have j1 : OkS (3 * z.length + 100) (Txt.join "\n" (uA1 ++ uB1)) := rw1.join.mono (by omega)
    generalize Txt.join "\n" (uA1 ++ uB1) = y1 at j1
    obtain ⟨uA2, eA2, wA2, mA2⟩ := cut_map R none (some (at_ + 1))
    obtain ⟨uB2, eB2, wB2, mB2⟩ := cut_map R (some at_) none
    have rw2 : Rws (uA2 ++ uB2) ((z.length + 1) + (z.length + 1)) := Rws.app ⟨fun x h => hR.sm x (mA2 x h), Nat.le_trans wA2 hR.wt⟩ ⟨fun x h => hR.sm x (mB2 x h), Nat.le_trans wB2 hR.wt⟩
    refine ⟨⟨_, rfl⟩, _, rfl, _, rfl, _, _, rfl, rfl, _, rfl, lr, _, rfl, SqL.of hl9, fun q1 hq1 => ⟨_, rfl, _, rfl, _, rfl, lr, _, rfl, SqL.of (new_at hl9 hq1), fun q2 hq2 => ⟨q1, q2, _, _, rfl, rfl, new_at upd_same hq2, upd_same, lenc2 _ _ _ _, fun q3 hq3 => ⟨_, q3, uA2 ++ uB2, rfl, rfl, .inl (SqL.of (by rw [upd_same, eA2, eB2, List.map_append])), Nat.le_trans (rw2.sum (by omega)) (by decide), ?_⟩⟩⟩⟩
    have s10 : Same H9 (upd (upd (upd H9 q1 (.lst (cutV (R.map V.str) none (some (at_ + 1))))) q2 (.lst (cutV (R.map V.str) (some at_) none))) q3 (.lst (cutV (R.map V.str) none (some (at_ + 1)) ++ cutV (R.map V.str) (some at_) none))) := nw (nw (nw (Same.refl _) hq1) hq2) hq3
    generalize upd (upd (upd H9 q1 (.lst (cutV (R.map V.str) none (some (at_ + 1))))) q2 (.lst (cutV (R.map V.str) (some at_) none))) q3 (.lst (cutV (R.map V.str) none (some (at_ + 1)) ++ cutV (R.map V.str) (some at_) none)) = H10 at s10
    have hl10 := s10 _ _ hl9
    have hp10 := hp9.same s10
    have hl3_10 := s10 _ _ hl3_9
    have j2 : OkS (3 * z.length + 100) (Txt.join "\n" (uA2 ++ uB2)) := rw2.join.mono (by omega)
    generalize Txt.join "\n" (uA2 ++ uB2) = y2 at j2
    refine ⟨(by show 2 ≤ sizeLine; decide), fun q1 hq1 => ⟨l3, q1, _, _, rfl, rfl, new_at hl3_10 hq1, upd_same, (by rw [hl3n]; show 3 + 2 ≤ sizeLine; decide), fun l5 hl5 => ?_⟩⟩
    have kl5 : ∀ {v : V}, v ∈ K3 ++ [.str y1, .str y2] → ∃ y, v = .str y ∧ OkS (3 * z.length + 100) y := fun {v} hv => by
      rcases List.mem_append.mp hv with e | e
      · exact l3k e
      · have e2 : v = .str y1 ∨ v = .str y2 := by simpa using e
        rcases e2 with e | e
        · exact ⟨_, e, j1⟩
        · exact ⟨_, e, j2⟩
    have hnl5 : (K3 ++ [V.str y1, .str y2]).length = 3 + 2 := by
      rw [List.length_append, hl3n]
      rfl
    have s11 : Same H10 (upd (upd H10 q1 (.lst [.str y1, .str y2])) l5 (.lst (K3 ++ [.str y1, .str y2]))) := nw (nw (Same.refl _) hq1) hl5
    have hzl5 : (upd (upd H10 q1 (.lst [.str y1, .str y2])) l5 (.lst (K3 ++ [.str y1, .str y2]))) l5 = some (.lst (K3 ++ [.str y1, .str y2])) := upd_same
    have npl5 : l5 ≠ p := (hp10.same (nw (Same.refl _) hq1)).ne hl5
    refine set_ ?_
    generalize upd (upd H10 q1 (.lst [.str y1, .str y2])) l5 (.lst (K3 ++ [.str y1, .str y2])) = H11 at s11 hzl5
    generalize K3 ++ [V.str y1, .str y2] = K5 at kl5 hnl5 hzl5
    clear l3k hl3n
    have l3k := @kl5
    have hl3n := hnl5
    have hl3_11 := hzl5
    have hl11 := s11 _ _ hl10
    have hp11 := hp10.same s11
    refine ⟨_, rfl, ?_⟩
    obtain ⟨uA3, eA3, wA3, mA3⟩ := cut_map R none (some spot)
    obtain ⟨uB3, eB3, wB3, mB3⟩ := cut_map R (some spot) none
    have rw3 : Rws ((uA3 ++ [od]) ++ uB3) (((z.length + 1) + (81 + 1)) + (z.length + 1)) := Rws.app (Rws.app ⟨fun x h => hR.sm x (mA3 x h), Nat.le_trans wA3 hR.wt⟩ (Rws.one hod)) ⟨fun x h => hR.sm x (mB3 x h), Nat.le_trans wB3 hR.wt⟩
    refine ⟨⟨_, rfl⟩, _, rfl, _, rfl, _, rfl, lr, _, rfl, SqL.of hl11, fun q1 hq1 => ⟨_, rfl, (by show 1 ≤ sizeLine; decide), fun q2 hq2 => ⟨q1, q2, _, _, rfl, rfl, new_at upd_same hq2, upd_same, lenc1 _ _ _, fun q3 hq3 => ⟨_, rfl, _, rfl, _, rfl, lr, _, rfl, SqL.of (new_at (new_at (new_at hl11 hq1) hq2) hq3), fun q4 hq4 => ⟨q3, q4, _, _, rfl, rfl, new_at upd_same hq4, upd_same, lenc3 _ _ _ _ _, fun q5 hq5 => ⟨_, q5, (uA3 ++ [od]) ++ uB3, rfl, rfl, .inl (SqL.of (by rw [upd_same, eA3, eB3, List.map_append, List.map_append]; rfl)), Nat.le_trans (rw3.sum (by omega)) (by decide), ?_⟩⟩⟩⟩⟩⟩
    have s12 : Same H11 (upd (upd (upd (upd (upd H11 q1 (.lst (cutV (R.map V.str) none (some spot)))) q2 (.lst [.str od])) q3 (.lst (cutV (R.map V.str) none (some spot) ++ [.str od]))) q4 (.lst (cutV (R.map V.str) (some spot) none))) q5 (.lst (cutV (R.map V.str) none (some spot) ++ [.str od] ++ cutV (R.map V.str) (some spot) none))) := nw (nw (nw (nw (nw (Same.refl _) hq1) hq2) hq3) hq4) hq5
    generalize upd (upd (upd (upd (upd H11 q1 (.lst (cutV (R.map V.str) none (some spot)))) q2 (.lst [.str od])) q3 (.lst (cutV (R.map V.str) none (some spot) ++ [.str od]))) q4 (.lst (cutV (R.map V.str) (some spot) none))) q5 (.lst (cutV (R.map V.str) none (some spot) ++ [.str od] ++ cutV (R.map V.str) (some spot) none)) = H12 at s12
    have hl12 := s12 _ _ hl11
    have hp12 := hp11.same s12
    have hl3_12 := s12 _ _ hl3_11
    have j3 : OkS (3 * z.length + 100) (Txt.join "\n" ((uA3 ++ [od]) ++ uB3)) := rw3.join.mono (by omega)
    generalize Txt.join "\n" ((uA3 ++ [od]) ++ uB3) = y3 at j3
    obtain ⟨uA4, eA4, wA4, mA4⟩ := cut_map R none (some at_)
    obtain ⟨uB4, eB4, wB4, mB4⟩ := cut_map R (some (at_ + 1)) none
    have rw4 : Rws ((uA4 ++ [od]) ++ uB4) (((z.length + 1) + (81 + 1)) + (z.length + 1)) := Rws.app (Rws.app ⟨fun x h => hR.sm x (mA4 x h), Nat.le_trans wA4 hR.wt⟩ (Rws.one hod)) ⟨fun x h => hR.sm x (mB4 x h), Nat.le_trans wB4 hR.wt⟩
    refine ⟨⟨_, rfl⟩, _, rfl, _, rfl, _, rfl, lr, _, rfl, SqL.of hl12, fun q1 hq1 => ⟨_, rfl, (by show 1 ≤ sizeLine; decide), fun q2 hq2 => ⟨q1, q2, _, _, rfl, rfl, new_at upd_same hq2, upd_same, lenc1 _ _ _, fun q3 hq3 => ⟨_, rfl, _, rfl, _, _, rfl, rfl, _, rfl, lr, _, rfl, SqL.of (new_at (new_at (new_at hl12 hq1) hq2) hq3), fun q4 hq4 => ⟨q3, q4, _, _, rfl, rfl, new_at upd_same hq4, upd_same, lenc3 _ _ _ _ _, fun q5 hq5 => ⟨_, q5, (uA4 ++ [od]) ++ uB4, rfl, rfl, .inl (SqL.of (by rw [upd_same, eA4, eB4, List.map_append, List.map_append]; rfl)), Nat.le_trans (rw4.sum (by omega)) (by decide), ?_⟩⟩⟩⟩⟩⟩
    have s13 : Same H12 (upd (upd (upd (upd (upd H12 q1 (.lst (cutV (R.map V.str) none (some at_)))) q2 (.lst [.str od])) q3 (.lst (cutV (R.map V.str) none (some at_) ++ [.str od]))) q4 (.lst (cutV (R.map V.str) (some (at_ + 1)) none))) q5 (.lst (cutV (R.map V.str) none (some at_) ++ [.str od] ++ cutV (R.map V.str) (some (at_ + 1)) none))) := nw (nw (nw (nw (nw (Same.refl _) hq1) hq2) hq3) hq4) hq5
    generalize upd (upd (upd (upd (upd H12 q1 (.lst (cutV (R.map V.str) none (some at_)))) q2 (.lst [.str od])) q3 (.lst (cutV (R.map V.str) none (some at_) ++ [.str od]))) q4 (.lst (cutV (R.map V.str) (some (at_ + 1)) none))) q5 (.lst (cutV (R.map V.str) none (some at_) ++ [.str od] ++ cutV (R.map V.str) (some (at_ + 1)) none)) = H13 at s13
    have hl13 := s13 _ _ hl12
    have hp13 := hp12.same s13
    have hl3_13 := s13 _ _ hl3_12
    have j4 : OkS (3 * z.length + 100) (Txt.join "\n" ((uA4 ++ [od]) ++ uB4)) := rw4.join.mono (by omega)
    generalize Txt.join "\n" ((uA4 ++ [od]) ++ uB4) = y4 at j4
    refine ⟨(by show 2 ≤ sizeLine; decide), fun q1 hq1 => ⟨l5, q1, _, _, rfl, rfl, new_at hl3_13 hq1, upd_same, (by rw [hl3n]; show 5 + 2 ≤ sizeLine; decide), fun l7 hl7 => ?_⟩⟩
    have kl7 : ∀ {v : V}, v ∈ K5 ++ [.str y3, .str y4] → ∃ y, v = .str y ∧ OkS (3 * z.length + 100) y := fun {v} hv => by
      rcases List.mem_append.mp hv with e | e
      · exact l3k e
      · have e2 : v = .str y3 ∨ v = .str y4 := by simpa using e
        rcases e2 with e | e
        · exact ⟨_, e, j3⟩
        · exact ⟨_, e, j4⟩
    have hnl7 : (K5 ++ [V.str y3, .str y4]).length = 5 + 2 := by
      rw [List.length_append, hl3n]
      rfl
    have s14 : Same H13 (upd (upd H13 q1 (.lst [.str y3, .str y4])) l7 (.lst (K5 ++ [.str y3, .str y4]))) := nw (nw (Same.refl _) hq1) hl7
    have hzl7 : (upd (upd H13 q1 (.lst [.str y3, .str y4])) l7 (.lst (K5 ++ [.str y3, .str y4]))) l7 = some (.lst (K5 ++ [.str y3, .str y4])) := upd_same
    have npl7 : l7 ≠ p := (hp13.same (nw (Same.refl _) hq1)).ne hl7
    refine set_ ?_
    generalize upd (upd H13 q1 (.lst [.str y3, .str y4])) l7 (.lst (K5 ++ [.str y3, .str y4])) = H14 at s14 hzl7
    generalize K5 ++ [V.str y3, .str y4] = K7 at kl7 hnl7 hzl7
    clear l3k hl3n
    have l3k := @kl7
    have hl3n := hnl7
    have hl3_14 := hzl7
    have hl14 := s14 _ _ hl13
    have hp14 := hp13.same s14
    refine ⟨_, rfl, _, rfl, ?_⟩
    obtain ⟨va, hvm, hva⟩ := at_mem (xs := R.map V.str) a0 a1
    obtain ⟨ra, hram, rfl⟩ := List.mem_map.mp hvm
    have hra : OkS z.length ra := ⟨hR.sm ra hram, by have := wgt_mem hram; have := hR.wt; omega⟩
    obtain ⟨uA5, eA5, wA5, mA5⟩ := cut_map R none (some spot)
    obtain ⟨uB5, eB5, wB5, mB5⟩ := cut_map R (some spot) none
    have rw5 : Rws ((uA5 ++ [ra]) ++ uB5) (((z.length + 1) + (z.length + 1)) + (z.length + 1)) := Rws.app (Rws.app ⟨fun x h => hR.sm x (mA5 x h), Nat.le_trans wA5 hR.wt⟩ (Rws.one hra)) ⟨fun x h => hR.sm x (mB5 x h), Nat.le_trans wB5 hR.wt⟩
    refine ⟨⟨_, rfl⟩, _, rfl, _, rfl, _, rfl, lr, _, rfl, SqL.of hl14, fun q1 hq1 => ⟨_, rfl, _, rfl, lr, _, at_, _, rfl, rfl, SqL.of (new_at hl14 hq1), hva, (by show 1 ≤ sizeLine; decide), fun q2 hq2 => ⟨q1, q2, _, _, rfl, rfl, new_at upd_same hq2, upd_same, lenc1 _ _ _, fun q3 hq3 => ⟨_, rfl, _, rfl, _, rfl, lr, _, rfl, SqL.of (new_at (new_at (new_at hl14 hq1) hq2) hq3), fun q4 hq4 => ⟨q3, q4, _, _, rfl, rfl, new_at upd_same hq4, upd_same, lenc3 _ _ _ _ _, fun q5 hq5 => ⟨_, q5, (uA5 ++ [ra]) ++ uB5, rfl, rfl, .inl (SqL.of (by rw [upd_same, eA5, eB5, List.map_append, List.map_append]; rfl)), Nat.le_trans (rw5.sum (by omega)) (by decide), ?_⟩⟩⟩⟩⟩⟩
    have s15 : Same H14 (upd (upd (upd (upd (upd H14 q1 (.lst (cutV (R.map V.str) none (some spot)))) q2 (.lst [.str ra])) q3 (.lst (cutV (R.map V.str) none (some spot) ++ [.str ra]))) q4 (.lst (cutV (R.map V.str) (some spot) none))) q5 (.lst (cutV (R.map V.str) none (some spot) ++ [.str ra] ++ cutV (R.map V.str) (some spot) none))) := nw (nw (nw (nw (nw (Same.refl _) hq1) hq2) hq3) hq4) hq5
    generalize upd (upd (upd (upd (upd H14 q1 (.lst (cutV (R.map V.str) none (some spot)))) q2 (.lst [.str ra])) q3 (.lst (cutV (R.map V.str) none (some spot) ++ [.str ra]))) q4 (.lst (cutV (R.map V.str) (some spot) none))) q5 (.lst (cutV (R.map V.str) none (some spot) ++ [.str ra] ++ cutV (R.map V.str) (some spot) none)) = H15 at s15
    have hl15 := s15 _ _ hl14
    have hp15 := hp14.same s15
    have hl3_15 := s15 _ _ hl3_14
    have j5 : OkS (3 * z.length + 100) (Txt.join "\n" ((uA5 ++ [ra]) ++ uB5)) := rw5.join.mono (by omega)
    generalize Txt.join "\n" ((uA5 ++ [ra]) ++ uB5) = y5 at j5
    obtain ⟨uA6, eA6, wA6, mA6⟩ := cut_map R none (some at_)
    have rw6 : Rws uA6 (z.length + 1) := ⟨fun x h => hR.sm x (mA6 x h), Nat.le_trans wA6 hR.wt⟩
    refine ⟨⟨_, rfl⟩, _, rfl, _, rfl, _, rfl, lr, _, rfl, SqL.of hl15, fun q1 hq1 => ⟨_, q1, uA6, rfl, rfl, .inl (SqL.of (by rw [upd_same, eA6])), Nat.le_trans (rw6.sum (by omega)) (by decide), ?_⟩⟩
    have s16 : Same H15 (upd H15 q1 (.lst (cutV (R.map V.str) none (some at_)))) := nw (Same.refl _) hq1
    generalize upd H15 q1 (.lst (cutV (R.map V.str) none (some at_))) = H16 at s16
    have hl16 := s16 _ _ hl15
    have hp16 := hp15.same s16
    have hl3_16 := s16 _ _ hl3_15
    have j6 : OkS (3 * z.length + 100) (Txt.join "\n" uA6) := rw6.join.mono (by omega)
    generalize Txt.join "\n" uA6 = y6 at j6
    refine ⟨(by show 2 ≤ sizeLine; decide), fun q1 hq1 => ⟨l7, q1, _, _, rfl, rfl, new_at hl3_16 hq1, upd_same, (by rw [hl3n]; show 7 + 2 ≤ sizeLine; decide), fun l9 hl9 => ?_⟩⟩
    have kl9 : ∀ {v : V}, v ∈ K7 ++ [.str y5, .str y6] → ∃ y, v = .str y ∧ OkS (3 * z.length + 100) y := fun {v} hv => by
      rcases List.mem_append.mp hv with e | e
      · exact l3k e
      · have e2 : v = .str y5 ∨ v = .str y6 := by simpa using e
        rcases e2 with e | e
        · exact ⟨_, e, j5⟩
        · exact ⟨_, e, j6⟩
    have hnl9 : (K7 ++ [V.str y5, .str y6]).length = 7 + 2 := by
      rw [List.length_append, hl3n]
      rfl
    have s17 : Same H16 (upd (upd H16 q1 (.lst [.str y5, .str y6])) l9 (.lst (K7 ++ [.str y5, .str y6]))) := nw (nw (Same.refl _) hq1) hl9
    have hzl9 : (upd (upd H16 q1 (.lst [.str y5, .str y6])) l9 (.lst (K7 ++ [.str y5, .str y6]))) l9 = some (.lst (K7 ++ [.str y5, .str y6])) := upd_same
    have npl9 : l9 ≠ p := (hp16.same (nw (Same.refl _) hq1)).ne hl9
    generalize upd (upd H16 q1 (.lst [.str y5, .str y6])) l9 (.lst (K7 ++ [.str y5, .str y6])) = H17 at s17 hzl9
    generalize K7 ++ [V.str y5, .str y6] = K9 at kl9 hnl9 hzl9
    clear l3k hl3n
    have l3k := @kl9
    have hl3n := hnl9
    have hl3_17 := hzl9
    have hl17 := s17 _ _ hl16
    have hp17 := hp16.same s17
    have same17 : Same H8 H17 := (s9.trans (s10.trans (s11.trans (s12.trans (s13.trans (s14.trans (s15.trans (s16.trans s17))))))))
    refine ⟨p, _, hp17, by omega, .inl ⟨l9, K9, rfl, SqL.of hl3_17, npl9, ?_, ?_, fun H18 v f18 hp18 hv => ?_⟩⟩
    · intro e
      rw [e] at hl3n
      cases hl3n
    · rw [hl3n]
      decide
    · obtain ⟨y, rfl, hy⟩ := l3k hv
      exact q H18 y (f8.trans (Frm.trans (p := p) (H := H8) (H1 := H17) (fun b o _ e => same17 b o e) f18)) (hp18.mono (by omega)) hy
end
end Sk
/-! K93ZH: values that are no pages. -/
namespace Sk
open PySem PySem.Spec PyProof.Rows L2
/-- the heap without what stands at p -/
def hid (p : Addr) (H : Hp) : Hp := fun a => if a = p then none else H a
theorem hid_at {p a : Addr} {H : Hp} {o : HO} (h : H a = some o) (n : a ≠ p) : hid p H a = some o := by
  unfold hid
  rw [if_neg n]
  exact h
theorem hid_frm {p : Addr} {H H' : Hp} (f : Frm p H H') : L2.Same (hid p H) (hid p H') := fun b o e => by
  unfold hid at *
  by_cases h : b = p
  · rw [if_pos h] at e
    cases e
  · rw [if_neg h] at e ⊢
    exact f b o h e
theorem hid_same {p : Addr} {H : Hp} : L2.Same (hid p H) H := fun b o e => by
  unfold hid at e
  by_cases h : b = p
  · rw [if_pos h] at e
    cases e
  · rw [if_neg h] at e
    exact e
theorem t1_small : SmallS ("a" : Str) ∧ SmallS ("file" : Str) ∧ SmallS ("file a 0" : Str) ∧ SmallS ("\n" : Str) ∧ SmallS ("file a" : Str) ∧ SmallS ("" : Str) := by
  unfold SmallS
  decide +kernel
section
variable {P : Program} {w : World} {K : PySem.W.Frag} {mg : Str → Option Value} {base : Heap}
/-- a value of data, n steps deep at most -/
def Vls (K : PySem.W.Frag) (H : Hp) (v : V) (n : Nat) : Prop := ∃ d, Dr K H v d ∧ d.leavesShort 13 = true ∧ d.bulk ≤ 100 + 10 * n ∧ d.showable = true ∧ d.depth ≤ 2 + n ∧ ((∃ z : Str, v = .str z ∧ SmallS z ∧ z.length ≤ 100) ∨ ∃ t, TyX K H v t ∧ PySem.W.kitOne K t (.type "str") = some false)
theorem Vls.same {H H' : Hp} {v : V} {n : Nat} (h : Vls K H v n) (s : L2.Same H H') : Vls K H' v n := by
  obtain ⟨d, a, b, c, e, f, g⟩ := h
  refine ⟨d, Dr.keep s d v a, b, c, e, f, ?_⟩
  rcases g with g | ⟨t, g1, g2⟩
  · exact .inl g
  · exact .inr ⟨t, TyX_same s g1, g2⟩
theorem Vls.tup {H : Hp} {v : V} {n : Nat} {a : Addr} (h : Vls K H v n) (ha : H a = some (.tup [v])) : Vls K H (.ref a) (n + 1) := by
  obtain ⟨d, e1, e2, e3, e4, e5, _⟩ := h
  refine ⟨.tuple [d], .tup (SqT.of ha) (.cons e1 .nil), by simp [PyData.leavesShort, PyData.leavesShortAll, e2], by simp only [PyData.bulk, PyData.bulkAll]; omega, by simp [PyData.showable, PyData.showableAll, e4], by simp only [PyData.depth, PyData.depthAll]; omega, .inr ⟨.type "tuple", .base (.tup ha), by kernel_rfl⟩⟩
theorem Vls.lst {H : Hp} {v : V} {n : Nat} {a : Addr} (h : Vls K H v n) (ha : H a = some (.lst [v])) : Vls K H (.ref a) (n + 1) := by
  obtain ⟨d, e1, e2, e3, e4, e5, _⟩ := h
  refine ⟨.list [d], .lst ha (.cons e1 .nil), by simp [PyData.leavesShort, PyData.leavesShortAll, e2], by simp only [PyData.bulk, PyData.bulkAll]; omega, by simp [PyData.showable, PyData.showableAll, e4], by simp only [PyData.depth, PyData.depthAll]; omega, .inr ⟨.type "list", .base (.lst ha), by kernel_rfl⟩⟩
theorem Vls.dct {H : Hp} {v : V} {n : Nat} {a : Addr} (h : Vls K H v n) (ha : H a = some (.dK [(.inr "a", v)])) : Vls K H (.ref a) (n + 1) := by
  obtain ⟨d, e1, e2, e3, e4, e5, _⟩ := h
  have z := small_short t1_small.1
  have l : ("a" : Str).cps.size = 1 := by decide +kernel
  refine ⟨.dict [(.str "a", d)], .dct ha (.cons e1 .nil), ?_, ?_, ?_, ?_, .inr ⟨.type "dict", .base (.dK ha), by kernel_rfl⟩⟩
  · simp only [PyData.leavesShort, PyData.leavesShortKv] at *
    simp [z, e2]
  · simp only [PyData.bulk, PyData.bulkKv, l]
    omega
  · simp [PyData.showable, PyData.showableKv, e4]
  · simp only [PyData.depth, PyData.depthKv]
    omega
theorem Vls.str {H : Hp} {z : Str} (h : SmallS z) (l : z.length ≤ 50) : Vls K H (.str z) 0 := by
  have q := small_short h
  have l2 : z.cps.size ≤ 50 := l
  exact ⟨.str z, .str z, q, by simp only [PyData.bulk]; omega, by simp [PyData.showable], by simp [PyData.depth], .inl ⟨z, rfl, h, by omega⟩⟩
theorem Vls.mono {H : Hp} {v : V} {n m : Nat} (h : Vls K H v n) (l : n ≤ m) : Vls K H v m := by
  obtain ⟨d, e1, e2, e3, e4, e5, e6⟩ := h
  exact ⟨d, e1, e2, by omega, e4, by omega, e6⟩
theorem Vls.askd {H : Hp} {v : V} {n : Nat} (h : Vls K H v n) (l : n ≤ 20) : Askd K H v := by
  obtain ⟨d, e1, e2, e3, e4, e5, e6⟩ := h
  rcases e6 with ⟨z, a, b, c⟩ | t
  · exact .inl ⟨z, a, b, by omega⟩
  · exact .inr ⟨d, e1, ⟨e2, Nat.le_trans e3 (Nat.le_trans (show 100 + 10 * n ≤ 1000 by omega) (by decide)), e4, by omega⟩, t⟩
theorem Vls.int {H : Hp} (i : Int) (h : i.natAbs < 100) : Vls K H (.int i) 0 := by
  have h2 : i.natAbs < 10 ^ 10 := Nat.lt_trans h (by decide)
  exact ⟨.int i, .int i, int_short h2, by simp [PyData.bulk], int_able h2, by simp [PyData.depth], .inr ⟨.type "int", .base (.int i), by kernel_rfl⟩⟩
def spValue (K : PySem.W.Frag) : Sp := fun vs H Q _ => ∃ (p : Addr) (n : Int), vs = [.ref p] ∧ PotAt H p n ∧ n < 900000 ∧ ∀ (H' : Hp) (v : V), Frm p H H' → PotAt H' p (n + 11) → Askd K H' v → Q v H'
abbrev N_law_value : List Str := ["_law_pot_here", "_law_some", "_law_found", "_law_turn"]
theorem sc_law_value : FnScope N_law_value ["_law_pot_here"] (defScope s_law_value) := ⟨rfl, rfl, rfl, by decide +kernel, rfl, by decide +kernel, by decide +kernel⟩
theorem ok_law_value (T : Wt K mg) : Def P w K mg base 3 d_law_value ["_law_pot_here"] (spValue K) := by
  have D_law_any := ok_law_any (P := P) (w := w) (base := base) T
  refine mk_def (F_law_value T) rfl sc_law_value (fun vs H Q E h => ?_) (fun _ _ _ _ _ _ us hl => match us, hl with | [_], _ => rfl) (fun cdv A outer s H vs Q E hr h => ?_)
  · obtain ⟨p, n, rfl, _⟩ := h
    rfl
  · have sc := sc_law_value
    obtain ⟨p, n, rfl, hp, hn, q⟩ := h
    refine ⟨_, (pss_cons (ps_set (i := 1) sc.nd rfl (Or.inl rfl) (pe_lst (pa_cons pe_non (pa_cons pe_bl (pa_cons pe_int (pa_cons pe_int (pa_cons (pe_un un_neg pe_int) (pa_cons (pe_tup pa_nil) (pa_cons (pe_lst pa_nil) (pa_cons pe_dnewK (pa_cons (pe_tup (pa_cons pe_str pa_nil)) (pa_cons (pe_lst (pa_cons pe_str pa_nil)) (pa_cons (pe_disp (pps_cons pe_str pe_str pps_nil) (by rfl) (by rfl) (fun z => by cases z) (by decide)) (pa_cons pe_str (pa_cons pe_str (pa_cons pe_str (pa_cons pe_str pa_nil)))))))))))))))))
      (pss_cons (ps_set (i := 2) sc.nd rfl (Or.inl rfl) (pcall D_law_any (hr.mono (by decide)) (by rfl) (g_law_any T) passL (pa_cons (pv 0) (pa_cons (pv 1) pa_nil))))
      (pss_cons (ps_for PassesOwn.never rfl (pi_range1 (by rfl) (z_range T) (pa_cons (pcall D_law_any (hr.mono (by decide)) (by rfl) (g_law_any T) passL (pa_cons (pv 0) (pa_cons (pe_lst (pa_cons pe_int (pa_cons pe_int (pa_cons pe_int (pa_cons pe_int pa_nil))))) pa_nil))) pa_nil)) (pg_name (i := 3) sc.nd rfl (Or.inl rfl))
        (pss_one (ps_set (i := 2) sc.nd rfl (Or.inl rfl) (pcall D_law_any (hr.mono (by decide)) (by rfl) (g_law_any T) passL (pa_cons (pv 0) (pa_cons (pe_lst (pa_cons (pe_tup (pa_cons (pv 2) pa_nil)) (pa_cons (pe_lst (pa_cons (pv 2) pa_nil)) (pa_cons (pe_disp (pps_cons pe_str (pv 2) pps_nil) (by rfl) (by rfl) (fun z => by cases z) (by decide)) pa_nil)))) pa_nil))))))
      (pss_one (ps_ret (pv 2)))))), ?_⟩
    have z0 : (0 : Nat) ≤ sizeLine := by decide
    have z1 : (1 : Nat) ≤ sizeLine := by decide
    refine ⟨1, rfl, z0, fun e1 h1 => ?_⟩
    have f0 : Frm p H H := Frm.refl _ _
    have hp0 := hp
    have n1 := hp0.ne h1
    have hp1 := hp0.upd (o := .tup []) n1
    have f1 : Frm p H (upd H e1 (.tup [])) := f0.trans (Frm.new h1)
    have a1 : (upd H e1 (.tup [])) e1 = some (.tup []) := upd_same
    generalize upd H e1 (.tup []) = H1 at hp1 f1 a1
    refine ⟨z0, fun e2 h2 => ?_⟩
    have n2 := hp1.ne h2
    have hp2 := hp1.upd (o := .lst []) n2
    have f2 : Frm p H (upd H1 e2 (.lst [])) := f1.trans (Frm.new h2)
    have a2 : (upd H1 e2 (.lst [])) e2 = some (.lst []) := upd_same
    have a1 : (upd H1 e2 (.lst [])) e1 = some (.tup []) := new_at a1 h2
    generalize upd H1 e2 (.lst []) = H2 at hp2 f2 a1 a2
    refine fun e3 h3 => ?_
    have n3 := hp2.ne h3
    have hp3 := hp2.upd (o := .dK []) n3
    have f3 : Frm p H (upd H2 e3 (.dK [])) := f2.trans (Frm.new h3)
    have a3 : (upd H2 e3 (.dK [])) e3 = some (.dK []) := upd_same
    have a1 : (upd H2 e3 (.dK [])) e1 = some (.tup []) := new_at a1 h3
    have a2 : (upd H2 e3 (.dK [])) e2 = some (.lst []) := new_at a2 h3
    generalize upd H2 e3 (.dK []) = H3 at hp3 f3 a1 a2 a3
    refine ⟨z1, fun e4 h4 => ?_⟩
    have n4 := hp3.ne h4
    have hp4 := hp3.upd (o := .tup [.str "file a 0"]) n4
    have f4 : Frm p H (upd H3 e4 (.tup [.str "file a 0"])) := f3.trans (Frm.new h4)
    have a4 : (upd H3 e4 (.tup [.str "file a 0"])) e4 = some (.tup [.str "file a 0"]) := upd_same
    have a1 : (upd H3 e4 (.tup [.str "file a 0"])) e1 = some (.tup []) := new_at a1 h4
    have a2 : (upd H3 e4 (.tup [.str "file a 0"])) e2 = some (.lst []) := new_at a2 h4
    have a3 : (upd H3 e4 (.tup [.str "file a 0"])) e3 = some (.dK []) := new_at a3 h4
    generalize upd H3 e4 (.tup [.str "file a 0"]) = H4 at hp4 f4 a1 a2 a3 a4
    refine ⟨z1, fun e5 h5 => ?_⟩
    have n5 := hp4.ne h5
    have hp5 := hp4.upd (o := .lst [.str "file a 0"]) n5
    have f5 : Frm p H (upd H4 e5 (.lst [.str "file a 0"])) := f4.trans (Frm.new h5)
    have a5 : (upd H4 e5 (.lst [.str "file a 0"])) e5 = some (.lst [.str "file a 0"]) := upd_same
    have a1 : (upd H4 e5 (.lst [.str "file a 0"])) e1 = some (.tup []) := new_at a1 h5
    have a2 : (upd H4 e5 (.lst [.str "file a 0"])) e2 = some (.lst []) := new_at a2 h5
    have a3 : (upd H4 e5 (.lst [.str "file a 0"])) e3 = some (.dK []) := new_at a3 h5
    have a4 : (upd H4 e5 (.lst [.str "file a 0"])) e4 = some (.tup [.str "file a 0"]) := new_at a4 h5
    generalize upd H4 e5 (.lst [.str "file a 0"]) = H5 at hp5 f5 a1 a2 a3 a4 a5
    refine fun e6 h6 => ⟨upd_same, [(.inr "file", .str "a")], rfl, (by show 1 ≤ 15; decide), ?_⟩
    have n6 := hp5.ne h6
    have hp6 := (hp5.upd (o := .dK []) n6).upd (o := .dK (mergeK [] [(.inr "file", .str "a")])) n6
    have f6 : Frm p H (upd (upd H5 e6 (.dK [])) e6 (.dK (mergeK [] [(.inr "file", .str "a")]))) := fun b o hb e => by
      rw [upd_ne (ne_of_none (f5 b o hb e) h6), upd_ne (ne_of_none (f5 b o hb e) h6)]
      exact f5 b o hb e
    have a6 : (upd (upd H5 e6 (.dK [])) e6 (.dK (mergeK [] [(.inr "file", .str "a")]))) e6 = some (.dK [(.inr "file", .str "a")]) := by
      rw [upd_same]
      rfl
    have a1 : (upd (upd H5 e6 (.dK [])) e6 (.dK (mergeK [] [(.inr "file", .str "a")]))) e1 = some (.tup []) := by
      rw [upd_ne (ne_of_none a1 h6), upd_ne (ne_of_none a1 h6)]
      exact a1
    have a2 : (upd (upd H5 e6 (.dK [])) e6 (.dK (mergeK [] [(.inr "file", .str "a")]))) e2 = some (.lst []) := by
      rw [upd_ne (ne_of_none a2 h6), upd_ne (ne_of_none a2 h6)]
      exact a2
    have a3 : (upd (upd H5 e6 (.dK [])) e6 (.dK (mergeK [] [(.inr "file", .str "a")]))) e3 = some (.dK []) := by
      rw [upd_ne (ne_of_none a3 h6), upd_ne (ne_of_none a3 h6)]
      exact a3
    have a4 : (upd (upd H5 e6 (.dK [])) e6 (.dK (mergeK [] [(.inr "file", .str "a")]))) e4 = some (.tup [.str "file a 0"]) := by
      rw [upd_ne (ne_of_none a4 h6), upd_ne (ne_of_none a4 h6)]
      exact a4
    have a5 : (upd (upd H5 e6 (.dK [])) e6 (.dK (mergeK [] [(.inr "file", .str "a")]))) e5 = some (.lst [.str "file a 0"]) := by
      rw [upd_ne (ne_of_none a5 h6), upd_ne (ne_of_none a5 h6)]
      exact a5
    generalize upd (upd H5 e6 (.dK [])) e6 (.dK (mergeK [] [(.inr "file", .str "a")])) = H6 at hp6 f6 a1 a2 a3 a4 a5 a6
    refine ⟨(by show 15 ≤ sizeLine; decide), fun lo hlo => set_ ?_⟩
    have nlo := hp6.ne hlo
    have hp7 := hp6.upd (o := .lst [.non, .bl true, .int 0, .int 7, .int (-1), .ref e1, .ref e2, .ref e3, .ref e4, .ref e5, .ref e6, .str "\n", .str "file", .str "file a", .str ""]) nlo
    have f7 : Frm p H (upd H6 lo (.lst [.non, .bl true, .int 0, .int 7, .int (-1), .ref e1, .ref e2, .ref e3, .ref e4, .ref e5, .ref e6, .str "\n", .str "file", .str "file a", .str ""])) := f6.trans (Frm.new hlo)
    have hl7 : (upd H6 lo (.lst [.non, .bl true, .int 0, .int 7, .int (-1), .ref e1, .ref e2, .ref e3, .ref e4, .ref e5, .ref e6, .str "\n", .str "file", .str "file a", .str ""])) lo = some (.lst [.non, .bl true, .int 0, .int 7, .int (-1), .ref e1, .ref e2, .ref e3, .ref e4, .ref e5, .ref e6, .str "\n", .str "file", .str "file a", .str ""]) := upd_same
    have a1 := hid_at (show (upd H6 lo (.lst [.non, .bl true, .int 0, .int 7, .int (-1), .ref e1, .ref e2, .ref e3, .ref e4, .ref e5, .ref e6, .str "\n", .str "file", .str "file a", .str ""])) e1 = some (.tup []) from new_at a1 hlo) n1
    have a2 := hid_at (show (upd H6 lo (.lst [.non, .bl true, .int 0, .int 7, .int (-1), .ref e1, .ref e2, .ref e3, .ref e4, .ref e5, .ref e6, .str "\n", .str "file", .str "file a", .str ""])) e2 = some (.lst []) from new_at a2 hlo) n2
    have a3 := hid_at (show (upd H6 lo (.lst [.non, .bl true, .int 0, .int 7, .int (-1), .ref e1, .ref e2, .ref e3, .ref e4, .ref e5, .ref e6, .str "\n", .str "file", .str "file a", .str ""])) e3 = some (.dK []) from new_at a3 hlo) n3
    have a4 := hid_at (show (upd H6 lo (.lst [.non, .bl true, .int 0, .int 7, .int (-1), .ref e1, .ref e2, .ref e3, .ref e4, .ref e5, .ref e6, .str "\n", .str "file", .str "file a", .str ""])) e4 = some (.tup [.str "file a 0"]) from new_at a4 hlo) n4
    have a5 := hid_at (show (upd H6 lo (.lst [.non, .bl true, .int 0, .int 7, .int (-1), .ref e1, .ref e2, .ref e3, .ref e4, .ref e5, .ref e6, .str "\n", .str "file", .str "file a", .str ""])) e5 = some (.lst [.str "file a 0"]) from new_at a5 hlo) n5
    have a6 := hid_at (show (upd H6 lo (.lst [.non, .bl true, .int 0, .int 7, .int (-1), .ref e1, .ref e2, .ref e3, .ref e4, .ref e5, .ref e6, .str "\n", .str "file", .str "file a", .str ""])) e6 = some (.dK [(.inr "file", .str "a")]) from new_at a6 hlo) n6
    show tSeq _ _ _ _ (upd H6 lo (.lst [.non, .bl true, .int 0, .int 7, .int (-1), .ref e1, .ref e2, .ref e3, .ref e4, .ref e5, .ref e6, .str "\n", .str "file", .str "file a", .str ""]))
    generalize upd H6 lo (.lst [.non, .bl true, .int 0, .int 7, .int (-1), .ref e1, .ref e2, .ref e3, .ref e4, .ref e5, .ref e6, .str "\n", .str "file", .str "file a", .str ""]) = H7 at hp7 f7 hl7 a1 a2 a3 a4 a5 a6
    obtain ⟨y1, y2, y3, y4, y5, y6⟩ := t1_small
    have sz : ("file a 0" : Str).cps.size = 8 ∧ ("file" : Str).cps.size = 4 ∧ ("a" : Str).cps.size = 1 := by decide +kernel
    have vls : ∀ v ∈ ([.non, .bl true, .int 0, .int 7, .int (-1), .ref e1, .ref e2, .ref e3, .ref e4, .ref e5, .ref e6, .str "\n", .str "file", .str "file a", .str ""] : List V), Vls K (hid p H7) v 0 := fun v hv => by
      have h15 : v = .non ∨ v = .bl true ∨ v = .int 0 ∨ v = .int 7 ∨ v = .int (-1) ∨ v = .ref e1 ∨ v = .ref e2 ∨ v = .ref e3 ∨ v = .ref e4 ∨ v = .ref e5 ∨ v = .ref e6 ∨ v = .str "\n" ∨ v = .str "file" ∨ v = .str "file a" ∨ v = .str "" := by simpa using hv
      rcases h15 with e | e | e | e | e | e | e | e | e | e | e | e | e | e | e <;> rw [e]
      · exact ⟨.none, .non, by simp [PyData.leavesShort], by simp [PyData.bulk], by simp [PyData.showable], by simp [PyData.depth], .inr ⟨.type "NoneType", .base .non, by kernel_rfl⟩⟩
      · exact ⟨.bool true, .bl true, by simp [PyData.leavesShort], by simp [PyData.bulk], by simp [PyData.showable], by simp [PyData.depth], .inr ⟨.type "bool", .base (.bl true), by kernel_rfl⟩⟩
      · exact Vls.int 0 (by decide)
      · exact Vls.int 7 (by decide)
      · exact Vls.int (-1) (by decide)
      · exact ⟨.tuple [], .tup (SqT.of a1) .nil, by simp [PyData.leavesShort, PyData.leavesShortAll], by simp [PyData.bulk, PyData.bulkAll], by simp [PyData.showable, PyData.showableAll], by simp [PyData.depth, PyData.depthAll], .inr ⟨.type "tuple", .base (.tup a1), by kernel_rfl⟩⟩
      · exact ⟨.list [], .lst a2 .nil, by simp [PyData.leavesShort, PyData.leavesShortAll], by simp [PyData.bulk, PyData.bulkAll], by simp [PyData.showable, PyData.showableAll], by simp [PyData.depth, PyData.depthAll], .inr ⟨.type "list", .base (.lst a2), by kernel_rfl⟩⟩
      · exact ⟨.dict [], .dct a3 .nil, by simp [PyData.leavesShort, PyData.leavesShortKv], by simp [PyData.bulk, PyData.bulkKv], by simp [PyData.showable, PyData.showableKv], by simp [PyData.depth, PyData.depthKv], .inr ⟨.type "dict", .base (.dK a3), by kernel_rfl⟩⟩
      · exact ⟨.tuple [.str "file a 0"], .tup (SqT.of a4) (.cons (.str _) .nil), by simpa [PyData.leavesShort, PyData.leavesShortAll] using small_short y3, by simp [PyData.bulk, PyData.bulkAll, sz.1], by simp [PyData.showable, PyData.showableAll], by simp [PyData.depth, PyData.depthAll], .inr ⟨.type "tuple", .base (.tup a4), by kernel_rfl⟩⟩
      · exact ⟨.list [.str "file a 0"], .lst a5 (.cons (.str _) .nil), by simpa [PyData.leavesShort, PyData.leavesShortAll] using small_short y3, by simp [PyData.bulk, PyData.bulkAll, sz.1], by simp [PyData.showable, PyData.showableAll], by simp [PyData.depth, PyData.depthAll], .inr ⟨.type "list", .base (.lst a5), by kernel_rfl⟩⟩
      · refine ⟨.dict [(.str "file", .str "a")], .dct a6 (.cons (.str _) .nil), ?_, by simp [PyData.bulk, PyData.bulkKv, sz.2.1, sz.2.2], by simp [PyData.showable, PyData.showableKv], by simp [PyData.depth, PyData.depthKv], .inr ⟨.type "dict", .base (.dK a6), by kernel_rfl⟩⟩
        have q1 := small_short y1
        have q2 := small_short y2
        simp only [PyData.leavesShort, PyData.leavesShortKv] at *
        simp [q1, q2]
      · exact Vls.str y4 (by decide +kernel)
      · exact Vls.str y2 (by decide +kernel)
      · exact Vls.str y5 (by decide +kernel)
      · exact Vls.str y6 (by decide +kernel)
    refine ⟨_, rfl, _, rfl, p, n, hp7, by omega, .inl ⟨lo, _, rfl, SqL.of hl7, nlo, by simp, by simp, fun H8 v f8 hp8 hv => set_ ?_⟩⟩
    have v8 : Vls K (hid p H8) v 0 := (vls v hv).same (hid_frm f8)
    refine ⟨_, rfl, (by show 4 ≤ sizeLine; decide), fun l2 hl2 => ⟨p, n + 1, hp8.upd (hp8.ne hl2), by omega, .inl ⟨l2, _, rfl, SqL.of upd_same, hp8.ne hl2, by simp, by simp, fun H9 k f9 hp9 hk => ?_⟩⟩⟩
    have f89 : Frm p H8 H9 := (Frm.new hl2).trans f9
    have f09 : Frm p H H9 := (f7.trans f8).trans f89
    have v9 : Vls K (hid p H9) v 0 := v8.same (hid_frm f89)
    obtain ⟨j, rfl, hj⟩ : ∃ j : Nat, k = .int (j : Int) ∧ j ≤ 9 := by
      have h4 : k = .int 0 ∨ k = .int 1 ∨ k = .int 9 := by simpa using hk
      rcases h4 with e | e | e
      · exact ⟨0, e, by omega⟩
      · exact ⟨1, e, by omega⟩
      · exact ⟨9, e, by omega⟩
    refine ⟨(j : Int), rfl, by omega, by omega, ?_⟩
    refine for_it (walk_range (lo := 0) (n := (j : Int).toNat)) (fun i σ H' => ∃ v a, σ = [some (.ref p), some (.ref lo), some v, a] ∧ Frm p H H' ∧ PotAt H' p (n + 2 + (i : Int)) ∧ Vls K (hid p H') v i) ⟨v, none, rfl, f09, hp9.mono (by omega), v9⟩ (fun _ _ _ _ _ => trivial) (fun i x σ H10 H11 hi ⟨u, a, eσ, f10, hp10, v10⟩ hy => ?_) (fun σ H10 ⟨u, a, eσ, f10, hp10, v10⟩ => ?_)
    · obtain ⟨rfl, rfl⟩ := hy
      subst eσ
      refine ⟨_, rfl, _, rfl, z1, fun g1 hg1 => ⟨_, rfl, z1, fun g2 hg2 => fun g3 hg3 => ⟨_, rfl, upd_same, [(.inr "a", u)], rfl, (by show 1 ≤ 15; decide), (by show 3 ≤ sizeLine; decide), fun l3 hl3 => ?_⟩⟩⟩
      have m1 := hp10.ne hg1
      have q1 := hp10.upd (o := .tup [u]) m1
      have m2 := q1.ne hg2
      have q2 := q1.upd (o := .lst [u]) m2
      have m3 := q2.ne hg3
      have q3 := (q2.upd (o := .dK []) m3).upd (o := .dK (mergeK [] [(.inr "a", u)])) m3
      have b1 : (upd (upd H11 g1 (.tup [u])) g2 (.lst [u])) g1 = some (.tup [u]) := new_at upd_same hg2
      have b2 : (upd (upd H11 g1 (.tup [u])) g2 (.lst [u])) g2 = some (.lst [u]) := upd_same
      have s3 : Same H11 (upd (upd (upd (upd H11 g1 (.tup [u])) g2 (.lst [u])) g3 (.dK [])) g3 (.dK (mergeK [] [(.inr "a", u)]))) := fun b o e => by
        have z := nw (nw (Same.refl H11) hg1 (o := .tup [u])) hg2 (o := .lst [u]) b o e
        rw [upd_ne (ne_of_none z hg3), upd_ne (ne_of_none z hg3)]
        exact z
      have c1 : (upd (upd (upd (upd H11 g1 (.tup [u])) g2 (.lst [u])) g3 (.dK [])) g3 (.dK (mergeK [] [(.inr "a", u)]))) g1 = some (.tup [u]) := by
        rw [upd_ne (ne_of_none b1 hg3), upd_ne (ne_of_none b1 hg3)]
        exact b1
      have c2 : (upd (upd (upd (upd H11 g1 (.tup [u])) g2 (.lst [u])) g3 (.dK [])) g3 (.dK (mergeK [] [(.inr "a", u)]))) g2 = some (.lst [u]) := by
        rw [upd_ne (ne_of_none b2 hg3), upd_ne (ne_of_none b2 hg3)]
        exact b2
      have c3 : (upd (upd (upd (upd H11 g1 (.tup [u])) g2 (.lst [u])) g3 (.dK [])) g3 (.dK (mergeK [] [(.inr "a", u)]))) g3 = some (.dK [(.inr "a", u)]) := by
        rw [upd_same]
        rfl
      generalize upd (upd (upd (upd H11 g1 (.tup [u])) g2 (.lst [u])) g3 (.dK [])) g3 (.dK (mergeK [] [(.inr "a", u)])) = H12 at q3 s3 c1 c2 c3 hl3
      have m4 := q3.ne hl3
      have q4 := q3.upd (o := .lst [.ref g1, .ref g2, .ref g3]) m4
      have s4 : Same H11 (upd H12 l3 (.lst [.ref g1, .ref g2, .ref g3])) := nw s3 hl3
      have d1 : (upd H12 l3 (.lst [.ref g1, .ref g2, .ref g3])) g1 = some (.tup [u]) := new_at c1 hl3
      have d2 : (upd H12 l3 (.lst [.ref g1, .ref g2, .ref g3])) g2 = some (.lst [u]) := new_at c2 hl3
      have d3 : (upd H12 l3 (.lst [.ref g1, .ref g2, .ref g3])) g3 = some (.dK [(.inr "a", u)]) := new_at c3 hl3
      refine ⟨p, _, q4, by omega, .inl ⟨l3, _, rfl, SqL.of upd_same, m4, by simp, by simp, fun H13 x f13 hp13 hx => ?_⟩⟩
      have f4 : Frm p H11 (upd H12 l3 (.lst [.ref g1, .ref g2, .ref g3])) := fun b o _ e => s4 b o e
      have v13 : Vls K (hid p H13) u i := v10.same (hid_frm (f4.trans f13))
      have k1 := (hid_frm f13) _ _ (hid_at d1 m1)
      have k2 := (hid_frm f13) _ _ (hid_at d2 m2)
      have k3 := (hid_frm f13) _ _ (hid_at d3 m3)
      refine ⟨x, _, rfl, f10.trans (f4.trans f13), hp13.mono (by omega), ?_⟩
      have h3 : x = .ref g1 ∨ x = .ref g2 ∨ x = .ref g3 := by simpa using hx
      rcases h3 with e | e | e <;> rw [e]
      · exact v13.tup k1
      · exact v13.lst k2
      · exact v13.dct k3
    · subst eσ
      have e : (j : Int).toNat = j := by omega
      rw [e] at hp10 v10
      exact ⟨_, rfl, q H10 u f10 (hp10.mono (by omega)) ((v10.same hid_same).askd (by omega))⟩
end
end Sk
/-! K93ZI: what a refusal tells. -/
namespace Sk
open PySem PySem.Spec PyProof.Rows L2
theorem Takes.len {X : Cx} {W : WX} (t : Takes X W) : Takes X (fun cls d σ H => σ.length = X.N.length → W cls d σ H) := fun u s' ⟨a, B, sI, pins, σ, H, cls, d, e, I, nb, up, sky, na, os, ag, w⟩ =>
  t u s' ⟨a, B, sI, pins, σ, H, cls, d, e, I, nb, up, sky, na, os, ag, w I.len⟩
/-- what is wished of the error that the lambda lets out -/
def eRef (K : PySem.W.Frag) (Q : VK) : XK := fun cls d H' => ∃ dd v, d = some dd ∧ H' dd = some (.xd [("value", v)]) ∧ ((cls = .ref (He.ga K "NoBranch") ∧ ∀ H2 p, L2.Same H' H2 → H2 p = some (.lst [.int 1, v]) → Q (.ref p) H2) ∨ (cls = .ref (He.ga K "NoVersion") ∧ ∀ H2 p, L2.Same H' H2 → H2 p = some (.lst [.int 2, v]) → Q (.ref p) H2))
/-- refused: what it makes of the lambda that it calls: the error's number and its value -/
def TTref (K : PySem.W.Frag) : (XK → Hp → VK → Prop) → Hp → VK → Prop := fun tl H Q => ∀ Qn : VK, tl (eRef K Q) H Qn
theorem len4 {α : Type} {l : List α} (h : l.length = 4) : ∃ a b c d, l = [a, b, c, d] := by
  match l, h with
  | [a, b, c, d], _ => exact ⟨a, b, c, d, rfl⟩
abbrev N_law_refused : List Str := ["_law_ask", "_law_caught", "error", "_law_told"]
theorem sc_law_refused : FnScope N_law_refused ["_law_ask"] (defScope s_law_refused) := ⟨rfl, rfl, rfl, by decide +kernel, rfl, by decide +kernel, by decide +kernel⟩
theorem refused_gives {X : Cx} (G : PgOk X.prog) (T : Wt X.K X.mg) {g : Addr} {cdg : Value} {q : Str} {k : Nat} :
    LamX.GivesTo X N_law_refused "_law_refused" (defScope s_law_refused) g cdg (defBody s_law_refused) "_law_ask" q (TTref X.K) := by
  intro f c' s H Q tl act hco h
  have sc := sc_law_refused
  let Z := cxOf C8.CX0 X.prog X.w X.K X.mg X.base N_law_refused "_law_refused" (defScope s_law_refused) g cdg X.A X.stack s H C8.E0
  have ask : ∀ (W : WX) (pn : List (Addr × Obj)) (xe : Value → Shared → Prop), Takes (Z.nox.tr pn xe) W → ∀ {p1 p2 : Pos}, PE (Z.nox.tr pn xe) (.Call (.Name "_law_ask" p1) [] [] p2)
      (fun σ HZ Q => ∃ Ech : XK, (∀ cls d σ' H', σ'.length = 4 → Ech cls d H' → W cls d σ' H') ∧ σ[0]? = some (some (.ref f)) ∧ HZ c' = some (LamX.CodeO c' q) ∧ tl Ech HZ Q) := by
    intro W pn xe tk p1 p2
    refine ⟨fun pins s' σ HZ Q I h' => ?_⟩
    obtain ⟨Ech, hW, h1, h2, h3⟩ := h'
    have hp := act (fun cls d σ H => σ.length = (Z.nox.tr pn xe).N.length → W cls d σ H) pn xe Ech p1 p2 (Takes.len tk) (fun cls d σ' H' e hl => hW cls d σ' H' hl e)
    exact hp.run pins s' σ HZ Q I ⟨h1, h2, h3⟩
  refine ⟨_, (pss_cons (ps_set (i := 1) sc.nd rfl (Or.inl rfl) pe_non)
    (pss_cons (ps_try_keep (i := 2) (j := 1) rfl rfl rfl sc.nd rfl rfl rfl rfl ⟨by rfl, by decide, .inl (g_SiftError T)⟩ (fun W pn xe tk _ =>
      (pss_one (ps_set (i := 3) sc.nd rfl (Or.inl rfl) (ask W pn xe tk)))) (by decide) (by decide))
    (pss_cons (ps_if (PW.pt (pw_and (pt_val (pe_callB call_isK (by rfl) (z_isinstance T) (by decide +kernel) (pa_cons (pv 1) (pa_cons (pe_glob (v := .ref (He.ga X.K "NoBranch")) (by rfl) (g_NoBranch T) rfl) pa_nil)))) (pw_and1 (pt_not (pt_val (pe_callB call_isK (by rfl) (z_isinstance T) (by decide +kernel) (pa_cons (pv 1) (pa_cons (pe_glob (v := .ref (He.ga X.K "NoVersion")) (by rfl) (g_NoVersion T) rfl) pa_nil))))))))
      (pss_one (ps_ret (pe_lst (pa_cons pe_int (pa_cons (pe_xk (pv 1)) pa_nil)))))
      pss_nil)
    (pss_one (ps_ret (pe_ifExp (pt_val (pe_callB call_isK (by rfl) (z_isinstance T) (by decide +kernel) (pa_cons (pv 1) (pa_cons (pe_glob (v := .ref (He.ga X.K "NoVersion")) (by rfl) (g_NoVersion T) rfl) pa_nil)))) (pe_lst (pa_cons pe_int (pa_cons (pe_xk (pv 1)) pa_nil))) (pe_lst (pa_cons pe_int (pa_cons pe_non pa_nil))))))))), ?_⟩
  refine set_ ?_
  refine ⟨_, fun cls d σ' H' hl he => ?_, rfl, hco, h _⟩
  obtain ⟨dd, v, rfl, hd, hcase⟩ := he
  obtain ⟨x0, x1, x2, x3, rfl⟩ := len4 hl
  rcases hcase with ⟨rfl, k⟩ | ⟨rfl, k⟩
  · refine ⟨e_NoBranch_SiftError T, fun a ha => ?_⟩
    refine ⟨_, rfl, a, _, dd, _, _, _, true, rfl, upd_same, new_at hd ha, ek_NoBranch T, (fun u r => r), ki_NoBranch_NoBranch T, true, rfl, itb (fun _ => ?_) (fun e => by cases e)⟩
    refine ⟨_, rfl, a, _, dd, _, _, _, false, rfl, upd_same, new_at hd ha, ek_NoBranch T, (fun u r => r), ki_NoBranch_NoVersion T, false, rfl, itb (fun _ => ?_) (fun e => by cases e)⟩
    exact ⟨_, rfl, a, _, dd, _, v, rfl, upd_same, new_at hd ha, xf_NoBranch T, no_of (ib_NoBranch T), rfl, (by show 2 ≤ sizeLine; decide), fun p hp => k _ p (nw (nw (Same.refl _) ha) hp) upd_same⟩
  · refine ⟨e_NoVersion_SiftError T, fun a ha => ?_⟩
    refine ⟨_, rfl, a, _, dd, _, _, _, false, rfl, upd_same, new_at hd ha, ek_NoVersion T, (fun u r => r), ki_NoVersion_NoBranch T, false, rfl, itb (fun e => by cases e) (fun _ => ?_)⟩
    refine itb (fun e => by cases e) (fun _ => nxt_ ?_)
    refine ⟨_, rfl, a, _, dd, _, _, _, true, rfl, upd_same, new_at hd ha, ek_NoVersion T, (fun u r => r), ki_NoVersion_NoVersion T, true, rfl, itb (fun _ => ?_) (fun e => by cases e)⟩
    exact ⟨_, rfl, a, _, dd, _, v, rfl, upd_same, new_at hd ha, xf_NoVersion T, no_of (ib_NoVersion T), rfl, (by show 2 ≤ sizeLine; decide), fun p hp => k _ p (nw (nw (Same.refl _) ha) hp) upd_same⟩
end Sk
/-! K93ZJ: refused, called with a lambda. -/
namespace Sk
open PySem PySem.Spec PyProof.Rows L2
theorem plam {X : Cx} (G : PgOk X.prog) (T : Wt X.K X.mg) {c P : Addr} {params : Arguments} {body : Expr} {scope : Scope} {t : XK → TE} {k : Nat} {p lpos pos : Pos} (hg : Gl X "_law_refused") (TB : LamX.TabB X.base X.mg c P) (hcode : X.env.code = .ref c) (hr : Room (k + 2) X.A)
    (L : LamX.LamS X.env.scope scope) (hdef : defaultsOf params X.env = ([], [])) (hbind : ∀ (q : Str) (cl : List (Str × Addr)) (pm cv ctv : Value), bindArgs (PySem.W.kla_fn "<lambda>" q params body scope cl pm cv ctv) ⟨[], []⟩ = pure [])
    (hbody : ∀ (A : Around) (outer : List Env) (s : Shared) (H : Hp) (E : XK) (f c' : Addr), Room k (A.deeper (LamX.lamEnv X scope s.heap.objs.size f c')) → PE (LamX.lamCx X A outer s H E scope f c') body (t E)) :
    PE X (.Call (.Name "_law_refused" p) [.Lambda params body scope lpos] [] pos) (LamX.tLam [(P, X.env.qual ++ "<lambda>")] (TTref X.K) t) := by
  obtain ⟨fd, F⟩ := F_law_refused T
  have F' : FunD X.K d_law_refused.nm d_law_refused.qual (defArgs d_law_refused.st) (defBody d_law_refused.st) (defScope d_law_refused.st) [] [] (pAd X.K d_law_refused.at_) fd := F
  have bd := F'.bindsN (ps := ["_law_ask"]) (fun _ _ _ _ _ _ us hl => match us, hl with | [_], _ => rfl)
  have kp := F.kp
  obtain ⟨oc, od, dV, kV, doc, pm, an, cdv, ct, osl, e, lk, hcd, _, _⟩ := F'.ex
  subst e
  exact LamX.pe_lamcall (Ng := N_law_refused) hg (g_law_refused T) kp lk hcd bd sc_law_refused rfl (Or.inl rfl) (refused_gives (k := k) G T) TB hcode (by simp) (fun q hq _ => by rw [List.mem_singleton.mp hq]) hr L hdef hbind hbody
theorem plamQ {X : Cx} (G : PgOk X.prog) (T : Wt X.K X.mg) {c P : Addr} {params : Arguments} {body : Expr} {scope : Scope} {t : XK → TE} {k : Nat} {p lpos pos : Pos} {q : Str} (hq : X.env.qual ++ "<lambda>" = q) (hg : Gl X "_law_refused") (TB : LamX.TabB X.base X.mg c P) (hcode : X.env.code = .ref c) (hr : Room (k + 2) X.A)
    (L : LamX.LamS X.env.scope scope) (hdef : defaultsOf params X.env = ([], [])) (hbind : ∀ (q : Str) (cl : List (Str × Addr)) (pm cv ctv : Value), bindArgs (PySem.W.kla_fn "<lambda>" q params body scope cl pm cv ctv) ⟨[], []⟩ = pure [])
    (hbody : ∀ (A : Around) (outer : List Env) (s : Shared) (H : Hp) (E : XK) (f c' : Addr), Room k (A.deeper (LamX.lamEnv X scope s.heap.objs.size f c')) → PE (LamX.lamCx X A outer s H E scope f c') body (t E)) :
    PE X (.Call (.Name "_law_refused" p) [.Lambda params body scope lpos] [] pos) (LamX.tLam [(P, q)] (TTref X.K) t) := by
  rw [← hq]
  exact plam G T hg TB hcode hr L hdef hbind hbody
/-- the name of shown_right's lambda -/
def qLam : Str := (d_law_shown_right.qual ++ ".<locals>.") ++ "<lambda>"
end Sk
/-! K93ZK: what a work that was written comes to; what stays where a lambda was made. -/
namespace Sk
open PySem PySem.Spec PyProof.Rows L2
/-! ### all but tables stays -/
section
variable {K : PySem.W.Frag} {H H' : Hp}
theorem ext_ts (e : LamX.ExtN H H') : TSame H H' := fun b xs h => e b _ h (fun ps z => by cases z)
theorem PotAt.ext {p : Addr} {n : Int} (h : PotAt H p n) (e : LamX.ExtN H H') : PotAt H' p n := by
  obtain ⟨a, b, c, h1, h2⟩ := h
  exact ⟨a, b, c, e _ _ h1 (fun ps z => by cases z), h2⟩
theorem StAt.ext {s : Addr} {A : StA} {D : StD} (h : StAt K H s A D) (e : LamX.ExtN H H') : StAt K H' s A D := by
  obtain ⟨b1, b2, b3⟩ := h.book
  obtain ⟨v1, v2, v3⟩ := h.vers
  obtain ⟨x1, x2⟩ := h.bt
  obtain ⟨y1, y2⟩ := h.nr
  have ts := ext_ts e
  exact ⟨e _ _ h.ins (fun ps z => by cases z), ⟨b1, e _ _ b2 (fun ps z => by cases z), b3.mono fun _ _ z => z.ts ts⟩, ⟨v1, e _ _ v2 (fun ps z => by cases z), v3.mono fun _ _ z => z.ts ts⟩, e _ _ h.heads (fun ps z => by cases z), ts _ _ h.wait, ⟨x1, ts _ _ x2⟩,
    e _ _ h.kept (fun ps z => by cases z), e _ _ h.watch (fun ps z => by cases z), ⟨y1, ts _ _ y2⟩, h.nd⟩
theorem StoAt.ext {x dx dk g st : Addr} (h : StoAt K H x dx dk g st) (e : LamX.ExtN H H') : StoAt K H' x dx dk g st := by
  obtain ⟨dd, z, d⟩ := h.disk
  obtain ⟨xs, e2⟩ := h.groups
  exact ⟨e _ _ h.ins (fun ps z => by cases z), ⟨dd, z, e _ _ d (fun ps z => by cases z)⟩, ⟨xs, e _ _ e2 (fun ps z => by cases z)⟩, h.nd⟩
/-- no table, no code object -/
def NT (o : HO) : Prop := (∀ ps, o ≠ .tbl ps) ∧ ∀ c q, o ≠ LamX.CodeO c q
theorem nt_l {xs : List V} : NT (.lst xs) := ⟨fun _ h => (by cases h), fun c q h => by
  unfold LamX.CodeO at h
  cases h⟩
theorem nt_i {C dx : Addr} {fs : List (Str × V)} : NT (.ins C dx fs) := ⟨fun _ h => (by cases h), fun c q h => by
  unfold LamX.CodeO at h
  cases h⟩
theorem tabs_kp {T : List (Addr × Str)} {S : List Addr} (t : LamX.Tabs T H) (k : Kp S H H') (hS : ∀ q ∈ S, ∀ o, H q = some o → NT o) : LamX.Tabs T H' := fun p hp => by
  obtain ⟨ps, h1, h2, h3⟩ := t p hp
  refine ⟨ps, k _ _ (fun z => (hS _ z _ h1).1 ps rfl) h1, h2, fun pos cv hc => ?_⟩
  obtain ⟨c, e1, e2⟩ := h3 pos cv hc
  exact ⟨c, e1, k _ _ (fun z => (hS _ z _ e2).2 _ _ rfl) e2⟩
theorem frm_kp {p : Addr} (f : Frm p H H') : Kp [p] H H' := fun q o n e => f q o (by simpa using n) e
theorem tabs_frm {T : List (Addr × Str)} {p : Addr} {n : Int} (t : LamX.Tabs T H) (f : Frm p H H') (hp : PotAt H p n) : LamX.Tabs T H' := tabs_kp t (frm_kp f) fun q hq o e => by
  obtain ⟨a, b, c, h1, _⟩ := hp
  rw [List.mem_singleton.mp hq, h1] at e
  cases e
  exact nt_l
/-- all but p and tables stays -/
def FrT (p : Addr) (H H' : Hp) : Prop := ∀ b o, b ≠ p → H b = some o → (∀ ps, o ≠ .tbl ps) → H' b = some o
theorem FrT.trans {p : Addr} {H1 : Hp} (a : FrT p H H1) (b : FrT p H1 H') : FrT p H H' := fun q o n e t => b q o n (a q o n e t) t
theorem FrT.of {p : Addr} (f : Frm p H H') : FrT p H H' := fun q o n e _ => f q o n e
theorem FrT.ext {p : Addr} (e : LamX.ExtN H H') : FrT p H H' := fun q o _ h t => e q o h t
end
/-! ### a work written -/
theorem freshN_app (o n : Nat) : freshN o ++ newLines o n = freshN (o + n) := by
  induction n with
  | zero => simp [newLines]
  | succ n ih =>
    rw [newLines_snoc, ← List.append_assoc, ih, show o + (n + 1) = (o + n) + 1 by omega, freshN_snoc]
theorem freshN_nodup (k : Nat) : (freshN k).Nodup := (freshN_up k).imp fun h => by omega
theorem freshN_ge {k : Nat} {m : Int} (h : m ∈ freshN k) : 1000000000 ≤ m := by
  unfold freshN at h
  obtain ⟨j, _, rfl⟩ := List.mem_map.mp h
  omega
theorem freshN_at {k j : Nat} (h : j < k) : (freshN k)[j]? = some (1000000000 + (j : Int)) := by
  unfold freshN
  rw [List.getElem?_map, List.getElem?_range h]
  rfl
/-- a row of a file that was written: its lines' texts stand at their numbers -/
def WrV (ft : List Str) (r : FR) (f : FileP) : Prop := r.name = f.1 ∧ ∃ o, r.lines = newLines o f.2.length ∧ (ft.drop o).take f.2.length = f.2
def txOf (ft : List Str) (l : Int) : Str := (ft[(l - 1000000000).toNat]?).getD ""
theorem WrV.more {ft us : List Str} {r : FR} {f : FileP} (h : WrV ft r f) : WrV (ft ++ us) r f := by
  obtain ⟨e, o, e1, e2⟩ := h
  refine ⟨e, o, e1, ?_⟩
  have z := congrArg List.length e2
  rw [List.length_take, List.length_drop] at z
  by_cases h0 : f.2.length = 0
  · rw [h0]
    rw [List.take_zero]
    exact (List.eq_nil_of_length_eq_zero h0).symm
  · rw [List.drop_append_of_le_length (by omega), List.take_append_of_le_length (by rw [List.length_drop]; omega)]
    exact e2
theorem WrV.texts {ft : List Str} {r : FR} {f : FileP} (h : WrV ft r f) : r.lines.map (txOf ft) = f.2 := by
  obtain ⟨_, o, e1, e2⟩ := h
  rw [e1]
  refine List.ext_getElem? fun j => ?_
  have z := congrArg List.length e2
  rw [List.length_take, List.length_drop] at z
  by_cases hj : j < f.2.length
  · have e3 : (newLines o f.2.length)[j]? = some (1000000000 + ((o + j : Nat) : Int)) := by
      unfold newLines
      rw [List.getElem?_map, List.getElem?_range hj]
      rfl
    have e4 : f.2[j]? = ft[o + j]? := by
      rw [← e2, List.getElem?_take_of_lt (by omega), List.getElem?_drop]
    rw [List.getElem?_map, e3, e4]
    show some ((ft[(1000000000 + ((o + j : Nat) : Int) - 1000000000).toNat]?).getD "") = _
    rw [show (1000000000 + ((o + j : Nat) : Int) - 1000000000).toNat = o + j by omega]
    have hlt : o + j < ft.length := by omega
    rw [List.getElem?_eq_getElem hlt]
    rfl
  · rw [List.getElem?_eq_none_iff.mpr (by rw [List.length_map]; simp [newLines]; omega), List.getElem?_eq_none_iff.mpr (by omega)]
theorem wr_new {ft ts : List Str} {z : Str} {n : Int} : WrV (ft ++ ts) ⟨n, z, newLines ft.length ts.length⟩ (z, ts) := ⟨rfl, ft.length, rfl, by
  show ((ft ++ ts).drop ft.length).take ts.length = ts
  rw [List.drop_left' rfl, List.take_length]⟩
theorem valV_keys {kvs : List (Key × V)} : ∀ {k : Nat} {H : Hp} {ft : List Str} {o : Nat}, kvs.map (·.1) = (newLines o ft.length).map Sum.inl → All2 (FreshV H) (kvs.map (·.2)) ft → ∀ j t, ft[j]? = some t → ∃ a, valV kvs (.inl (1000000000 + ((o + j : Nat) : Int))) = some (.ref a) ∧ H a = some (.tup [.str t, .non]) := by
  induction kvs with
  | nil =>
    intro k H ft o h1 h2 j t ht
    cases h2
    simp at ht
  | cons p r ih =>
    intro k H ft o h1 h2 j t ht
    obtain ⟨ky, v⟩ := p
    cases ft with
    | nil => simp at ht
    | cons x ft =>
      have hl : newLines o (ft.length + 1) = (1000000000 + ((o : Nat) : Int)) :: newLines (o + 1) ft.length := by
        unfold newLines
        rw [List.range_succ_eq_map, List.map_cons, List.map_map]
        congr 1
        refine List.map_congr_left fun i _ => ?_
        show 1000000000 + ((o + (i + 1) : Nat) : Int) = 1000000000 + ((o + 1 + i : Nat) : Int)
        congr 2
        omega
      have h1' : ky :: r.map (·.1) = Sum.inl (1000000000 + ((o : Nat) : Int)) :: (newLines (o + 1) ft.length).map Sum.inl := by
        have z := h1
        rw [List.length_cons, hl] at z
        exact z
      injection h1' with e1 e2
      cases h2 with
      | cons r1 r2 =>
        cases j with
        | zero =>
          have e3 : x = t := by simpa using ht
          subst e3
          obtain ⟨a, e4, e5⟩ := r1
          refine ⟨a, ?_, e5⟩
          rw [e1, valV_pos (by simp)]
          exact congrArg some e4
        | succ j =>
          obtain ⟨a, e4, e5⟩ := ih (k := k) e2 r2 j t (by simpa using ht)
          refine ⟨a, ?_, e5⟩
          rw [valV_neg (by rw [e1]; intro z; have := Sum.inl.inj z; omega), show o + (j + 1) = o + 1 + j by omega]
          exact e4
theorem fresh_get {H : Hp} {kvs : List (Key × V)} {ft : List Str} (h1 : kvs.map (·.1) = (freshN ft.length).map Sum.inl) (h2 : All2 (FreshV H) (kvs.map (·.2)) ft) {l : Int} (hl : l ∈ freshN ft.length) : ∃ a, valV kvs (.inl l) = some (.ref a) ∧ H a = some (.tup [.str (txOf ft l), .non]) := by
  have e0 : freshN ft.length = newLines 0 ft.length := by
    have z := freshN_app 0 ft.length
    rw [Nat.zero_add] at z
    rw [← z]
    rfl
  unfold freshN at hl
  obtain ⟨j, hj, rfl⟩ := List.mem_map.mp hl
  have hj := List.mem_range.mp hj
  obtain ⟨a, e1, e2⟩ := valV_keys (k := 0) (o := 0) (by rw [← e0]; exact h1) h2 j ft[j] (List.getElem?_eq_getElem hj)
  rw [Nat.zero_add] at e1
  refine ⟨a, e1, ?_⟩
  have e3 : txOf ft (1000000000 + (j : Int)) = ft[j] := by
    unfold txOf
    rw [show (1000000000 + (j : Int) - 1000000000).toNat = j by omega, List.getElem?_eq_getElem hj]
    rfl
  rw [e3]
  exact e2
/-- what the state says in the end: i the version, v how the law has it -/
structure FinD (D : StD) (fs : List FileP) (v : V) : Prop where
  main : ∃ i ps rs, D.heads.lookup ("main" : Str) = some i ∧ D.vers.lookup i = some (ps, rs) ∧ Shows D rs fs ∧ (v = .non ∨ v = .int i)
  zero : ∃ ps, D.vers.lookup 0 = some (ps, [])
  neg : D.vers.lookup (-1) = none
  two : D.vers.lookup 2 = none
  maine : D.heads.lookup ("maine" : Str) = none
  emp : D.heads.lookup ("" : Str) = none
theorem fin0 : FinD stD0 [] .non := ⟨⟨0, [], [], rfl, rfl, .nil, .inl rfl⟩, ⟨[], rfl⟩, rfl, rfl, rfl, rfl⟩
theorem fin1 {S : List FR} {fs : List FileP} {ft : List Str} {m : Int} {ws : List Str} (h : All2 (WrV ft) S fs) : FinD (stD1 ((allLines S).map (txOf ft)) (S.map (renum S)) m ws) fs (.int 1) := by
  refine ⟨⟨1, [0], S.map (renum S), rfl, rfl, ?_, .inr rfl⟩, ⟨[], rfl⟩, rfl, rfl, rfl, rfl⟩
  have key : ∀ {Q : List FR} {gs : List FileP}, All2 (WrV ft) Q gs → (∀ r ∈ Q, r ∈ S) → All2 (fun r f => r.name = f.1 ∧ All2 (fun j t => ∃ d, (mkB 1 0 ((allLines S).map (txOf ft))).lookup j = some d ∧ d.text = t) r.lines f.2) (Q.map (renum S)) gs := by
    intro Q gs hq
    induction hq with
    | nil => exact fun _ => .nil
    | cons a _ ih =>
      intro hm
      refine .cons ⟨a.1, ?_⟩ (ih fun r hr => hm r (List.mem_cons_of_mem _ hr))
      have hr := hm _ List.mem_cons_self
      have et := a.texts
      refine all2_of (by show (List.map _ _).length = _; rw [List.length_map, ← et, List.length_map]) fun j x t h1 h2 => ?_
      have h1' : (List.map (fun l => ((ix (allLines S) l : Nat) : Int)) _)[j]? = some x := h1
      rw [List.getElem?_map] at h1'
      obtain ⟨l, hl, rfl⟩ := Option.map_eq_some_iff.mp h1'
      rw [← et, List.getElem?_map, hl] at h2
      have e2 : txOf ft l = t := by simpa using h2
      have hlS : l ∈ allLines S := List.mem_flatMap.mpr ⟨_, hr, List.mem_of_getElem? hl⟩
      have e := ix_at hlS
      have z := mkB_get (v := 1) (i := 0) (ts := (allLines S).map (txOf ft)) (j := ix (allLines S) l) (t := txOf ft l) (by rw [List.getElem?_map, e]; rfl)
      rw [Nat.zero_add] at z
      exact ⟨_, z, e2⟩
  exact key h fun r hr => hr
theorem rv_rv {α : Type} {b : Bool} {l : List α} : rv b (rv b l) = l := by cases b <;> simp [rv]
section
variable {P : Program} {w : World} {K : PySem.W.Frag} {mg : Str → Option Value} {base : Heap}
/-- a work that was written, committed: one promise for both ends -/
def spCommit2 (K : PySem.W.Frag) : Sp := fun vs H Q _ => ∃ (x dx sto f0 f fr lt : Addr) (R : List FR) (ft : List Str) (dS dk g s : Addr) (A : StA) (b : Bool) (fs : List FileP), vs = [.ref x] ∧ WkAt K H x dx sto 0 f0 f fr lt R ft ∧ H f0 = some (.tup []) ∧ StoAt K H sto dS dk g s ∧ StAt K H s A stD0 ∧ H g = some (.lst []) ∧
  Good fs ∧ All2 (WrV ft) R (rv b fs) ∧ R.map (·.num) = freshN R.length ∧ allLines R = freshN ft.length ∧ ft.length ≤ 2000 ∧
  ∀ H' v s' A' D, Kp [x, sto, g] H H' → TSame H H' → StoAt K H' sto dS dk g s' → StAt K H' s' A' D → FinD D fs v → Q v H'
theorem ok_commit2 (T : Wt K mg) : Def P w K mg base 5 d_Work_commit ["self"] (spCommit2 K) := (ok_commit T).imp fun vs H Q E h => by
  obtain ⟨x, dx, sto, f0, f, fr, lt, R, ft, dS, dk, g, s, A, b, fs, rfl, hW, hf0, hSto, hS, hg, hG, hwr, hnum, hal, hft, q⟩ := h
  have hlen := hwr.len
  rw [rv_len] at hlen
  have hGl := hG.len
  have hnames : ∀ r ∈ R, isName r.name = true := fun r hr => by
    obtain ⟨i, hi⟩ := List.mem_iff_getElem?.mp hr
    obtain ⟨f, hf, e, _⟩ := hwr.at1 hi
    rw [e]
    exact (hG.nm f (rv_mem.mp (List.mem_of_getElem? hf))).1
  have hS2 : All2 (WrV ft) (rv b R) fs := by
    have z := rv_all2 (b := b) hwr
    rw [rv_rv] at z
    exact z
  have hper : (allLines (rv b R)).Perm (freshN ft.length) := by
    rw [← hal]
    exact List.Perm.flatMap_right _ rv_perm
  obtain ⟨kvs, k1, k2, k3⟩ := hW.fresh
  refine ⟨x, dx, sto, f0, f, fr, lt, R, ft, dS, dk, g, s, A, rfl, hW, hf0, hSto, hS, hg, hnames, fun e H' s1 => ?_, fun _ => ⟨b, txOf ft, kvs, by omega, by rw [hal, freshN_len]; exact hft, by rw [hnum]; exact freshN_nodup _, fun n hn => by rw [hnum] at hn; exact freshN_ge hn, hper.nodup_iff.mpr (freshN_nodup _), fun l hl => freshN_ge (hper.mem_iff.mp hl), ?_, k1, fun l hl => fresh_get k2 k3 (hper.mem_iff.mp hl), fun H' s' A' m ws' k t So St => q H' _ s' A' _ k t So St (fin1 hS2)⟩⟩
  · have e2 : fs = [] := List.eq_nil_of_length_eq_zero (by rw [← hlen, e]; rfl)
    rw [e2] at q
    exact q H' _ s A _ (Kp.same s1) (same_ts s1) (hSto.same s1) (hS.same s1) fin0
  · have e3 : (rv b R).map (·.name) = fs.map (·.1) := by
      have key : ∀ {Q : List FR} {gs : List FileP}, All2 (WrV ft) Q gs → Q.map (·.name) = gs.map (·.1) := by
        intro Q gs hq
        induction hq with
        | nil => rfl
        | cons a _ ih => rw [List.map_cons, List.map_cons, a.1, ih]
      exact key hS2
    rw [e3]
    exact hG.asc
end
end Sk
/-! K93ZL: shown right. -/
namespace Sk
open PySem PySem.Spec PyProof.Rows L2
theorem WkAt.kp {K : PySem.W.Frag} {H H' : Hp} {x dx sto : Addr} {v : Int} {f0 f fr lt : Addr} {rs : List FR} {ft : List Str} {S : List Addr} (h : WkAt K H x dx sto v f0 f fr lt rs ft) (k : Kp S H H') (hS : x ∉ S ∧ fr ∉ S ∧ lt ∉ S) (ts : TSame H H') : WkAt K H' x dx sto v f0 f fr lt rs ft := by
  obtain ⟨k1, h1, h2, h3⟩ := h.fresh
  obtain ⟨k2, h4, h5⟩ := h.ltd
  exact ⟨k _ _ hS.1 h.ins, h.files.ts ts, ⟨k1, k _ _ hS.2.1 h1, h2, h3.mono fun _ _ z => z.ts ts⟩, ⟨k2, k _ _ hS.2.2 h4, h5⟩, h.nfl⟩
theorem if_int {b : Bool} {σ : L2.St} {H : Hp} {Q : VK} (h : Q (.int (if b = true then 1 else 2)) H) : if b = true then tC (.int 1) σ H Q else tC (.int 2) σ H Q := by
  cases b
  · exact h
  · exact h
/-- a text? -/
def isS : V → Bool
  | .str _ => true
  | _ => false
def datOf : V → PyData
  | .str z => .str z
  | .int i => .int i
  | .bl b => .bool b
  | .non => .none
  | _ => .tuple [.int 0]
/-- what is asked for that the store does not know -/
def AskL (t0 : Addr) : List V := [.str "maine", .str "", .int (-1), .int 2, .bl true, .non, .ref t0]
theorem maine_ok : SmallS ("maine" : Str) ∧ SmallS ("" : Str) ∧ ("maine" : Str).cps.size = 5 := by
  unfold SmallS
  decide +kernel
theorem ask_fits {t0 : Addr} {v : V} (h : v ∈ AskL t0) : Fits (.list [.int (if isS v = true then 1 else 2), datOf v]) := by
  have h7 : v = .str "maine" ∨ v = .str "" ∨ v = .int (-1) ∨ v = .int 2 ∨ v = .bl true ∨ v = .non ∨ v = .ref t0 := by simpa [AskL] using h
  obtain ⟨m1, m2, m3⟩ := maine_ok
  have a1 := small_short m1
  have a2 := small_short m2
  have i1 := int_short (i := 1) (by decide)
  have i2 := int_short (i := 2) (by decide)
  have i3 := int_short (i := -1) (by decide)
  have i0 := int_short (i := 0) (by decide)
  have j1 := int_able (i := 1) (by decide)
  have j2 := int_able (i := 2) (by decide)
  have j3 := int_able (i := -1) (by decide)
  have j0 := int_able (i := 0) (by decide)
  have e0 : ("" : Str).cps.size = 0 := by decide +kernel
  rcases h7 with e | e | e | e | e | e | e <;> subst e <;>
    refine ⟨?_, ?_, ?_, by simp [isS, datOf, PyData.depth, PyData.depthAll]⟩ <;>
    first
    | (simp only [isS, datOf, PyData.bulk, PyData.bulkAll, m3, e0]; decide)
    | (simp only [isS, datOf, PyData.leavesShort, PyData.leavesShortAll, PyData.showable, PyData.showableAll, if_true, if_false, Bool.false_eq_true] at *; simp [*]; done)
    | (simp [isS, datOf, PyData.showable, PyData.showableAll] <;> decide)
theorem ask_dr {K : PySem.W.Frag} {H : Hp} {t0 : Addr} {v : V} (h : v ∈ AskL t0) (ht : H t0 = some (.tup [.int 0])) : Dr K H v (datOf v) := by
  have h7 : v = .str "maine" ∨ v = .str "" ∨ v = .int (-1) ∨ v = .int 2 ∨ v = .bl true ∨ v = .non ∨ v = .ref t0 := by simpa [AskL] using h
  rcases h7 with e | e | e | e | e | e | e <;> subst e
  · exact .str _
  · exact .str _
  · exact .int _
  · exact .int _
  · exact .bl _
  · exact .non
  · exact .tup (SqT.of ht) (.cons (.int _) .nil)
theorem ask_kd {K : PySem.W.Frag} {H : Hp} {t0 : Addr} {v : V} (h : v ∈ AskL t0) (ht : H t0 = some (.tup [.int 0])) : IsKd K H v "str" (isS v) := by
  have h7 : v = .str "maine" ∨ v = .str "" ∨ v = .int (-1) ∨ v = .int 2 ∨ v = .bl true ∨ v = .non ∨ v = .ref t0 := by simpa [AskL] using h
  rcases h7 with e | e | e | e | e | e | e <;> subst e
  · exact isk_str H _
  · exact isk_str H _
  · exact (isk_int H _).2.2
  · exact (isk_int H _).2.2
  · exact ⟨.type "bool", .base (.bl true), by kernel_rfl⟩
  · exact ⟨.type "NoneType", .base .non, by kernel_rfl⟩
  · exact ⟨.type "tuple", .base (.tup ht), by kernel_rfl⟩
/-- what is asked comes to an error, caught and told -/
theorem ask_at {K : PySem.W.Frag} {H : Hp} {D : StD} {fs : List FileP} {u : V} {t0 : Addr} {v : V} {Qi : Int → Prop} {Q : VK} (F : FinD D fs u) (h : v ∈ AskL t0) (ht : H t0 = some (.tup [.int 0])) (rest : ∀ H2 p, L2.Same H H2 → H2 p = some (.lst [.int (if isS v = true then 1 else 2), v]) → Q (.ref p) H2) :
    AtV K H D v Qi (fun x => ∀ H', L2.Same H H' → ErrV K x "value" v H' (eRef K Q)) := by
  have h7 : v = .str "maine" ∨ v = .str "" ∨ v = .int (-1) ∨ v = .int 2 ∨ v = .bl true ∨ v = .non ∨ v = .ref t0 := by simpa [AskL] using h
  have kd := ask_kd (K := K) h ht
  have e1 : isS v = true → ∀ H', L2.Same H H' → ErrV K "NoBranch" "value" v H' (eRef K Q) := fun e H' s d hd => ⟨d, v, rfl, upd_same, .inl ⟨rfl, fun H2 p s2 hp => rest H2 p ((nw s hd).trans s2) (by rw [e]; exact hp)⟩⟩
  have e2 : isS v = false → ∀ H', L2.Same H H' → ErrV K "NoVersion" "value" v H' (eRef K Q) := fun e H' s d hd => ⟨d, v, rfl, upd_same, .inr ⟨rfl, fun H2 p s2 hp => rest H2 p ((nw s hd).trans s2) (by rw [e]; exact hp)⟩⟩
  rcases h7 with e | e | e | e | e | e | e <;> subst e
  · exact .inr (.inl ⟨_, rfl, F.maine, e1 rfl⟩)
  · exact .inr (.inl ⟨_, rfl, F.emp, e1 rfl⟩)
  · exact .inr (.inr (.inr ⟨kd, .inl ⟨_, rfl, F.neg⟩, e2 rfl⟩))
  · exact .inr (.inr (.inr ⟨kd, .inl ⟨_, rfl, F.two⟩, e2 rfl⟩))
  · exact .inr (.inr (.inr ⟨kd, .inr (.inr ⟨⟨.type "bool", .base (.bl true), by kernel_rfl⟩, ⟨.type "bool", .base (.bl true), by kernel_rfl⟩⟩), e2 rfl⟩))
  · exact .inr (.inr (.inr ⟨kd, .inr (.inl ⟨.type "NoneType", .base .non, by kernel_rfl⟩), e2 rfl⟩))
  · exact .inr (.inr (.inr ⟨kd, .inr (.inl ⟨.type "tuple", .base (.tup ht), by kernel_rfl⟩), e2 rfl⟩))
theorem good_nil : Good [] := ⟨by decide, List.Pairwise.nil, fun f hf => (by cases hf), fun f hf => (by cases hf)⟩
section
variable {P : Program} {w : World} {K : PySem.W.Frag} {mg : Str → Option Value} {base : Heap}
def spShown (TA : Addr) : Sp := fun vs H Q _ => ∃ (p : Addr) (n : Int) (t : Addr) (fs : List FileP), vs = [.ref p, .ref t] ∧ PotAt H p n ∧ n < 900000 ∧ FsAt H t fs ∧ Good fs ∧ LamX.Tabs [(TA, qLam)] H ∧ ∀ H', FrT p H H' → PotAt H' p (n + 3) → LamX.Tabs [(TA, qLam)] H' → Q (.bl true) H'
abbrev N_law_shown_right : List Str := ["_law_pot_here", "_law_files", "_law_work", "_law_version", "_law_at", "_law_value_here", "_law_due_here", "_law_store", "_law_page", "_law_name", "_law_texts"]
theorem sc_law_shown_right : FnScope N_law_shown_right ["_law_pot_here", "_law_files"] (defScope s_law_shown_right) := ⟨rfl, rfl, rfl, by decide +kernel, rfl, by decide +kernel, by decide +kernel⟩
theorem ok_shown_right (G : PgOk P) (T : Wt K mg) {TA : Addr} (TB : LamX.TabB base mg (codeAd K (pAd K d_law_shown_right.at_)) TA) : DefG P w K mg base 9 d_law_shown_right 2 (spShown TA) := by
  have D_Store_init := ok_stoinit (P := P) (w := w) (base := base) T
  have D_law_written := ok_law_written (P := P) (w := w) (base := base) T
  have D_Store_work := ok_work (P := P) (w := w) (base := base) G T
  have D_law_any := ok_law_any (P := P) (w := w) (base := base) T
  have D_Work_write := ok_write (P := P) (w := w) (base := base) T
  have D_Work_commit := ok_commit2 (P := P) (w := w) (base := base) T
  have D_Store_show := ok_show (P := P) (w := w) (base := base) G T
  have D_read_files := ok_read_files (P := P) (w := w) (base := base) G T
  refine mk_defG (ps := ["_law_pot_here", "_law_files"]) (F_law_shown_right T) rfl sc_law_shown_right (fun vs H Q E h => ?_) (fun _ _ _ _ _ _ us hl => match us, hl with | [_, _], _ => rfl) (fun cdv A outer s H vs Q ec hc hr h => ?_)
  · obtain ⟨p, n, t, fs, rfl, _⟩ := h
    rfl
  · have sc := sc_law_shown_right
    have hcode : cdv = .ref (codeAd K (pAd K d_law_shown_right.at_)) := ec
    obtain ⟨p, n, t, fs, rfl, hp, hn, ⟨vs, hfv, hvs⟩, hG, hT, q⟩ := h
    refine ⟨_, (pss_cons (ps_asg (pe_tup (pa_cons (pmake0 (k_Store T) D_Store_init rfl (hr.mono (by decide)) (by rfl) (g_Store T) passL) (pa_cons (pcall D_law_written (hr.mono (by decide)) (by rfl) (g_law_written T) passL (pa_cons (pv 1) pa_nil)) pa_nil))) (pg_tup rfl (pgs_cons (pg_name (i := 7) sc.nd rfl (Or.inr rfl)) (pgs_cons (pg_name (i := 8) sc.nd rfl (Or.inl rfl)) pgs_nil))))
      (pss_cons (ps_set (i := 2) sc.nd rfl (Or.inl rfl) (pmeth (pv 7) (c_Store T) (m_Store_work T) D_Store_work rfl (hr.mono (by decide)) passL (pa_cons pe_str pa_nil)))
      (pss_cons (ps_for PassesOwn.never rfl (pi_tup (pe_stepT (pv 1) (pcall D_law_any (hr.mono (by decide)) (by rfl) (g_law_any T) passL (pa_cons (pv 0) (pa_cons (pe_lst (pa_cons pe_int (pa_cons (pe_un un_neg pe_int) pa_nil))) pa_nil))))) (pg_tup rfl (pgs_cons (pg_name (i := 9) sc.nd rfl (Or.inl rfl)) (pgs_cons (pg_name (i := 10) sc.nd rfl (Or.inl rfl)) pgs_nil)))
        (pss_one (ps_expr (pmeth (pv 2) (c_Work T) (m_Work_write T) D_Work_write rfl (hr.mono (by decide)) passL (pa_cons (pv 9) (pa_cons (pe_callTy (T := "list") call_list_of (by rfl) (z_list T) (by decide +kernel) (pa_cons (pv 10) pa_nil)) pa_nil))))))
      (pss_cons (ps_set (i := 3) sc.nd rfl (Or.inl rfl) (pmeth0 (pv 2) (c_Work T) (m_Work_commit T) D_Work_commit rfl (hr.mono (by decide)) passL))
      (pss_cons (ps_set (i := 4) sc.nd rfl (Or.inl rfl) (pe_ifExp (pt_cmpR op_isN (pv 3) pe_non (nomark _)) pe_str (pcall D_law_any (hr.mono (by decide)) (by rfl) (g_law_any T) passL (pa_cons (pv 0) (pa_cons (pe_lst (pa_cons pe_str (pa_cons (pv 3) pa_nil))) pa_nil)))))
      (pss_cons (ps_set (i := 5) sc.nd rfl (Or.inr rfl) (pcall D_law_any (hr.mono (by decide)) (by rfl) (g_law_any T) passL (pa_cons (pv 0) (pa_cons (pe_lst (pa_cons pe_str (pa_cons pe_str (pa_cons (pe_un un_neg pe_int) (pa_cons pe_int (pa_cons pe_bl (pa_cons pe_non (pa_cons (pe_tup (pa_cons pe_int pa_nil)) pa_nil)))))))) pa_nil))))
      (pss_cons (ps_set (i := 6) sc.nd rfl (Or.inl rfl) (pe_lst (pa_cons (pe_ifExp (pt_val (pe_callB call_isi (by rfl) (z_isinstance T) (by decide +kernel) (pa_cons (pv 5) (pa_cons (pty (n := "str") (z_str T) (by decide +kernel)) pa_nil)))) pe_int pe_int) (pa_cons (pv 5) pa_nil))))
      (pss_cons (ps_if (PW.pt (pw_or (pt_cmpR op_ne (pe_callB (call_reprG hc (hu100 hr) (mods T)) (by rfl) (z_repr T) (by decide +kernel) (pa_cons (plamQ (k := 6) (q := qLam) G T (by rfl) (by rfl) TB hcode (hr.mono (by decide)) (LamX.lamS_by (sc := defScope s_law_shown_right) (by decide +kernel)) rfl (fun _ _ _ _ _ => rfl) (fun _ _ _ _ _ _ _ hr2 => (pmeth (pv 7) (c_Store T) (m_Store_show T) D_Store_show rfl (hr2.mono (by decide)) (passes_call (takes_of rfl rfl rfl rfl) fun _ _ _ _ h => h) (pa_cons (pv 5) pa_nil)))) pa_nil)) (pe_callB (call_reprG hc (hu100 hr) (mods T)) (by rfl) (z_repr T) (by decide +kernel) (pa_cons (pv 6) pa_nil)) (nomark _)) (pw_or1 (pt_cmpR op_ne (pmeth (pv 7) (c_Store T) (m_Store_show T) D_Store_show rfl (hr.mono (by decide)) passL (pa_cons pe_int pa_nil)) pe_str (nomark _)))))
        (pss_one (ps_ret pe_bl))
        pss_nil)
      (pss_one (ps_ret (pe_and (pe_cmpR op_eq (pmeth (pv 7) (c_Store T) (m_Store_show T) D_Store_show rfl (hr.mono (by decide)) passL (pa_cons (pv 4) pa_nil)) (pv 8) (nomark _)) (pe_one (pe_cmpR op_eq (pe_callB (call_reprG hc (hu100 hr) (mods T)) (by rfl) (z_repr T) (by decide +kernel) (pa_cons (pcall D_read_files (hr.mono (by decide)) (by rfl) (g_read_files T) passL (pa_cons (pv 8) pa_nil)) pa_nil)) (pe_callB (call_reprG hc (hu100 hr) (mods T)) (by rfl) (z_repr T) (by decide +kernel) (pa_cons (pv 1) pa_nil)) (nomark _)))))))))))))), ?_⟩
    have noP : ∀ q, H q = none → q ≠ p := fun q hq z => by
      obtain ⟨a, b, c, h1, _⟩ := hp
      rw [z, h1] at hq
      cases hq
    have ntp : t ≠ p := by
      obtain ⟨a, b, c, h1, _⟩ := hp
      exact ne_of hfv h1 (by intro z; cases z)
    refine fun x dx hx hdx hne => ⟨x, dx, rfl, upd_same, fun H1 dk g st A k1 So1 hg1 St1 fr1 => ⟨rfl, ?_⟩⟩
    have s1 : Same H H1 := made_same hx hdx k1
    have fr1' : ∀ q ∈ [dk, g, st, A.lb, A.vb, A.hb, A.kb, A.ob], q ≠ p := fun q hq => noP q (by
      have z := fr1 q hq
      by_cases e1 : q = x
      · rw [e1]; exact hx
      · rw [upd_ne e1] at z
        by_cases e2 : q = dx
        · rw [e2]; exact hdx
        · rw [upd_ne e2] at z
          exact z)
    refine ⟨_, rfl, t, fs, rfl, ⟨vs, s1 _ _ hfv, hvs.mono fun _ _ z => z.ts (same_ts s1)⟩, hG, fun H2 s2 => ⟨(by show 2 ≤ sizeLine; decide), fun tt htt => ?_⟩⟩
    have s3 : Same H1 (upd H2 tt (.tup [.ref x, .str (pageOf fs)])) := nw s2 htt
    have htt3 : (upd H2 tt (.tup [.ref x, .str (pageOf fs)])) tt = some (.tup [.ref x, .str (pageOf fs)]) := upd_same
    generalize upd H2 tt (.tup [.ref x, .str (pageOf fs)]) = H3 at s3 htt3
    refine ⟨tt, _, rfl, SqT.of htt3, rfl, _, _, rfl, _, _, rfl, rfl, ?_⟩
    have So3 := So1.same s3
    have St3 := St1.same s3
    have hg3 := s3 _ _ hg1
    have s03 := s1.trans s3
    have back3 : ∀ q, H3 q = none → H q = none := fun q hq => by
      cases e : H q with
      | none => rfl
      | some o =>
        have z := s03 _ _ e
        rw [hq] at z
        cases z
    refine ⟨_, rfl, x, dx, _, rfl, So3.ins, rfl, x, dx, dk, g, st, A, rfl, So3, St3, fun H4 wk dw f fr lt s4 hw hF hfr hlt nfl hfr4 hlt4 hw4 => set_ ?_⟩
    have s04 := s03.trans s4
    have hp4 : PotAt H4 p n := hp.same s04
    have So4 := So3.same s4
    have St4 := St3.same s4
    have hg4 := s4 _ _ hg3
    have offW : ∀ q o, H3 q = some o → q ∉ [wk, fr, lt] := fun q o e z => by
      have z2 : q = wk ∨ q = fr ∨ q = lt := by simpa using z
      rcases z2 with z2 | z2 | z2 <;> rw [z2] at e
      · rw [hw] at e; cases e
      · rw [hfr] at e; cases e
      · rw [hlt] at e; cases e
    have nWp : wk ≠ p ∧ fr ≠ p ∧ lt ≠ p := ⟨noP _ (back3 _ hw), noP _ (back3 _ hfr), noP _ (back3 _ hlt)⟩
    have hf4 : H4 f = some (.tup []) := by
      obtain ⟨us, e1, e2⟩ := hF
      cases e2
      exact e1
    have W4 : WkAt K H4 wk dw x 0 f f fr lt [] [] := ⟨hw4, hF, ⟨[], hfr4, rfl, .nil⟩, ⟨[], hlt4, Nat.le_refl _⟩, nfl⟩
    have So_off : ∀ q ∈ [x, dk, g], q ≠ p := fun q hq => by
      rcases List.mem_cons.mp hq with e | e
      · rw [e]; exact noP _ hx
      · exact fr1' q (by
          have z : q = dk ∨ q = g := by simpa using e
          rcases z with z | z <;> simp [z])
    have St_off : ∀ q ∈ [st, A.lb, A.vb, A.hb, A.kb, A.ob], q ≠ p := fun q hq => fr1' q (List.mem_cons_of_mem _ (List.mem_cons_of_mem _ hq))
    refine ⟨_, rfl, _, rfl, 1, rfl, (by show 2 ≤ sizeLine; decide), fun l hl => ⟨p, n, hp4.upd (hp4.ne hl), by omega, .inl ⟨l, _, rfl, SqL.of upd_same, hp4.ne hl, by simp, by simp, fun H5 v f5 hp5 hv => ?_⟩⟩⟩
    have f45 : Frm p H4 H5 := (Frm.new hl).trans f5
    have t45 : TSame H4 H5 := f45.ts hp4
    obtain ⟨i, rfl, hi⟩ : ∃ i : Int, v = .int i ∧ (i = 1 ∨ i = -1) := by
      have z : v = .int 1 ∨ v = .int (-1) := by simpa using hv
      rcases z with e | e
      · exact ⟨1, e, .inl rfl⟩
      · exact ⟨-1, e, .inr rfl⟩
    refine ⟨i, rfl, t, vs, i, rfl, rfl, f45 _ _ ntp (s04 _ _ hfv), hi, fun b ta H6 s6 hta => ⟨ta, rfl, ⟨_, SqT.of hta⟩, ?_⟩⟩
    have hta : H6 ta = some (.tup (rv b vs)) := hta
    have k46 : Kp [p] H4 H6 := (frm_kp f45).trans (Kp.same s6)
    have t46 : TSame H4 H6 := t45.trans (same_ts s6)
    have F06 : Frm p H H6 := fun q o n e => k46 q o (by simpa using n) (s04 _ _ e)
    have hall : All2 (FileV H) (rv b vs) (rv b fs) := rv_all2 hvs
    have nodN : ((rv b fs).map (·.1)).Nodup := by
      rw [rv_map]
      exact rv_perm.nodup_iff.mpr (hG.asc.imp fun h z => by rw [z] at h; exact List.lt_irrefl _ h)
    refine for_tup (K := K) (xs := rv b vs) (fun i σ H' => ∃ a b', σ = [some (.ref p), some (.ref t), some (.ref wk), none, none, none, none, some (.ref x), some (.str (pageOf fs)), a, b'] ∧ Frm p H H' ∧ PotAt H' p (n + 1) ∧ H' ta = some (.tup (rv b vs)) ∧ H' f = some (.tup []) ∧ StoAt K H' x dx dk g st ∧ StAt K H' st A stD0 ∧ H' g = some (.lst []) ∧
        ∃ f' rs ft, WkAt K H' wk dw x 0 f f' fr lt rs ft ∧ rs.length = i ∧ rs.map (·.num) = freshN i ∧ rs.map (·.name) = ((rv b fs).take i).map (·.1) ∧ allLines rs = freshN ft.length ∧ ft.length ≤ 60 * i ∧ All2 (WrV ft) rs ((rv b fs).take i))
      ⟨none, none, rfl, F06, hp5.same s6, hta, t46 _ _ hf4, So4.kp k46 (fun q hq => by simpa using So_off q hq), St4.kp k46 (fun q hq => by simpa using St_off q hq) t46, k46 _ _ (by simpa using So_off g (by simp)) hg4, f, [], [], W4.kp k46 (by simp [nWp]) t46, rfl, rfl, rfl, rfl, Nat.le_refl _, .nil⟩
      (fun i σ H' _ ⟨_, _, _, _, _, h, _⟩ => SqT.of h) (fun i y σ H7 hy ⟨a, b', eσ, F7, hp7, hta7, hf7, So7, St7, hg7, f', rs, ft, W7, e1, e2, e3, e4, e5, e6⟩ => ?_) (fun σ H7 ⟨a, b', eσ, F7, hp7, hta7, hf7, So7, St7, hg7, f', rs, ft, W7, e1, e2, e3, e4, e5, e6⟩ => ?_)
    · subst eσ
      obtain ⟨fl, hfl, r, u, rfl, hr1, hu1⟩ := hall.at1 hy
      have t07 : TSame H H7 := F7.ts hp
      have hflm := rv_mem.mp (List.mem_of_getElem? hfl)
      have gn := hG.nm fl hflm
      have gt := hG.tx fl hflm
      have hil : i < (rv b fs).length := (List.getElem?_eq_some_iff.mp hfl).1
      rw [rv_len] at hil
      have hGl := hG.len
      refine ⟨r, _, rfl, SqT.of (t07 _ _ hr1), rfl, _, _, rfl, _, _, rfl, rfl, ?_⟩
      refine ⟨_, rfl, wk, dw, _, rfl, W7.ins, rfl, _, rfl, _, rfl, u, _, rfl, .inr (SqT.of (t07 _ _ hu1)), fun l2 hl2 => ?_⟩
      have s8 : Same H7 (upd H7 l2 (.lst (fl.2.map V.str))) := nw (Same.refl _) hl2
      have hl8 : (upd H7 l2 (.lst (fl.2.map V.str))) l2 = some (.lst (fl.2.map V.str)) := upd_same
      generalize upd H7 l2 (.lst (fl.2.map V.str)) = H8 at s8 hl8
      have znew : fl.1 ∉ rs.map (·.name) := by
        rw [e3]
        intro hm
        have z := nodN
        have hsp : rv b fs = (rv b fs).take i ++ (fl :: (rv b fs).drop (i + 1)) := by
          rw [← (List.getElem?_eq_some_iff.mp hfl).2, List.getElem_cons_drop, List.take_append_drop]
        rw [hsp, List.map_append, List.map_cons] at z
        exact (List.nodup_append.mp z).2.2 _ hm _ (by simp) rfl
      refine ⟨wk, dw, x, 0, f, f', fr, lt, rs, ft, fl.1, l2, fl.2, rfl, W7.same s8, by omega, by rw [e1]; exact e2, znew, gn.1, hl8, gt.1, gt.2, by omega, fun H9 f'' k9 t9 W9 => ?_⟩
      have k79 : Kp [wk, fr, lt] H7 H9 := (Kp.same s8).trans k9
      have t79 : TSame H7 H9 := (same_ts s8).trans t9
      refine ⟨_, _, rfl, fun q o n e => k79 q o (offW q o (s03 _ _ e)) (F7 q o n e), ?_, t79 _ _ hta7, t79 _ _ hf7, So7.kp k79 (fun q hq => ?_), St7.kp k79 (fun q hq => ?_) t79, k79 _ _ (offW g _ hg3) hg7, f'', _, _, W9, by rw [List.length_append, e1]; rfl, ?_, ?_, ?_, ?_, ?_⟩
      · obtain ⟨pa, pb, pc, q1, q2⟩ := hp7
        obtain ⟨a0, b0, c0, q3, _⟩ := hp
        exact ⟨pa, pb, pc, k79 _ _ (offW p _ (s03 _ _ q3)) q1, q2⟩
      · obtain ⟨d1, d2, d3⟩ := So3.disk
        have z : q = x ∨ q = dk ∨ q = g := by simpa using hq
        rcases z with z | z | z <;> rw [z]
        · exact offW _ _ So3.ins
        · exact offW _ _ d3
        · exact offW _ _ hg3
      · have z := St3.there q hq
        obtain ⟨o, ho⟩ := Option.ne_none_iff_exists'.mp z
        exact offW q o ho
      · rw [List.map_append, e2, e1, freshN_snoc]
        rfl
      · rw [List.map_append, e3, take_snoc hfl, List.map_append]
        rfl
      · have z : allLines (rs ++ [(⟨1000000000 + (rs.length : Int), fl.1, newLines ft.length fl.2.length⟩ : FR)]) = allLines rs ++ newLines ft.length fl.2.length := by
          unfold allLines
          rw [List.flatMap_append]
          simp
        rw [z, e4, freshN_app, List.length_append]
      · rw [List.length_append]
        have := gt.1
        omega
      · rw [take_snoc hfl]
        exact all2_snoc (e6.mono fun _ _ z => z.more) wr_new
    · subst eσ
      have hvl := hvs.len
      have eL : (rv b vs).length = fs.length := by rw [rv_len, hvl]
      have eT : (rv b fs).take (rv b vs).length = rv b fs := List.take_of_length_le (by rw [rv_len, rv_len]; omega)
      rw [eT] at e6
      have hGl := hG.len
      have e5' : ft.length ≤ 2000 := by
        rw [eL] at e5
        omega
      refine ⟨_, rfl, wk, dw, _, rfl, W7.ins, rfl, wk, dw, x, f, f', fr, lt, rs, ft, dx, dk, g, st, A, b, fs, rfl, W7, hf7, So7, St7, hg7, hG, e6, by rw [e1]; exact e2, e4, e5', fun H9 v s' A' D k9 t9 So9 St9 fin => set_ ?_⟩
      have offC : ∀ q o, H q = some o → q ∉ [wk, x, g] := fun q o e z => by
        have z2 : q = wk ∨ q = x ∨ q = g := by simpa using z
        rcases z2 with z2 | z2 | z2 <;> rw [z2] at e
        · rw [back3 _ hw] at e; cases e
        · rw [hx] at e; cases e
        · have z3 := fr1 g (by simp)
          have ngx : g ≠ x := fun z => by rw [z, upd_same] at z3; cases z3
          rw [upd_ne ngx] at z3
          by_cases e2 : g = dx
          · rw [e2, hdx] at e; cases e
          · rw [upd_ne e2, e] at z3
            cases z3
      have F9 : Frm p H H9 := fun q o n e => k9 q o (offC q o e) (F7 q o n e)
      have hp9 : PotAt H9 p (n + 1) := by
        obtain ⟨pa, pb, pc, q1, q2⟩ := hp7
        obtain ⟨a0, b0, c0, q3, _⟩ := hp
        exact ⟨pa, pb, pc, k9 _ _ (offC p _ q3) q1, q2⟩
      obtain ⟨ii, ps, rows, hmain, hvers, hsh, hv⟩ := fin.main
      have So_n : ∀ q ∈ [x, dk, g], q ≠ p := So_off
      have St_n : ∀ q ∈ [s', A'.lb, A'.vb, A'.hb, A'.kb, A'.ob], q ≠ p := fun q hq z => by
        obtain ⟨pa, pb, pc, q1, q2⟩ := hp9
        obtain ⟨b1, b2, _⟩ := St9.book
        obtain ⟨v1, v2, _⟩ := St9.vers
        have z2 : q = s' ∨ q = A'.lb ∨ q = A'.vb ∨ q = A'.hb ∨ q = A'.kb ∨ q = A'.ob := by simpa using hq
        rw [← z] at q1
        rcases z2 with e | e | e | e | e | e <;> rw [e] at q1
        · rw [St9.ins] at q1; cases q1
        · rw [b2] at q1; cases q1
        · rw [v2] at q1; cases q1
        · rw [St9.heads] at q1; cases q1
        · rw [St9.kept] at q1; cases q1
        · rw [St9.watch] at q1; cases q1
      refine ⟨_, rfl, rfl, _, rfl, if_any (S := fun u H' => Frm p H9 H' ∧ PotAt H' p (n + 2) ∧ (u = .str "main" ∨ u = .int ii)) (fun av H10 ⟨f10, hp10, hav⟩ => ?_) (fun _ R kR => kR _ _ ⟨Frm.refl _ _, hp9.mono (by omega), .inl rfl⟩) (fun hnv R kR => ?_)⟩
      · refine set_ ?_
        have t910 : TSame H9 H10 := f10.ts hp9
        have St10 := St9.kp (frm_kp f10) (fun q hq => by simpa using St_n q hq) t910
        have So10 := So9.kp (frm_kp f10) (fun q hq => by simpa using So_n q hq)
        refine ⟨_, rfl, 1, rfl, (by show 1 ≤ sizeLine; decide), fun t0 ht0 => ⟨(by show 7 ≤ sizeLine; decide), fun l3 hl3 => ?_⟩⟩
        have n0 := hp10.ne ht0
        have hp11 := hp10.upd (o := .tup [.int 0]) n0
        have n3 := hp11.ne hl3
        refine ⟨p, n + 2, hp11.upd n3, by omega, .inl ⟨l3, AskL t0, rfl, SqL.of upd_same, n3, by simp [AskL], by simp [AskL], fun H13 v5 f13 hp13 hv5 => set_ ?_⟩⟩
        have f1013 : Frm p H10 H13 := ((Frm.new ht0).trans (Frm.new hl3)).trans f13
        have t1013 : TSame H10 H13 := f1013.ts hp10
        have ht13 : H13 t0 = some (.tup [.int 0]) := f13 _ _ n0 (new_at upd_same hl3)
        have F13 : Frm p H H13 := (F9.trans f10).trans f1013
        have St13 := St10.kp (frm_kp f1013) (fun q hq => by simpa using St_n q hq) t1013
        have So13 := So10.kp (frm_kp f1013) (fun q hq => by simpa using So_n q hq)
        obtain ⟨ty, t1, t2⟩ := ask_kd (K := K) hv5 ht13
        refine ⟨_, rfl, v5, .ty "str", ty, .type "str", isS v5, rfl, .ty _, t1, t2, isS v5, rfl, if_int ⟨_, rfl, (by show 2 ≤ sizeLine; decide), fun l4 hl4 => set_ ?_⟩⟩
        have s14 : Same H13 (upd H13 l4 (.lst [.int (if isS v5 = true then 1 else 2), v5])) := nw (Same.refl _) hl4
        have hl14 : (upd H13 l4 (.lst [.int (if isS v5 = true then 1 else 2), v5])) l4 = some (.lst [.int (if isS v5 = true then 1 else 2), v5]) := upd_same
        generalize upd H13 l4 (.lst [.int (if isS v5 = true then 1 else 2), v5]) = H14 at s14 hl14
        have F14 : Frm p H H14 := F13.trans fun b o _ e => s14 b o e
        have hp14 := hp13.same s14
        have T14 : LamX.Tabs [(TA, qLam)] H14 := tabs_frm hT F14 hp
        have fz := ask_fits hv5
        refine ⟨T14, fun H15 e15 T15 Qn => ?_⟩
        have T15 : LamX.Tabs [(TA, qLam)] H15 := T15
        have So15 := (So13.same s14).ext e15
        have St15 := (St13.same s14).ext e15
        have ht15 : H15 t0 = some (.tup [.int 0]) := e15 _ _ (s14 _ _ ht13) (fun ps z => by cases z)
        have hl15 := e15 _ _ hl14 (fun ps z => by cases z)
        have hp15 := hp14.ext e15
        have FT15 : FrT p H H15 := (FrT.of F14).trans (FrT.ext e15)
        refine ⟨_, rfl, x, dx, _, rfl, So15.ins, rfl, _, rfl, x, dx, dk, g, s', A', D, v5, rfl, So15, St15, ask_at fin hv5 ht15 fun H16 pr s16 hpr => ?_⟩
        have ht16 := s16 _ _ ht15
        refine ⟨.ref pr, _, rfl, .lst hpr (.cons (.int _) (.cons (ask_dr hv5 ht16) .nil)), fz.able, fz.deep, fz.len, ?_⟩
        refine ⟨_, rfl, .ref l4, _, rfl, .lst (s16 _ _ hl15) (.cons (.int _) (.cons (ask_dr hv5 ht16) .nil)), fz.able, fz.deep, fz.len, rfl, _, rfl, itb (fun e => by simp at e) (fun _ => ?_)⟩
        have So16 := So15.same s16
        have St16 := St15.same s16
        obtain ⟨ps0, hz0⟩ := fin.zero
        refine ⟨_, rfl, x, dx, _, rfl, So16.ins, rfl, x, dx, dk, g, s', A', D, .int 0, rfl, So16, St16, .inr (.inr (.inl ⟨0, _, rfl, hz0, ps0, [], [], hz0, .nil, good_nil, fun H17 s17 => ?_⟩))⟩
        have e0 : pageOf [] = "" := by decide +kernel
        refine ⟨rfl, _, rfl, itb (fun e => by rw [e0] at e; simp at e) (fun _ => nxt_ ?_)⟩
        have So17 := So16.same s17
        have St17 := St16.same s17
        have s157 := s16.trans s17
        have hp17 := hp15.same s157
        have T17 : LamX.Tabs [(TA, qLam)] H17 := T15.ext s157
        have FT17 : FrT p H H17 := FT15.trans (FrT.of fun b o _ e => s157 b o e)
        rcases hav with rfl | rfl
        · refine ⟨_, rfl, x, dx, _, rfl, So17.ins, rfl, _, rfl, x, dx, dk, g, s', A', D, _, rfl, So17, St17, .inl ⟨"main", ii, rfl, hmain, ps, rows, fs, hvers, hsh, hG, fun H18 s18 => ?_⟩⟩
          refine ⟨_, rfl, rfl, _, rfl, itd (fun _ => ?_) (fun e => absurd rfl e)⟩
          have FT18 : FrT p H H18 := FT17.trans (FrT.of fun b o _ e => s18 b o e)
          refine ⟨_, rfl, _, rfl, .inl ⟨pageOf fs, rfl, by have := page_len hG; omega, rowsIn (pageOf fs), rfl, fun H19 p2 fs2 e2 s19 hfs _ _ => ?_, fun H' j d e => by rw [read_page hG] at e; cases e⟩⟩
          rw [read_page hG] at e2
          cases e2
          have s179 : Same H17 H19 := s18.trans s19
          have ff := fits_files (good_shw hG)
          have FT19 : FrT p H H19 := FT17.trans (FrT.of fun b o _ e => s179 b o e)
          have ts19 : TSame H H19 := fun c xs e => FT19 c _ (by
            obtain ⟨pa, pb, pc, q1, _⟩ := hp
            exact ne_of e q1 (by intro z; cases z)) e (fun ps z => by cases z)
          have hf19 : FsAt H19 t fs := ⟨vs, ts19 _ _ hfv, hvs.mono fun _ _ z => z.ts ts19⟩
          refine ⟨_, _, rfl, dr_fs hfs, ff.able, ff.deep, ff.len, _, rfl, _, _, rfl, dr_fs hf19, ff.able, ff.deep, ff.len, rfl, ?_⟩
          exact qb (q H19 FT19 ((hp17.same s179).mono (by omega)) (T17.ext s179)) (decide_eq_true rfl).symm
        · refine ⟨_, rfl, x, dx, _, rfl, So17.ins, rfl, _, rfl, x, dx, dk, g, s', A', D, _, rfl, So17, St17, .inr (.inr (.inl ⟨ii, _, rfl, hvers, ps, rows, fs, hvers, hsh, hG, fun H18 s18 => ?_⟩))⟩
          refine ⟨_, rfl, rfl, _, rfl, itd (fun _ => ?_) (fun e => absurd rfl e)⟩
          have FT18 : FrT p H H18 := FT17.trans (FrT.of fun b o _ e => s18 b o e)
          refine ⟨_, rfl, _, rfl, .inl ⟨pageOf fs, rfl, by have := page_len hG; omega, rowsIn (pageOf fs), rfl, fun H19 p2 fs2 e2 s19 hfs _ _ => ?_, fun H' j d e => by rw [read_page hG] at e; cases e⟩⟩
          rw [read_page hG] at e2
          cases e2
          have s179 : Same H17 H19 := s18.trans s19
          have ff := fits_files (good_shw hG)
          have FT19 : FrT p H H19 := FT17.trans (FrT.of fun b o _ e => s179 b o e)
          have ts19 : TSame H H19 := fun c xs e => FT19 c _ (by
            obtain ⟨pa, pb, pc, q1, _⟩ := hp
            exact ne_of e q1 (by intro z; cases z)) e (fun ps z => by cases z)
          have hf19 : FsAt H19 t fs := ⟨vs, ts19 _ _ hfv, hvs.mono fun _ _ z => z.ts ts19⟩
          refine ⟨_, _, rfl, dr_fs hfs, ff.able, ff.deep, ff.len, _, rfl, _, _, rfl, dr_fs hf19, ff.able, ff.deep, ff.len, rfl, ?_⟩
          exact qb (q H19 FT19 ((hp17.same s179).mono (by omega)) (T17.ext s179)) (decide_eq_true rfl).symm
      · have hvi : v = .int ii := by
          rcases hv with e | e
          · exact absurd e hnv
          · exact e
        subst hvi
        refine ⟨_, rfl, _, rfl, (by show 2 ≤ sizeLine; decide), fun l2 hl2 => ⟨p, n + 1, hp9.upd (hp9.ne hl2), by omega, .inl ⟨l2, _, rfl, SqL.of upd_same, hp9.ne hl2, by simp, by simp, fun H10 u f10 hp10 hu => kR _ _ ⟨(Frm.new hl2).trans f10, hp10.mono (by omega), by simpa using hu⟩⟩⟩⟩
end
end Sk
/-! K93ZM: the law is right. -/
namespace Sk
open PySem PySem.Spec PyProof.Rows L2
section
variable {P : Program} {w : World} {K : PySem.W.Frag} {mg : Str → Option Value} {base : Heap}
def spLawRight (TA : Addr) : Sp := fun vs H Q _ => ∃ (p : Addr), vs = [.ref p] ∧ PotAt H p 0 ∧ LamX.Tabs [(TA, qLam)] H ∧ ∀ H', FrT p H H' → LamX.Tabs [(TA, qLam)] H' → Q (.bl true) H'
abbrev N_law_right : List Str := ["_law_pot_here", "_law_files", "_law_page", "_law_turn", "_law_near"]
theorem sc_law_right : FnScope N_law_right ["_law_pot_here"] (defScope s_law_right) := ⟨rfl, rfl, rfl, by decide +kernel, rfl, by decide +kernel, by decide +kernel⟩
theorem ok_law_right (G : PgOk P) (T : Wt K mg) {TA : Addr} (TB : LamX.TabB base mg (codeAd K (pAd K d_law_shown_right.at_)) TA) : DefG P w K mg base 10 d_law_right 1 (spLawRight TA) := by
  have D_law_drawn := ok_law_drawn (P := P) (w := w) (base := base) T
  have D_law_written := ok_law_written (P := P) (w := w) (base := base) T
  have D_law_spoilt := ok_law_spoilt (P := P) (w := w) (base := base) T
  have D_law_value := ok_law_value (P := P) (w := w) (base := base) T
  have D_law_is_right := ok_law_is_right (P := P) (w := w) (base := base) G T
  have D_law_shown_right := ok_shown_right (P := P) (w := w) (base := base) G T TB
  refine mk_defG (ps := ["_law_pot_here"]) (F_law_right T) rfl sc_law_right (fun vs H Q E h => ?_) (fun _ _ _ _ _ _ us hl => match us, hl with | [_], _ => rfl) (fun cdv A outer s H vs Q ec hc hr h => ?_)
  · obtain ⟨p, rfl, _⟩ := h
    rfl
  · have sc := sc_law_right
    obtain ⟨p, rfl, hp, hT, q⟩ := h
    refine ⟨_, (pss_cons (ps_set (i := 1) sc.nd rfl (Or.inl rfl) (pcall D_law_drawn (hr.mono (by decide)) (by rfl) (g_law_drawn T) passL (pa_cons (pv 0) pa_nil)))
      (pss_cons (ps_set (i := 2) sc.nd rfl (Or.inl rfl) (pcall D_law_written (hr.mono (by decide)) (by rfl) (g_law_written T) passL (pa_cons (pv 1) pa_nil)))
      (pss_cons (ps_if (pt_not (pt_val (pcallG D_law_shown_right hc (hr.mono (by decide)) (by rfl) (g_law_shown_right T) (pa_cons (pv 0) (pa_cons (pv 1) pa_nil)))))
        (pss_one (ps_ret pe_bl))
        pss_nil)
      (pss_cons (ps_for PassesOwn.never rfl (pi_range1 (by rfl) (z_range T) (pa_cons pe_int pa_nil)) (pg_name (i := 3) sc.nd rfl (Or.inl rfl))
        (pss_cons (ps_set (i := 4) sc.nd rfl (Or.inl rfl) (pcall D_law_spoilt (hr.mono (by decide)) (by rfl) (g_law_spoilt T) passL (pa_cons (pv 0) (pa_cons (pe_slice sl_str (pv 2) po_none (po_some pe_int)) pa_nil))))
        (pss_one (ps_if (PW.pt (pw_or (pt_not (pt_val (pcallG D_law_is_right hc (hr.mono (by decide)) (by rfl) (g_law_is_right T) (pa_cons (pv 4) pa_nil)))) (pw_or1 (pt_not (pt_val (pcallG D_law_is_right hc (hr.mono (by decide)) (by rfl) (g_law_is_right T) (pa_cons (pcall D_law_spoilt (hr.mono (by decide)) (by rfl) (g_law_spoilt T) passL (pa_cons (pv 0) (pa_cons (pv 4) pa_nil))) pa_nil)))))))
          (pss_one (ps_ret pe_bl))
          pss_nil))))
      (pss_one (ps_ret (pe_callB (cr_all rfl) (by rfl) (z_all T) (by decide +kernel) (pa_cons (pe_lc (own := [("_law_turn", 3)]) rfl sc.nd (pi_range1 (by rfl) (z_range T) (pa_cons pe_int pa_nil)) (blkOk_by (N := N_law_right) (sc := defScope s_law_right) (by decide +kernel)) (fun _ _ _ _ _ => (pg_name (i := 3) sc.nd rfl (Or.inl rfl))) (fun _ _ _ _ _ => pts_nil) (fun _ _ _ _ _ => (pcallG D_law_is_right hc (hr.mono (by decide)) (by rfl) (g_law_is_right T) (pa_cons (pcall D_law_value (hr.mono (by decide)) (by rfl) (g_law_value T) passL (pa_cons (pv 0) pa_nil)) pa_nil)))) pa_nil)))))))), ?_⟩
    refine ⟨_, rfl, p, 0, rfl, hp, by decide, fun H1 t fs f1 hp1 hfs hG => set_ ?_⟩
    refine ⟨_, rfl, t, fs, rfl, hfs, hG, fun H2 s2 => set_ ?_⟩
    have f2 : Frm p H H2 := f1.trans fun b o _ e => s2 b o e
    have T2 := tabs_frm hT f2 hp
    refine ⟨_, rfl, _, rfl, p, 0 + 8000, t, fs, rfl, hp1.same s2, by decide, hfs.ts (same_ts s2), hG, T2, fun H3 F3 hp3 T3 => ⟨true, rfl, itb (fun e => absurd e (by decide)) (fun _ => nxt_ ?_)⟩⟩
    have FT3 : FrT p H H3 := (FrT.of f2).trans F3
    have pl := page_len hG
    have ps := page_small hG
    have hsz : (pageOf fs).length ≤ sizeLine := small_sz (by omega)
    have c3 : OkS 3000 (cutS (pageOf fs) none (some 3000)) := ⟨(cutS_small ps none (some 3000)).1, by
      have z := cut_lo (pageOf fs) 3000
      have z2 := congrArg List.length z
      rw [cl_len, List.length_take] at z2
      have z3 : (cutS (pageOf fs) none (some ((3000 : Nat) : Int))).length ≤ 3000 := by omega
      exact z3⟩
    refine ⟨12, rfl, by decide, by decide, ?_⟩
    refine for_it (walk_range (lo := 0) (n := (12 : Int).toNat)) (fun i σ H' => ∃ a b, σ = [some (.ref p), some (.ref t), some (.str (pageOf fs)), a, b] ∧ FrT p H H' ∧ PotAt H' p (8003 + 20 * (i : Int)) ∧ LamX.Tabs [(TA, qLam)] H') ⟨none, none, rfl, FT3, hp3.mono (by omega), T3⟩ (fun _ _ _ _ _ => trivial) (fun i x σ H4 H4' hi ⟨a, b, eσ, F4, hp4, T4⟩ hy => ?_) (fun σ H4 ⟨a, b, eσ, F4, hp4, T4⟩ => ?_)
    · obtain ⟨rfl, rfl⟩ := hy
      subst eσ
      have hi12 : i < 12 := hi
      refine ⟨_, rfl, _, rfl, _, rfl, _, rfl, hsz, ?_⟩
      generalize cutS (pageOf fs) none (some 3000) = cz at c3
      have c3l := c3.2
      refine ⟨p, _, cz, rfl, hp4, by omega, c3.1, by omega, fun H5 y f5 hp5 hy => set_ ?_⟩
      have yl := hy.2
      refine ⟨_, rfl, .str y, rfl, .inl ⟨y, rfl, hy.1, by omega⟩, fun H6 s6 => ⟨true, rfl, itb (fun e => absurd e (by decide)) (fun _ => ?_)⟩⟩
      refine ⟨_, rfl, _, rfl, p, _, y, rfl, hp5.same s6, by omega, hy.1, by omega, fun H7 y2 f7 hp7 hy2 => ?_⟩
      have yl2 := hy2.2
      refine ⟨.str y2, rfl, .inl ⟨y2, rfl, hy2.1, by omega⟩, fun H8 s8 => ⟨true, rfl, itb (fun e => absurd e (by decide)) (fun _ => nxt_ ?_)⟩⟩
      have g5 : Frm p _ H6 := f5.trans fun b o _ e => s6 b o e
      have g8 : Frm p H6 H8 := f7.trans fun b o _ e => s8 b o e
      exact ⟨_, _, rfl, F4.trans ((FrT.of g5).trans (FrT.of g8)), (hp7.same s8).mono (by omega), tabs_frm (tabs_frm T4 g5 hp4) g8 (hp5.same s6)⟩
    · subst eσ
      refine ⟨6, rfl, by decide, by decide, fun D hD => ?_⟩
      have nDp := hp4.ne hD
      have F5 : FrT p H (upd H4 D (.lst [])) := F4.trans (FrT.of (Frm.new hD))
      refine lc_it (walk_range (lo := 0) (n := (6 : Int).toNat)) (fun i H' => Kp [D, p] H4 H' ∧ FrT p H H' ∧ PotAt H' p (8300 + 20 * (i : Int)) ∧ LamX.Tabs [(TA, qLam)] H' ∧ H' D = some (.lst (List.replicate i (.bl true)))) ⟨(Kp.refl _ _).nw hD, F5, (hp4.upd nDp).mono (by show (8003 : Int) + 20 * (((12 : Int).toNat : Nat) : Int) ≤ _; decide), T4.ext (nw (Same.refl _) hD), upd_same⟩ (fun _ _ _ _ => trivial) (fun i x H5 H5' hi ⟨k5, F5, hp5, T5, hD5⟩ hy => ?_) (fun H5 ⟨k5, F5, hp5, T5, hD5⟩ => ?_)
      · obtain ⟨rfl, rfl⟩ := hy
        have hi6 : i < 6 := hi
        refine ⟨rfl, _, rfl, p, _, rfl, hp5, by omega, fun H6 v f6 hp6 hv => ⟨v, rfl, hv, fun H7 s7 => ?_⟩⟩
        have g7 : Frm p _ H7 := f6.trans fun b o _ e => s7 b o e
        have hD7 : H7 D = some (.lst (List.replicate i (.bl true))) := g7 _ _ nDp hD5
        have T7 := tabs_frm T5 g7 hp5
        refine ⟨_, hD7, by rw [List.length_replicate]; exact Nat.lt_of_lt_of_le hi6 (by decide), fun b o hb e => ?_, fun b o hb e nt => ?_, ?_, tabs_kp T7 (S := [D]) ((Kp.refl _ _).put (by simp)) (fun q hq o e => ?_), ?_⟩
        · have z : b ≠ D ∧ b ≠ p := by simpa using hb
          rw [upd_ne z.1]
          exact g7 b o z.2 (k5 b o hb e)
        · have z := F4 b o hb e nt
          rw [upd_ne (ne_of_none z hD)]
          exact g7 b o hb (F5 b o hb e nt)
        · have z := (hp6.same s7).upd (o := .lst (List.replicate i (.bl true) ++ [.bl true])) nDp
          exact z.mono (by omega)
        · rw [List.mem_singleton.mp hq, hD7] at e
          cases e
          exact nt_l
        · rw [upd_same, List.replicate_succ']
      · exact ⟨D, List.replicate 6 true, rfl, SqL.of hD5, q H5 F5 T5⟩
end
end Sk
/-! K93ZN: the law. -/
namespace Sk
open PySem PySem.Spec PyProof.Rows L2
section
variable {P : Program} {w : World} {K : PySem.W.Frag} {mg : Str → Option Value} {base : Heap}
def spLaw (K : PySem.W.Frag) (TA : Addr) : Sp := fun vs H Q _ => ∃ (a : Addr) (ns : List Int), vs = [.ref a] ∧ SqL K H a (ns.map V.int) ∧ LamX.Tabs [(TA, qLam)] H ∧ ∀ H', Q (.bl true) H'
abbrev N_law : List Str := ["_law_script", "_law_k"]
theorem sc_law : FnScope N_law ["_law_script"] (defScope s_law) := ⟨rfl, rfl, rfl, by decide +kernel, rfl, by decide +kernel, by decide +kernel⟩
theorem ok_law (G : PgOk P) (T : Wt K mg) {TA : Addr} (TB : LamX.TabB base mg (codeAd K (pAd K d_law_shown_right.at_)) TA) : DefG P w K mg base 11 d_law 1 (spLaw K TA) := by
  have D_law_pot := ok_law_pot (P := P) (w := w) (base := base) T
  have D_law_right := ok_law_right (P := P) (w := w) (base := base) G T TB
  refine mk_defG (ps := ["_law_script"]) (F_law T) rfl sc_law (fun vs H Q E h => ?_) (fun _ _ _ _ _ _ us hl => match us, hl with | [_], _ => rfl) (fun cdv A outer s H vs Q ec hc hr h => ?_)
  · obtain ⟨a, ns, rfl, _⟩ := h
    rfl
  · have sc := sc_law
    obtain ⟨a, ns, rfl, ha, hT, q⟩ := h
    refine ⟨_, (pss_cons (ps_for PassesOwn.never rfl (pi_range1 (by rfl) (z_range T) (pa_cons (pe_callB (call_max2 rfl) (by rfl) (z_max T) (by decide +kernel) (pa_cons pe_int (pa_cons (pe_callB (call_min2 rfl) (by rfl) (z_min T) (by decide +kernel) (pa_cons pe_int (pa_cons (pe_callB call_len_seq (by rfl) (z_len T) (by decide +kernel) (pa_cons (pv 0) pa_nil)) pa_nil))) pa_nil))) pa_nil)) (pg_name (i := 1) sc.nd rfl (Or.inl rfl))
        (pss_one (ps_if (pt_not (pt_val (pcallG D_law_right hc (hr.mono (by decide)) (by rfl) (g_law_right T) (pa_cons (pcall D_law_pot (hr.mono (by decide)) (by rfl) (g_law_pot T) passL (pa_cons (pv 0) (pa_cons (pv 1) pa_nil))) pa_nil))))
          (pss_one (ps_ret pe_bl))
          pss_nil)))
      (pss_one (ps_ret pe_bl))), ?_⟩
    refine ⟨_, rfl, a, _, rfl, .inl ha, 2, _, rfl, 1, _, rfl, _, rfl, ?_, ?_, ?_⟩
    · split <;> split <;> omega
    · split <;> split <;> omega
    have hj : (if (if (((ns.map V.int).length : Nat) : Int) < 2 then (((ns.map V.int).length : Nat) : Int) else 2) > 1 then (if (((ns.map V.int).length : Nat) : Int) < 2 then (((ns.map V.int).length : Nat) : Int) else 2) else 1).toNat ≤ 2 := by split <;> split <;> omega
    generalize (if (if (((ns.map V.int).length : Nat) : Int) < 2 then (((ns.map V.int).length : Nat) : Int) else 2) > 1 then (if (((ns.map V.int).length : Nat) : Int) < 2 then (((ns.map V.int).length : Nat) : Int) else 2) else 1).toNat = m at hj
    refine for_it (walk_range (lo := 0) (n := m)) (fun i σ H' => ∃ b, σ = [some (.ref a), b] ∧ SqL K H' a (ns.map V.int) ∧ LamX.Tabs [(TA, qLam)] H') ⟨none, rfl, ha, hT⟩ (fun _ _ _ _ _ => trivial) (fun i x σ H1 H1' hi ⟨b, eσ, ha1, T1⟩ hy => ?_) (fun σ H1 ⟨b, eσ, ha1, T1⟩ => ?_)
    · obtain ⟨rfl, rfl⟩ := hy
      subst eσ
      refine ⟨_, rfl, _, rfl, a, ns, 0 + (i : Int), rfl, ha1, by omega, by omega, fun H2 p s2 hp hp0 => ?_⟩
      refine ⟨p, rfl, hp, T1.ext s2, fun H3 F3 T3 => ⟨true, rfl, itb (fun e => absurd e (by decide)) (fun _ => nxt_ ⟨_, rfl, ?_, T3⟩)⟩⟩
      rcases ha1 with (h | ⟨o, h⟩) | h
      · exact .inl (.inl (F3 _ _ (ne_of_none h hp0) (s2 _ _ h) (fun ps z => by cases z)))
      · exact .inl (.inr ⟨o, F3 _ _ (ne_of_none h hp0) (s2 _ _ h) (fun ps z => by cases z)⟩)
      · exact .inr h
    · subst eσ
      exact q H1
end
end Sk
namespace Sk
open PySem PySem.W PySem.Calls PyProof.Rows HandSHeadRun
abbrev hk : Hook := hookT as_ fa fn d_law_shown_right
def ob (s : SharedT) : Bool × Al := (tabB (He.frG (getT s) as_) (getT s) (pAd (He.frG (getT s) as_) d_law_shown_right.at_), obsXG as_ fa fn (getT s))
theorem ob_eq (s : SharedT) : ob s = hk.obs s.abs := by
  have e : getT s = s.abs.heap.get? := funext (getT_eq s)
  show (_, _) = (_, _)
  rw [e]
theorem pair_of {α β γ : Type} {e : Option α} {f : α → β} {g : α → γ} {b : β} {c : γ} (h1 : e.map f = some b) (h2 : e.map g = some c) : e.map (fun s => (f s, g s)) = some (b, c) := by
  cases e with
  | none => cases h1
  | some s =>
    have a1 := Option.some.inj h1
    have a2 := Option.some.inj h2
    show some (f s, g s) = some (b, c)
    rw [a1, a2]
theorem all_of {α β : Type} {e : Option α} {l m : List β} {f : α → β → Bool} (h1 : e.map (fun s => l.all (f s)) = some true) (h2 : e.map (fun s => m.all (f s)) = some true) : e.map (fun s => (l ++ m).all (f s)) = some true := by
  cases e with
  | none => cases h1
  | some s =>
    have a1 : l.all (f s) = true := Option.some.inj h1
    have a2 : m.all (f s) = true := Option.some.inj h2
    show some ((l ++ m).all (f s)) = some true
    rw [List.all_append, a1, a2]
    rfl
theorem fa_eq : fa = (fa0 ++ fa1) ++ (fa2 ++ (fa3 ++ fa4)) := by
  unfold fa
  rw [List.append_assoc]
theorem run3a (w : World) (os : OsState) : (endF (stepQ (denQ tabQ) RR.prog w) 12600 RR.prog w os).map (fun s => fa.all fun f => f.ok (He.frG (getT s) as_)) = some true := by
  rw [fa_eq]
  exact all_of (e := (endF (stepQ (denQ tabQ) RR.prog w) 12600 RR.prog w os)) (l := fa0 ++ fa1) (m := fa2 ++ (fa3 ++ fa4)) (f := fun s f => f.ok (He.frG (getT s) as_)) (run3a1 w os) (run3a2 w os)
theorem run3b (w : World) (os : OsState) : (endF (stepQ (denQ tabQ) RR.prog w) 12600 RR.prog w os).map (fun s => fn.all fun d => d.ok (He.frG (getT s) as_)) = some true :=
  all_of (e := (endF (stepQ (denQ tabQ) RR.prog w) 12600 RR.prog w os)) (l := fn0) (m := fn1) (f := fun s d => d.ok (He.frG (getT s) as_)) (run3b1 w os) (run3b2 w os)
theorem run3o (w : World) (os : OsState) : (endF (stepQ (denQ tabQ) RR.prog w) 12600 RR.prog w os).map (fun s => obsXG as_ fa fn (getT s)) = some (valX fn) := obs_of (run3a w os) (run3b w os) (run3c w os)
theorem run3p (w : World) (os : OsState) : (endF (stepQ (denQ tabQ) RR.prog w) 12600 RR.prog w os).map (fun s => (tabB (He.frG (getT s) as_) (getT s) (pAd (He.frG (getT s) as_) d_law_shown_right.at_), obsXG as_ fa fn (getT s))) = some (true, valX fn) :=
  pair_of (e := (endF (stepQ (denQ tabQ) RR.prog w) 12600 RR.prog w os)) (f := fun s => tabB (He.frG (getT s) as_) (getT s) (pAd (He.frG (getT s) as_) d_law_shown_right.at_)) (g := fun s => obsXG as_ fa fn (getT s)) (run3d w os) (run3o w os)
theorem run3 (w : World) (os : OsState) : (endF (stepQ (denQ tabQ) RR.prog w) 12600 RR.prog w os).map ob = some (hk.val w) := run3p w os
theorem run (w : World) : HandSHeadRun.RunEq RR viewQ hk ob 12600 loose w := fun os => run_of (H := hk) (run1 w os) (run2 w os) (run3 w os)
theorem room11 : L2.Room 11 callerA := ⟨rfl, by decide, by decide⟩
end Sk
namespace Sk
open PySem PySem.W PySem.Calls PyProof.Rows HandSHeadRun
theorem pg : PgOk PySem.Challenge.rw_siftstore_k93_texts_of_files.prog := ⟨by decide +kernel, by decide +kernel⟩
theorem end_ : PySem.W.WalkO viewQ loose (XL viewQ []) hk.says RR.toRowW (HandSHeadRun.topDef RR.prog 146) [] (fun f vs => PySem.call f vs) := by
  refine walk_G (l := PySem.Challenge.rw_siftstore_k93_texts_of_files) (m := 63) (k := 11) rfl (by decide) rfl ?_ fun w mg fa h Y hns hmg => ?_
  · exact room11
  · obtain ⟨K, KX, says, tf⟩ := Y
    have T : Wt K mg := ⟨says, h, KX, hns⟩
    have ef : fa = pAd K d_law.at_ := by
      have z := g_law T
      have hmg' : mg "law" = some (.ref fa) := hmg
      rw [z] at hmg'
      exact (Value.ref.inj (Option.some.inj hmg')).symm
    exact ⟨K, d_law, 1, spLaw K (tabAd K (pAd K d_law_shown_right.at_)), codeAd K (pAd K d_law_shown_right.at_), tabAd K (pAd K d_law_shown_right.at_), KX, ef, codeHd_of_K KX tf.hd, tf.at_, tf.no, fun base hk2 hn2 TB => ok_law pg T TB,
      fun H a ns hl hb hT ha => ⟨a, ns, rfl, ha, fun p hp => by rw [List.mem_singleton.mp hp]; exact LamX.TabS.nil hT, fun H' => rfl⟩⟩
end Sk
open PySem PySem.W PySem.Calls PyProof.Rows
theorem PySem.Challenge.cw_siftstore_k93_texts_of_files_holds : PySem.Challenge.rw_siftstore_k93_texts_of_files.Holds := by
  w_on; o_law
  refine HandSHeadRun.head_any (r := OpenLaw.row PySem.Challenge.rw_siftstore_k93_texts_of_files) (q := Sk.viewQ) (H := Sk.hk) (ob := Sk.ob) (M := 12600) (loose := Sk.loose) (d := HandSHeadRun.topDef Sk.RR.prog 146) (kwd := []) Sk.ob_eq (by kernel_rfl) (fun s => by kernel_rfl) Sk.run (by rfl) (by rfl) (by rfl) (by rfl) (by first | assumption | decide +kernel) (by decide +kernel) ⟨rfl, rfl, rfl, rfl, rfl, by decide +kernel⟩ ?hw ?hc
  case hw => w_witness2
  case hc => exact Sk.end_
