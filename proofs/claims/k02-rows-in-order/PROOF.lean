import PyProof.Rows.All
import Wide.All
import OpenK.AllK
import Wide.FinOn
import HandS.ForMost
import HandS.ForExc
import HandS.Defaults
import HandS.IsInst
import HandS.CallSlots
import HandS.Wide
import HandS.HeadHook2
import HandS.HeadHook4
import HandS.Lambda
import HandS.EndTab
import PyProof.ReprRoads
import HandS.TupAny
import HandS.TupMul
import HandS.EndBits
import HandS.Head0
import HandS.Head1
import HandS.Head2
import HandS.HeadHook1
import HandS.WordsExc
import HandS.Conv
import HandS.Style
import HandS.TupLe
import HandS.SortRule
import KE.SortData
import KE.DataCmp
import HandS.Deep
import HandS.ExcInit
import HandS.ExcField
import HandS.ExcIs
import HandS.TryOnly
import KE.KExcIs
import HandS.Small
import HandS.RaiseMore
import HandS.Zip
import HandS.Dict
import HandS.More
import HandS.Iter
import KE.DataMinMax
import HandS.SetFor
import HandS.DictComp
import KE.KUnpackStar
import HandS.HeadHook3
import HandS.MakeKw
import PyProof.InstSpecial
import HandS.SetKeys
import HandS.SetBool
import HandS.Strs
import HandS.Rev
import HandS.RevTup
import HandS.DictTup
import PyProof.EqAt
import PyProof.MeetsSeq
import KE.SortKeyHeap
import HandS.SortKw
import PyProof.P3In
import PyProof.FactsAll.dict
import PyProof.ReprLen
import PyProof.CallFns
import PySem.Challenge.RW_spillhall_k02_rows_in_order
set_option Elab.async false
set_option linter.all false
set_option maxRecDepth 100000
set_option maxHeartbeats 4000000
namespace DL
section
open PySem L2

def lamDefs : List (He.Defn × Str) := [(("ordered", none), "ordered.<locals>.<lambda>")]
def tabsOf (K : PySem.W.Frag) : List (Addr × Str) := lamDefs.filterMap fun p =>
  if PySem.W.codeHdIn K (He.cT K p.1).1 (He.cT K p.1).2 && (K.lookup (He.cT K p.1).2).isNone then some ((He.cT K p.1).2, p.2) else none
end
end DL
namespace DL
section
open PySem L2 PyProof.Rows
def excI (K : PySem.W.Frag) (C : Addr) : Bool := (PySem.W.clsIn K C).isSome && (decide (PySem.W.findIn K (.ref C) "__getattribute__" = some (some (.builtin "BaseException.__getattribute__"))) && (decide (PySem.W.findIn K (.ref C) "__getattr__" = some none) &&
  (decide (PySem.W.subIn K (.ref C) (.type "BaseException") = some true) && (PySem.W.hasDictIn K C && (decide (PySem.W.findIn K (.ref C) "__class__" = some (some (.builtin "object.__class__"))) && (decide (PySem.W.specialIn K (.builtin "object.__class__") "__get__" = some (some (.builtin "getset_descriptor.__get__"))) &&
  (decide (PySem.W.takesIn K (.builtin "object.__class__") = some true) && decide (PySem.W.mroIn K C (.type "object") = some true))))))))
end
end DL
namespace DL
section
open PySem L2 PyProof.Rows PySem.Spec
structure XS where
  cs : List (Str × Option (List Str))
  own : List Str
  blt : List (String × Bool)
def isSub (c x : Str) : Bool := decide (x = c) || decide (x = "SpillError")
def xOne (K : PySem.W.Frag) (S : XS) (p : Str × Option (List Str)) : Bool := excI K (He.ga K p.1) && ((S.own.all fun x => decide (PySem.W.kitOne K (.ref (He.ga K p.1)) (.ref (He.ga K x)) = some (isSub p.1 x)) && decide (PySem.W.exmOne K (.ref (He.ga K p.1)) (.ref (He.ga K x)) = some (isSub p.1 x))) &&
  ((S.blt.all fun q => decide (PySem.W.kitOne K (.ref (He.ga K p.1)) (.type q.1) = some q.2)) && match p.2 with
  | none => true
  | some fs => fs.all fun f => decide (PySem.W.findIn K (.ref (He.ga K p.1)) f = some none)))
def xAll (S : XS) (K : PySem.W.Frag) : Bool := S.cs.all fun p => xOne K S p
end
end DL
namespace DL
section
open PySem L2 PySem.W PyProof.Rows LamX
structure TabE (h : Heap) (K : PySem.W.Frag) (p : He.Defn) : Prop where
  hd : PySem.W.codeHdIn K (He.cT K p).1 (He.cT K p).2 = true
  out : K.lookup (He.cT K p).2 = none
  empty : h.get? (He.cT K p).2 = some { cls := .none, data := .fields #[] }
def tabsInB (K : PySem.W.Frag) (tf : List He.Defn) : Bool := (tabsOf K).all fun q => tf.any fun p => (He.cT K p).2 == q.1
def lamB (K : PySem.W.Frag) (dn : He.Defn) (nm : Str) : Bool := (tabsOf K).any (fun q => q.1 == (He.cT K dn).2 && q.2 == nm) && (tabsOf K).all fun q => !(q.1 == (He.cT K dn).2) || q.2 == nm
end
end DL
namespace DL
section
open PySem L2 PySem.W PyProof.Rows LamX
abbrev ObW : Type := (He.AlD × Bool) × List (Option (List (Option (Str × Int))))
def obsVG (as : List Addr) (fa : List He.Fa) (fn : List He.DefD) (ex : PySem.W.Frag → Bool) (ts : List (Str × List Str)) (tf : List He.Defn) (g : Addr → Option Obj) : ObW :=
  ((He.obsD fa fn (He.frT g as), ex (He.frT g as) && He.tabsB g tf (He.frT g as)), ts.map fun q : Str × List Str => He.dicW (He.frT g as) (He.ga (He.frT g as) q.1))
def hookV (as : List Addr) (fa : List He.Fa) (fn : List He.DefD) (ex : PySem.W.Frag → Bool) (ts : List (Str × List Str)) (tf : List He.Defn) : PySem.W.Hook where
  α := ObW
  obs := fun s => obsVG as fa fn ex ts tf s.heap.get?
  val := fun w => ((He.valD fn, true), ts.map fun q : Str × List Str => some (He.keysIn w.params q.2))
  says := fun w h => ∃ K : PySem.W.Frag, K.In h ∧ He.SaysD fa fn K ∧ ex K = true ∧ ((ts.map fun q : Str × List Str => He.dicW K (He.ga K q.1)) = ts.map fun q : Str × List Str => some (He.keysIn w.params q.2)) ∧ ∀ p ∈ tf, TabE h K p
  of := fun w s e => by
    have e1 : He.obsD fa fn (He.frT s.heap.get? as) = He.valD fn := congrArg (fun z : ObW => z.1.1) e
    have e2 : (ex (He.frT s.heap.get? as) && He.tabsB s.heap.get? tf (He.frT s.heap.get? as)) = true := congrArg (fun z : ObW => z.1.2) e
    have e3 := congrArg (fun z : ObW => z.2) e
    rw [Bool.and_eq_true] at e2
    refine ⟨_, He.frT_in, e1, e2.1, e3, fun p hp => ?_⟩
    have h := List.all_eq_true.mp e2.2 p hp
    rw [Bool.and_eq_true] at h
    obtain ⟨h3, h4⟩ := h
    cases q : s.heap.get? (He.cT (He.frT s.heap.get? as) p).2 with
    | none => rw [q] at h4; cases h4
    | some o =>
      rw [q] at h4
      exact ⟨h3, He.frT_none q h4, by rw [q, He.emptyTab_eq h4]⟩
  keeps := fun _ _ _ ⟨K, hK, h1, h2, h3, h4⟩ k => ⟨K, PySem.W.Frag.In.keeps hK k, h1, h2, h3, fun p hp => ⟨(h4 p hp).hd, (h4 p hp).out, k _ _ (h4 p hp).empty⟩⟩
end
end DL
namespace DL
section
open PySem L2
def sysB (K : PySem.W.Frag) : Bool := match K.lookup sysModules with
  | some o => match o.cls with
    | .type n => n == "dict"
    | _ => false
  | none => false
end
end DL
namespace K02
section
open PySem L2 DL
def top (i : Nat) : Stmt := PySem.Challenge.pw_spillhall_k02_rows_in_order.main.body.getD i (.Pass ⟨0, 0, 0, 0⟩)
abbrev s_is_number : Stmt := top 11
abbrev s_is_row : Stmt := top 12
abbrev s_is_rows : Stmt := top 13
abbrev s_look : Stmt := top 14
abbrev s_less : Stmt := top 15
abbrev s_ordered : Stmt := top 16
abbrev s_is_ordered : Stmt := top 17
abbrev s_same_rows : Stmt := top 18
abbrev s_law_deck : Stmt := top 20
abbrev s_law_next : Stmt := top 21
abbrev s_law_whole : Stmt := top 22
abbrev s_law_number : Stmt := top 23
abbrev s_law_rows : Stmt := top 24
abbrev s_law_first : Stmt := top 25
abbrev s_law_in_order : Stmt := top 26
abbrev s_law_same : Stmt := top 27
abbrev s_law_alike : Stmt := top 28
abbrev s_law_other : Stmt := top 29
abbrev s_law_right : Stmt := top 30
abbrev s_law_neighbours : Stmt := top 31
abbrev s_law_no_rows : Stmt := top 32
abbrev s_law_no_column : Stmt := top 33
abbrev s_law_refusal : Stmt := top 34
abbrev s_law_refused : Stmt := top 35
abbrev s_law : Stmt := top 36
def XSd : XS := ⟨[("NoRows", none), ("NoColumn", none)], ["SpillError", "NoRows", "NoColumn", "NoTable", "NoQuery", "TooMany", "NoCount", "NotOrdered"], [("ValueError", true)]⟩
def q_is_number : He.DefD := ⟨("is_number", none), "is_number", "is_number", defArgs s_is_number, defBody s_is_number, defScope s_is_number, [], []⟩
def q_is_row : He.DefD := ⟨("is_row", none), "is_row", "is_row", defArgs s_is_row, defBody s_is_row, defScope s_is_row, [], []⟩
def q_is_rows : He.DefD := ⟨("is_rows", none), "is_rows", "is_rows", defArgs s_is_rows, defBody s_is_rows, defScope s_is_rows, [], []⟩
def q_look : He.DefD := ⟨("look", none), "look", "look", defArgs s_look, defBody s_look, defScope s_look, [], []⟩
def q_less : He.DefD := ⟨("less", none), "less", "less", defArgs s_less, defBody s_less, defScope s_less, [], []⟩
def q_ordered : He.DefD := ⟨("ordered", none), "ordered", "ordered", defArgs s_ordered, defBody s_ordered, defScope s_ordered, [], []⟩
def q_is_ordered : He.DefD := ⟨("is_ordered", none), "is_ordered", "is_ordered", defArgs s_is_ordered, defBody s_is_ordered, defScope s_is_ordered, [], []⟩
def q_same_rows : He.DefD := ⟨("same_rows", none), "same_rows", "same_rows", defArgs s_same_rows, defBody s_same_rows, defScope s_same_rows, [], []⟩
def q_law_deck : He.DefD := ⟨("_law_deck", none), "_law_deck", "_law_deck", defArgs s_law_deck, defBody s_law_deck, defScope s_law_deck, [], []⟩
def q_law_next : He.DefD := ⟨("_law_next", none), "_law_next", "_law_next", defArgs s_law_next, defBody s_law_next, defScope s_law_next, [], []⟩
def q_law_whole : He.DefD := ⟨("_law_whole", none), "_law_whole", "_law_whole", defArgs s_law_whole, defBody s_law_whole, defScope s_law_whole, [], []⟩
def q_law_number : He.DefD := ⟨("_law_number", none), "_law_number", "_law_number", defArgs s_law_number, defBody s_law_number, defScope s_law_number, [], []⟩
def q_law_rows : He.DefD := ⟨("_law_rows", none), "_law_rows", "_law_rows", defArgs s_law_rows, defBody s_law_rows, defScope s_law_rows, [], []⟩
def q_law_first : He.DefD := ⟨("_law_first", none), "_law_first", "_law_first", defArgs s_law_first, defBody s_law_first, defScope s_law_first, [], []⟩
def q_law_in_order : He.DefD := ⟨("_law_in_order", none), "_law_in_order", "_law_in_order", defArgs s_law_in_order, defBody s_law_in_order, defScope s_law_in_order, [], []⟩
def q_law_same : He.DefD := ⟨("_law_same", none), "_law_same", "_law_same", defArgs s_law_same, defBody s_law_same, defScope s_law_same, [], []⟩
def q_law_alike : He.DefD := ⟨("_law_alike", none), "_law_alike", "_law_alike", defArgs s_law_alike, defBody s_law_alike, defScope s_law_alike, [], []⟩
def q_law_other : He.DefD := ⟨("_law_other", none), "_law_other", "_law_other", defArgs s_law_other, defBody s_law_other, defScope s_law_other, [], []⟩
def q_law_right : He.DefD := ⟨("_law_right", none), "_law_right", "_law_right", defArgs s_law_right, defBody s_law_right, defScope s_law_right, [], []⟩
def q_law_neighbours : He.DefD := ⟨("_law_neighbours", none), "_law_neighbours", "_law_neighbours", defArgs s_law_neighbours, defBody s_law_neighbours, defScope s_law_neighbours, [], []⟩
def q_law_no_rows : He.DefD := ⟨("_law_no_rows", none), "_law_no_rows", "_law_no_rows", defArgs s_law_no_rows, defBody s_law_no_rows, defScope s_law_no_rows, [], []⟩
def q_law_no_column : He.DefD := ⟨("_law_no_column", none), "_law_no_column", "_law_no_column", defArgs s_law_no_column, defBody s_law_no_column, defScope s_law_no_column, [], []⟩
def q_law_refusal : He.DefD := ⟨("_law_refusal", none), "_law_refusal", "_law_refusal", defArgs s_law_refusal, defBody s_law_refusal, defScope s_law_refusal, [], []⟩
def q_law_refused : He.DefD := ⟨("_law_refused", none), "_law_refused", "_law_refused", defArgs s_law_refused, defBody s_law_refused, defScope s_law_refused, [], []⟩
def q_law : He.DefD := ⟨("law", none), "law", "law", defArgs s_law, defBody s_law, defScope s_law, [], []⟩
def fn : List He.DefD := [q_is_number, q_is_row, q_is_rows, q_look, q_less, q_ordered, q_is_ordered, q_same_rows, q_law_deck, q_law_next, q_law_whole, q_law_number, q_law_rows, q_law_first, q_law_in_order, q_law_same, q_law_alike, q_law_other, q_law_right, q_law_neighbours, q_law_no_rows, q_law_no_column, q_law_refusal, q_law_refused, q_law]
abbrev tf : List He.Defn := [("ordered", none)]
def ex (K : PySem.W.Frag) : Bool := xAll XSd K && sysB K && lamB K ("ordered", none) "ordered.<locals>.<lambda>" && tabsInB K tf
def fa : List He.Fa := [.glo "is_number", .glo "is_row", .glo "is_rows", .glo "look", .glo "less", .glo "ordered", .glo "is_ordered", .glo "same_rows", .glo "_law_deck", .glo "_law_next", .glo "_law_whole", .glo "_law_number", .glo "_law_rows", .glo "_law_first", .glo "_law_in_order", .glo "_law_same", .glo "_law_alike", .glo "_law_other", .glo "_law_right", .glo "_law_neighbours", .glo "_law_no_rows", .glo "_law_no_column", .glo "_law_refusal", .glo "_law_refused", .glo "law", .glo "SpillError", .glo "NoRows", .glo "NoColumn", .glo "NoTable", .glo "NoQuery", .glo "TooMany", .glo "NoCount", .glo "NotOrdered", .exc "NoRows", .exc "NoColumn", .free "ValueError", .free "all", .free "bool", .free "int", .free "isinstance", .free "len", .free "list", .free "range", .free "repr", .free "sorted", .free "tuple", .free "zip", .int "WIDEST" 24]
abbrev R : PySem.W.OpenRow := PySem.W.OpenLaw.row PySem.Challenge.rw_spillhall_k02_rows_in_order
abbrev gts : List (Str × List Str) := []
def AS : List Addr := [0, 1, 3, 4, 6] ++ List.range' 11 544
abbrev hk : PySem.W.Hook := hookV AS fa fn ex gts tf
def ob (s : PySem.W.SharedT) : ObW := obsVG AS fa fn ex gts tf (HandSHeadRun.getT s)
def loose : List Str := [("SpillError" : Str), ("NoRows" : Str), ("NoColumn" : Str), ("NoTable" : Str), ("NoQuery" : Str), ("TooMany" : Str), ("NoCount" : Str), ("NotOrdered" : Str), ("WIDEST" : Str), ("is_number" : Str), ("is_row" : Str), ("is_rows" : Str), ("look" : Str), ("less" : Str), ("ordered" : Str), ("is_ordered" : Str), ("same_rows" : Str), ("_law_deck" : Str), ("_law_next" : Str), ("_law_whole" : Str), ("_law_number" : Str), ("_law_rows" : Str), ("_law_first" : Str), ("_law_other" : Str), ("_law_in_order" : Str), ("_law_same" : Str), ("_law_alike" : Str), ("_law_right" : Str), ("_law_neighbours" : Str), ("_law_no_rows" : Str), ("_law_no_column" : Str), ("_law_refusal" : Str), ("_law_refused" : Str)]
theorem run (w : World) : HandSHeadRun.RunEq R (PySem.W.view R.prog [36]) hk ob 60000 loose w := by
  intro os
  kernel_rfl
end
end K02
set_option Elab.async false
set_option linter.all false
set_option maxRecDepth 100000
set_option maxHeartbeats 1000000
namespace DL
open PySem PySem.Spec PyProof.Rows L2
structure GRoom (k : Nat) (A : Around) : Prop extends L2.Room k A where
  gd : A.guards = some []
theorem GRoom.mono {j k : Nat} {A : Around} (r : GRoom k A) (h : j ≤ k) : GRoom j A := ⟨r.toRoom.mono h, r.gd⟩
theorem GRoom.deeper {k : Nat} {A : Around} (r : GRoom (k + 1) A) (env : PySem.Env) : GRoom k (A.deeper env) := ⟨r.toRoom.deeper env, r.gd⟩
theorem GRoom.in1 {k : Nat} {A : Around} (r : GRoom (k + 1) A) : GRoom k A.in1 := ⟨r.toRoom.in1, r.gd⟩
theorem GRoom.make {k : Nat} {A : Around} (r : GRoom (k + 1) A) (C : Addr) (us : List Value) (kw : List (Str × Value)) : GRoom k (A.under (.builtin "type.__call__" ⟨.ref C :: us, kw⟩)) :=
  ⟨r.toRoom.make C us kw, by simp [Around.under, Code.guards, Code.isGuard, guardIds, pushGuards, r.gd]⟩
structure GFn (P : Program) (w : World) (K : PySem.W.Frag) (mg : Str → Option Value) (base : Heap) (Z : CXT) (k : Nat) (f : Addr) (fd : FuncData) (ps : List Str) (sp : Sp) : Prop where
  len : ∀ us h q e, sp us h q e → us.length = ps.length
  run : ∀ (A : Around) (up : List PySem.Env) (s : Shared) (h : Hp) (as : Args) (vs : List Value) (us : List V) (q : VK) (e : XK), GRoom k A → Env0 P w K mg base A up s h → BindsTo s fd as (ps.zip vs) → Vals us vs → sp us h q e →
    codeAny (model P w) A (.call (.ref f) as) (CR Z up P w h s q e) s
section
variable {P : Program} {w : World} {K : PySem.W.Frag} {mg : Str → Option Value} {base : Heap} {Z : CXT} {f : Addr} {fd : FuncData} {ps : List Str}
theorem GFn.mono {j k : Nat} {sp : Sp} (F : GFn P w K mg base Z j f fd ps sp) (h : j ≤ k) : GFn P w K mg base Z k f fd ps sp := ⟨F.len, fun A up s H as vs us q e r => F.run A up s H as vs us q e (r.mono h)⟩
theorem GFn.imp {k : Nat} {sp sp' : Sp} (F : GFn P w K mg base Z k f fd ps sp) (h : ∀ us H q e, sp' us H q e → sp us H q e) : GFn P w K mg base Z k f fd ps sp' :=
  ⟨fun us H q e z => F.len us H q e (h _ _ _ _ z), fun A up s H as vs us q e r e0 b v z => F.run A up s H as vs us q e r e0 b v (h _ _ _ _ z)⟩
end
section
variable {X : Cx} {Z : CXT} {k : Nat} {f : Addr} {fd : FuncData} {ps : List Str} {sp : Sp} {dvs : List V} {ds : List Value} {E : L2.St → XK} {x : Str} {p pos : Pos} {e : Expr} {es : List Expr} {t : TA}
theorem ends_call {pins : List (Addr × Obj)} {σ : L2.St} {H : Hp} {s s' : Shared} {Q : VK} {r : Result} (hx : PassesAt Z X σ (E σ)) (I : Inv X pins σ H s) (h : CR Z X.stack X.prog X.w H s Q (E σ) r s') :
    match r with
    | .ok (.ret u) => EP X pins σ Q u s'
    | .ok _ => False
    | .error v => X.xe v s' := by
  rcases r with v | fl
  · exact hx pins H s v s' I h
  · cases fl
    case ret u => exact I.after h
    all_goals exact h
theorem run_fnG {pins : List (Addr × Obj)} {σ : L2.St} {H : Hp} {s : Shared} {Q : VK} {us : List Value} {vs : List V} (F : GFn X.prog X.w X.K X.mg X.base Z k f fd ps sp) (hr : GRoom k X.A) (hb : Binds X.K fd ps ds) (hd : Vals dvs ds) (hx : PassesAt Z X σ (E σ))
    (I : Inv X pins σ H s) (r : Vals vs us) (h : sp (vs ++ dvs) H Q (E σ)) : wpAny (model X.prog X.w) X.A (call (.ref f) us) (EP X pins σ Q) X.xe s := by
  have both : Vals (vs ++ dvs) (us ++ ds) := r.append hd
  have run := F.run X.A X.stack s H ⟨us, []⟩ (us ++ ds) (vs ++ dvs) Q (E σ) hr I.env0 (hb s us I.kIn (both.length.symm.trans (F.len _ _ _ _ h))) both h
  refine wpAny_call (codeAny_mono run ?_)
  rintro (v | fl) s' hq
  · exact ends_call (r := .error v) hx I hq
  · have z := ends_call (r := .ok fl) hx I hq
    cases fl <;> exact z
theorem pe_callG (F : GFn X.prog X.w X.K X.mg X.base Z k f fd ps sp) (hr : GRoom k X.A) (gl : Gl X x) (mx : X.mg x = some (.ref f)) (kf : PySem.W.keepIn X.K (.ref f) = true) (bd : Binds X.K fd ps ds) (vd : Vals dvs ds) (px : ∀ σ, PassesAt Z X σ (E σ)) (pa : PA X (e :: es) t)
    (nd : (x == ("__debug__" : Str)) = false := by decide) (se : starEach (e :: es) X.env = (false, eval e X.env) :: starEach es X.env := by rfl) (ns : (backTo pos (starEach es X.env)).any (·.1) = false := by rfl) : PE X (.Call (.Name x p) (e :: es) [] pos) (tCallSD sp dvs E t) := ⟨fun pins s σ H Q I z =>
  wpAny_Call_Name_kw (ld_glob I gl mx (PySem.W.callWith_K (h₀ := X.base) I.ok.mod.kin kf (thn (pa.run pos pins s σ H _ I z) fun _ _ ⟨_, _, I1, r, q⟩ => ⟨I1.kIn, run_fnG F hr bd vd (px σ) I1 r q⟩) se ns) nd)⟩
end
section
variable {Z : CXT} {P : Program} {w : World} {K : PySem.W.Frag} {mg : Str → Option Value} {base : Heap} {k : Nat} {f : Addr} {N ps : List Str} {sp : Sp}
theorem fn_ofG {name qual : Str} {params : Arguments} {body : List Stmt} {scope : Scope} {dV kV doc pm cdv ct oc : Value} {an od : Option Addr} {osl : Array (Option Value)}
    (at_ : K.lookup f = some ⟨oc, od, .func (PySem.W.fnOf name qual params body scope dV kV doc pm an cdv ct), osl⟩) (code : PySem.W.codeIn K cdv qual = true) (S : FnScope N ps scope) (len : ∀ us h q e, sp us h q e → us.length = ps.length)
    (B : ∀ (A : Around) (up : List PySem.Env) (s : Shared) (h : Hp) (us : List V) (q : VK) (e : XK), GRoom k (A.deeper (envOfC qual scope s.heap.objs.size f cdv)) → sp us h q e →
      ∃ t, PSs (cxOf Z P w K mg base N qual scope f cdv A up s h e) body t ∧ t { nx := fun _ h' => q .non h', rt := q } (start N us) h) :
    GFn P w K mg base Z (k + 1) f (PySem.W.fnOf name qual params body scope dV kV doc pm an cdv ct) ps sp where
  len := len
  run A up s h as vs us q e r e0 bd vv z := by
    have kept : ∀ b o, base.get? b = some o → s.heap.get? b = some o := fun b o x => (e0.bs b o x).1
    have kin : K.In s.heap := e0.mod.kin.keeps kept
    have kinds : ∀ y ∈ ps.zip vs, scope.names.lookup y.1 = some .local ∨ (scope.names.lookup y.1 = some .cell ∧ ((cellsFrom (s.heap.objs.size + 1) scope.names []).lookup y.1).isSome = true) := by
      rintro ⟨n, v⟩ my
      exact (S.par n (List.of_mem_zip my).1).imp id fun c => ⟨c, PySem.W.cellsFrom_some _ _ _ (.inl c)⟩
    obtain ⟨t, reads, tz⟩ := B A up s h us q e (r.deeper _) z
    refine codeAny_call_function r.depth (kin _ _ at_) rfl S.co S.gen rfl (PySem.W.codeRec_of kin code) (bd _ _ _ _ (wpAny_newFunctionEnv_cells S.kind kinds ?_))
    rintro _ rfl s1 x
    have I : Inv (cxOf Z P w K mg base N qual scope f cdv A up s h e) [] (start N us) h s1 := inv_start S r.hd e0 (len _ _ _ _ z) vv x
    refine ⟨(e0.mod.nolimit.keeps kept).keeps x.toInCall.keep, codeAny_func (wpAny_mono (reads.run [] s1 (start N us) h _ I tz) ?_ fun _ _ y => y)⟩
    rintro fl s' y
    cases fl
    case ret u => obtain ⟨v, _, h', J, rv, hv⟩ := y; exact ⟨v, h', J.os, J.bare, J.base, J.hok, rv, hv⟩
    case next => obtain ⟨_, h', J, hv⟩ := y; exact ⟨V.non, h', J.os, J.bare, J.base, J.hok, rfl, hv⟩
    all_goals exact (let ⟨_, _, _, no⟩ := y; no.elim)
theorem okG {x qual : Str} {params : Arguments} {body : List Stmt} {scope : Scope} {dvs : List V} {kws : List (Str × V)} {fd : FuncData} (F : FunD K x qual params body scope dvs kws f fd) (S : FnScope N ps scope) (len : ∀ us h q e, sp us h q e → us.length = ps.length)
    (B : ∀ (cdv : Value) (A : Around) (up : List PySem.Env) (s : Shared) (h : Hp) (us : List V) (q : VK) (e : XK), GRoom k (A.deeper (envOfC qual scope s.heap.objs.size f cdv)) → sp us h q e →
      ∃ t, PSs (cxOf Z P w K mg base N qual scope f cdv A up s h e) body t ∧ t { nx := fun _ h' => q .non h', rt := q } (start N us) h) : GFn P w K mg base Z (k + 1) f fd ps sp := by
  obtain ⟨_, _, _, _, _, _, _, cdv, _, _, rfl, at_, code, _, _⟩ := F.ex
  exact fn_ofG at_ code S len fun A up s h us q e r z => B cdv A up s h us q e r z
end
theorem law_callG {P : Program} {w : World} {K : PySem.W.Frag} {mg mb : Str → Option Value} {Z : CXT} {k : Nat} {fa a : Addr} {cs : List (Addr × Addr)} {fd : FuncData} {x : Str} {sp : Sp} {s : Shared} {vs : List Value} {ns : List Int}
    (KX : K.In s.heap) (hG : s.heap.Ns mainGlobals mg) (hB : s.heap.Ns builtinsNs mb) (bB : ∀ x : Str, x ≠ "__name__" → mb x = bootBuiltins x) (nL : s.heap.NoLimit) (g0 : s.gens = #[])
    (tab : ∀ p ∈ cs, s.heap.get? p.2 = some { cls := .none, data := .fields #[] }) (tabK : ∀ p ∈ cs, K.lookup p.2 = none) (cod : ∀ p ∈ cs, PySem.W.CodeHd s.heap p.1 p.2)
    (bmod : ∃ (bm : Addr) (ob : Obj), mg "__builtins__" = some (.ref bm) ∧ bm ≠ builtinsNs ∧ s.heap.get? bm = some ob ∧ ob.cls = .type "module" ∧ ob.dict = some builtinsNs ∧ ob.data = .plain)
    (lst : s.heap.get? a = some { cls := .type "list", data := .seq vs.toArray }) (isI : IntsAre vs ns) (le0 : ns.length ≤ sizeLine) (rm0 : L2.Room k callerA)
    (F : ∀ base : Heap, K.In base → base.Ns mainGlobals mg → (∀ p ∈ cs, LamX.TabB base mg p.1 p.2) → GFn P w K mg base Z k fa fd [x] sp) (bnd : ∀ (s : Shared) (u : Value), BindsTo s fd ⟨[u], []⟩ [(x, u)])
    (hsp : ∀ H : Hp, (∀ p ∈ cs, H p.2 = some (.tbl #[])) → SqL K H a (ns.map V.int) → sp [.ref a] H (fun v _ => v = .bl true) fun _ _ _ => False) (noX : ∀ H e s', Z [] H s (fun _ _ _ => False) e s' → False) :
    codeAny (model P w) callerA (.call (.ref fa) ⟨[.ref a], []⟩) (fun r s' => r = .ok (.ret (.bool true)) ∧ OldK s.heap s'.heap ∧ s'.os = s.os ∧ AllBare s'.gens) s := by
  have rv := vals_ints isI
  have lv := isI.length
  obtain ⟨T, hT⟩ : ∃ T : List Addr, T = cs.map (·.2) := ⟨_, rfl⟩
  have inT : ∀ p ∈ cs, p.2 ∈ T := fun p m => hT ▸ List.mem_map_of_mem m
  have objT : ∀ b ∈ T, s.heap.get? b = some { cls := .none, data := .fields #[] } := fun b m => by
    rw [hT] at m
    obtain ⟨p, mp, rfl⟩ := List.mem_map.mp m
    exact tab p mp
  have kT : ∀ b ∈ T, K.lookup b = none := fun b m => by
    rw [hT] at m
    obtain ⟨p, mp, rfl⟩ := List.mem_map.mp m
    exact tabK p mp
  have aT : a ∉ T := fun m => by have z := (objT a m).symm.trans lst; injection z with z; injection z with _ _ z; cases z
  -- what is tracked
  obtain ⟨H, hH⟩ : ∃ H : Hp, H = fun b => if b ∈ T then some (.tbl #[]) else if b = a ∧ K.lookup a = none then some (.frz { cls := .type "list", data := .seq vs.toArray } (.lst (ns.map V.int))) else none := ⟨_, rfl⟩
  have Ht : ∀ b ∈ T, H b = some (.tbl #[]) := fun b m => by rw [hH]; exact if_pos m
  have Hall : ∀ b u, H b = some u → (b ∈ T ∧ u = .tbl #[]) ∨ (b = a ∧ K.lookup a = none ∧ u = .frz { cls := .type "list", data := .seq vs.toArray } (.lst (ns.map V.int))) := fun b u z => by
    rw [hH] at z
    dsimp only at z
    split at z
    · next m => injection z with z; exact .inl ⟨m, z.symm⟩
    · split at z
      · next m => injection z with z; exact .inr ⟨m.1, m.2, z.symm⟩
      · cases z
  have Hno : ∀ b o, s.heap.get? b = some o → (∀ v n, o.data ≠ .seq v n) → o.data ≠ .fields #[] → H b = none := fun b o e n1 n2 => by
    cases q : H b with
    | none => rfl
    | some u =>
      rcases Hall b u q with ⟨m, _⟩ | ⟨rfl, _⟩
      · rw [objT b m] at e; cases e; exact (n2 rfl).elim
      · rw [lst] at e; cases e; exact (n1 _ _ rfl).elim
  have sq : SqL K H a (ns.map V.int) := by
    cases q : K.lookup a with
    | none => exact .inl (.inr ⟨_, by rw [hH]; exact (if_neg aT).trans (if_pos ⟨rfl, q⟩)⟩)
    | some o =>
      have e := KX a o q
      rw [lst] at e
      cases e
      exact .inr ⟨_, vs.toArray, _, q, rfl, rfl, rfl, by rw [List.size_toArray, lv]; exact le0, by simpa using rv⟩
  have hok : HOk P w H s.heap := fun b u z => by
    rcases Hall b u z with ⟨m, rfl⟩ | ⟨rfl, _, rfl⟩
    · exact objT b m
    · exact ⟨lst, by rw [List.length_map]; exact le0, vs, _, rv, lst⟩
  -- the rest stands still
  have toB : ∀ {b : Addr} {o : Obj}, s.heap.get? b = some o → H b = none → (hidT s.heap H).get? b = some o := fun e n => hidT_get e n
  have nsB : ∀ {b : Addr} {m : Str → Option Value}, s.heap.Ns b m → (hidT s.heap H).Ns b m := fun {b m} ⟨o, es, ep, e, d, r⟩ =>
    ⟨o, es, ep, toB e (Hno b o e (fun v n z => by rw [d] at z; cases z) fun z => by rw [d] at z; cases z), d, r⟩
  have kB : K.In (hidT s.heap H) := fun b o e => toB (KX b o e) (by
    cases q : H b with
    | none => rfl
    | some u =>
      rcases Hall b u q with ⟨m, _⟩ | ⟨rfl, n, _⟩
      · rw [kT b m] at e; cases e
      · rw [n] at e; cases e)
  have mod : L2.Mod K mg (hidT s.heap H) := by
    obtain ⟨mc, l1, l2⟩ := nL
    exact ⟨kB, nsB hG, ⟨mb, nsB hB, bB⟩, mc, nsB l1, l2⟩
  have apart : ∀ p ∈ cs, ∀ b o, s.heap.get? b = some o → o.data ≠ .fields #[] → b ≠ p.2 := fun p mp b o e n z => by
    subst z
    rw [tab p mp] at e
    cases e
    exact n rfl
  have tb : ∀ p ∈ cs, LamX.TabB (hidT s.heap H) mg p.1 p.2 := fun p mp => by
    obtain ⟨bm, ob, b1, b2, b3, b4, b5, b6⟩ := bmod
    obtain ⟨og, eg, epg, hg1, hg2, hg3⟩ := id hG
    obtain ⟨o, us, fl, tf, fg, tg, inF, tx, tt, e1, r1, r2, r3, rest⟩ := cod p mp
    have n1 : o.data ≠ .fields #[] := fun z => by rw [r2] at z; cases z; simp at r3
    exact ⟨⟨o, us, fl, tf, fg, tg, inF, tx, tt, toB e1 (Hno _ o e1 (fun v n z => by rw [r2] at z; cases z) n1), r1, r2, r3, rest⟩,
      ⟨bm, ob, b1, b2, fun z => (by rw [z, hg1] at b3; cases b3; rw [hg2] at b6; cases b6), apart p mp bm ob b3 (fun z => (by rw [b6] at z; cases z)), toB b3 (Hno _ ob b3 (fun v n z => (by rw [b6] at z; cases z)) fun z => (by rw [b6] at z; cases z)), b4, b5, b6⟩,
      apart p mp _ og hg1 fun z => by rw [hg2] at z; cases z⟩
  have e0 : Env0 P w K mg (hidT s.heap H) callerA [] s H := ⟨rfl, mod, fun b o e => of_hidT e, Nat.le_of_eq (hidT_size _ _), trivial, fun b z => absurd (show b ∈ ([] : List Addr) from z) List.not_mem_nil, hok, .of_eq g0⟩
  have run := (F _ kB (nsB hG) tb).run callerA [] s H ⟨[.ref a], []⟩ [.ref a] [.ref a] _ _ ⟨rm0, rfl⟩ e0 (bnd s (.ref a)) (.cons rfl .nil) (hsp H (fun p mp => Ht _ (inT p mp)) sq)
  refine codeAny_mono run fun r s' z => ?_
  rcases r with v | fl
  · exact (noX H v s' z).elim
  · cases fl
    case ret u =>
      obtain ⟨v, H', os, bare, un, hok', rl, ev⟩ := z
      have ev : v = .bl true := ev
      subst ev
      obtain rfl : u = Value.bool true := rl
      have still : ∀ b o, b ∉ T → s.heap.get? b = some o → s'.heap.get? b = some o := fun b o n e => by
        cases q : H b with
        | none => exact un.keep b o e q (show b ∉ frs [] from List.not_mem_nil) List.not_mem_nil
        | some u =>
          rcases Hall b u q with ⟨m, _⟩ | ⟨_, _, rfl⟩
          · exact (n m).elim
          · have g1 := (hok b _ q).1
            have g2 := (hok' b _ (un.frzs b _ _ q)).1
            rw [e] at g1
            cases g1
            exact g2
      have grown : ∀ b ∈ T, ∃ more : Array Value, s'.heap.get? b = some { cls := .none, data := .fields more } := fun b m => by
        obtain ⟨more, q⟩ := un.tbls b #[] (Ht b m)
        exact ⟨_, hok' b _ q⟩
      refine ⟨rfl, ⟨fun b o e => ?_, fun b o e => ?_⟩, os, bare⟩
      · by_cases m : b ∈ T
        · obtain ⟨p, mp, ep⟩ : ∃ p ∈ cs, p.2 = b := by rw [hT] at m; exact List.mem_map.mp m
          obtain ⟨more, g⟩ := grown b m
          rw [objT b m] at e
          cases e
          have ct := ((cod p mp).tab (tab p mp)).isCodeTable
          rw [ep] at ct
          exact .inr (.inl ⟨ct, rfl, #[], more, rfl, by rw [Array.empty_append]; exact g⟩)
        · exact .inl (still b o m e)
      · by_cases m : b ∈ T
        · obtain ⟨more, g⟩ := grown b m
          exact ⟨_, g⟩
        · exact ⟨o, still b o m e⟩
    all_goals exact False.elim z
end DL

set_option Elab.async false
set_option linter.all false
set_option maxRecDepth 100000
namespace DL
open PySem L2

inductive D where
  | non | bl (b : Bool) | int (i : Int) | str (x : Str) | tup (ds : List D) | lst (ds : List D) | frl (ds : List D)
  | dct (ks : List Key) (vs : List D) | raw (v : V) | h (a : Addr)
  | exc (c : Str) (ns : List Str) (vs : List D) | fn (x : Str)
def EOx (a : Addr) (cls : Value) (d : Option Addr) : HO := .ext fun h => ∃ oe vs, h.get? a = some oe ∧ Zc cls d oe ∧ oe.data = .fields vs

def TupR (K : PySem.W.Frag) (F : Hp) (a : Addr) (xs : List V) : Prop := F a = some (.tup xs) ∨ ((∀ n ys, xs ≠ V.int n :: ys) ∧ SqT K F a xs)
theorem TupR.sq {K : PySem.W.Frag} {F : Hp} {a : Addr} {xs : List V} (h : TupR K F a xs) : SqT K F a xs := h.elim (fun h => .inl (.inl h)) (·.2)
theorem TupR.of {K : PySem.W.Frag} {F : Hp} {a : Addr} {xs : List V} (h : F a = some (.tup xs)) : TupR K F a xs := .inl h
mutual
inductive Rep (K : PySem.W.Frag) (F : Hp) : V → D → Prop
  | non : Rep K F .non .non
  | bl (b : Bool) : Rep K F (.bl b) (.bl b)
  | int (i : Int) : Rep K F (.int i) (.int i)
  | str (x : Str) : Rep K F (.str x) (.str x)
  | tup {a : Addr} {xs : List V} {ds : List D} : TupR K F a xs → RepA K F xs ds → Rep K F (.ref a) (.tup ds)
  | lst {a : Addr} {xs : List V} {ds : List D} : F a = some (.lst xs) → RepA K F xs ds → Rep K F (.ref a) (.lst ds)
  | frl {a : Addr} {xs : List V} {ds : List D} : SqL K F a xs → RepA K F xs ds → Rep K F (.ref a) (.frl ds)
  | dct {a : Addr} {ks : List Key} {xs : List V} {ds : List D} : F a = some (.dK (ks.zip xs)) → xs.length = ks.length → RepA K F xs ds → Rep K F (.ref a) (.dct ks ds)
  | raw (v : V) : Rep K F v (.raw v)
  | h (a : Addr) : Rep K F (.ref a) (.h a)
  | exc0 {a : Addr} {c : Str} : F a = some (EOx a (.ref (He.ga K c)) none) → Rep K F (.ref a) (.exc c [] [])
  | exc1 {a : Addr} {c : Str} {dd : Addr} {ns : List Str} {xs : List V} {ds : List D} : F a = some (EOx a (.ref (He.ga K c)) (some dd)) → F dd = some (.xd (ns.zip xs)) → RepA K F xs ds → Rep K F (.ref a) (.exc c ns ds)
  | fn (x : Str) : Rep K F (.ref (He.ga K x)) (.fn x)
inductive RepA (K : PySem.W.Frag) (F : Hp) : List V → List D → Prop
  | nil : RepA K F [] []
  | cons {v : V} {vs : List V} {d : D} {ds : List D} : Rep K F v d → RepA K F vs ds → RepA K F (v :: vs) (d :: ds)
end

section
variable {K : PySem.W.Frag} {F F' H H' : Hp}
theorem same_sqT {a : Addr} {xs : List V} (e : Same F F') (h : SqT K F a xs) : SqT K F' a xs := by
  rcases h with (h | ⟨o, h⟩) | h
  · exact .inl (.inl (e _ _ h))
  · exact .inl (.inr ⟨o, e _ _ h⟩)
  · exact .inr h
theorem TupR.mono {a : Addr} {xs : List V} (e : Same F F') (h : TupR K F a xs) : TupR K F' a xs := h.imp (e _ _) fun h => ⟨h.1, same_sqT e h.2⟩
mutual
theorem Rep.mono (hs : Same F F') : ∀ {v : V} {d : D}, Rep K F v d → Rep K F' v d
  | _, _, .non => .non
  | _, _, .bl b => .bl b
  | _, _, .int i => .int i
  | _, _, .str x => .str x
  | _, _, .tup h r => .tup (h.mono hs) (RepA.mono hs r)
  | _, _, .lst h r => .lst (hs _ _ h) (RepA.mono hs r)
  | _, _, .frl h r => .frl (hs.seq h) (RepA.mono hs r)
  | _, _, .dct h l r => .dct (hs _ _ h) l (RepA.mono hs r)
  | _, _, .raw v => .raw v
  | _, _, .h a => .h a
  | _, _, .exc0 h => .exc0 (hs _ _ h)
  | _, _, .exc1 h h' r => .exc1 (hs _ _ h) (hs _ _ h') (RepA.mono hs r)
  | _, _, .fn x => .fn x
theorem RepA.mono (hs : Same F F') : ∀ {vs : List V} {ds : List D}, RepA K F vs ds → RepA K F' vs ds
  | _, _, .nil => .nil
  | _, _, .cons r t => .cons (Rep.mono hs r) (RepA.mono hs t)
end
theorem RepA.length : ∀ {vs : List V} {ds : List D}, RepA K F vs ds → vs.length = ds.length
  | _, _, .nil => rfl
  | _, _, .cons _ t => congrArg Nat.succ (RepA.length t)
theorem RepA.append : ∀ {xs ys : List V} {ds es : List D}, RepA K F xs ds → RepA K F ys es → RepA K F (xs ++ ys) (ds ++ es)
  | _, _, _, _, .nil, s => s
  | _, _, _, _, .cons r t, s => .cons r (RepA.append t s)
theorem RepA.get : ∀ {xs : List V} {ds : List D} {i : Nat} {x : V}, RepA K F xs ds → xs[i]? = some x → ∃ d, ds[i]? = some d ∧ Rep K F x d
  | _, _, _, _, .nil, e => by simp at e
  | _, _, 0, _, .cons r _, e => by simp at e; subst e; exact ⟨_, rfl, r⟩
  | _, _, i + 1, x, .cons _ t, e => by
    obtain ⟨u, h1, h2⟩ := RepA.get (i := i) (x := x) t (by simpa using e)
    exact ⟨u, by simpa using h1, h2⟩
theorem RepA.getD : ∀ {xs : List V} {ds : List D} {i : Nat} {d : D}, RepA K F xs ds → ds[i]? = some d → ∃ x, xs[i]? = some x ∧ Rep K F x d
  | _, _, _, _, .nil, e => by simp at e
  | _, _, 0, _, .cons r _, e => by simp at e; subst e; exact ⟨_, rfl, r⟩
  | _, _, i + 1, x, .cons _ t, e => by
    obtain ⟨u, h1, h2⟩ := RepA.getD (i := i) (d := x) t (by simpa using e)
    exact ⟨u, by simpa using h1, h2⟩
theorem RepA.set {x : V} {d : D} (r : Rep K F x d) : ∀ {xs : List V} {ds : List D} (i : Nat), RepA K F xs ds → RepA K F (xs.set i x) (ds.set i d)
  | _, _, _, .nil => .nil
  | _, _, 0, .cons _ t => .cons r t
  | _, _, i + 1, .cons q t => .cons q (RepA.set r i t)
theorem RepA.take : ∀ {xs : List V} {ds : List D} (n : Nat), RepA K F xs ds → RepA K F (xs.take n) (ds.take n)
  | _, _, 0, _ => .nil
  | _, _, _ + 1, .nil => .nil
  | _, _, n + 1, .cons r t => .cons r (RepA.take n t)
theorem RepA.drop : ∀ {xs : List V} {ds : List D} (n : Nat), RepA K F xs ds → RepA K F (xs.drop n) (ds.drop n)
  | _, _, 0, r => r
  | _, _, _ + 1, .nil => .nil
  | _, _, n + 1, .cons _ t => RepA.drop n t
theorem RepA.eraseIdx : ∀ {xs : List V} {ds : List D} (n : Nat), RepA K F xs ds → RepA K F (xs.eraseIdx n) (ds.eraseIdx n)
  | _, _, 0, .cons _ t => t
  | _, _, _, .nil => .nil
  | _, _, n + 1, .cons r t => .cons r (RepA.eraseIdx n t)
theorem RepA.reverse : ∀ {xs : List V} {ds : List D}, RepA K F xs ds → RepA K F xs.reverse ds.reverse
  | _, _, .nil => .nil
  | _, _, .cons r t => by
    simp only [List.reverse_cons]
    exact (RepA.reverse t).append (.cons r .nil)
theorem RepA.repl : ∀ (n : Nat) {x : V} {d : D}, Rep K F x d → RepA K F (List.replicate n x) (List.replicate n d)
  | 0, _, _, _ => .nil
  | n + 1, _, _, r => .cons r (RepA.repl n r)
theorem RepA.flat : ∀ (n : Nat) {xs : List V} {ds : List D}, RepA K F xs ds → RepA K F (List.replicate n xs).flatten (List.replicate n ds).flatten
  | 0, _, _, _ => .nil
  | n + 1, _, _, r => by
    simp only [List.replicate_succ, List.flatten_cons]
    exact r.append (RepA.flat n r)
theorem RepA.ints : ∀ {xs : List V} {ns : List Int}, RepA K F xs (ns.map D.int) → xs = ns.map V.int
  | [], [], _ => rfl
  | [], _ :: _, h => nomatch h
  | _ :: _, [], h => nomatch h
  | x :: xs, n :: ns, h => by
    cases h with
    | cons r t =>
      cases r
      rw [RepA.ints t]
      rfl
theorem repA_ints : ∀ (ns : List Int), RepA K F (ns.map V.int) (ns.map D.int)
  | [] => .nil
  | n :: ns => .cons (.int n) (repA_ints ns)
end

inductive RV where
  | v (d : D) | o (ds : List D) | b (i : Nat)
inductive Ob where
  | lst (ds : List D) | lstP (P : List D → Prop) | dct (ps : List (Int × D)) | ins (c : Str) (ps : List (Str × D)) | dctR (ps : List (List Int × D))
abbrev Om := Addr → Option Ob
abbrev Env := List (Option RV)
structure Exn where
  cls : Str
  fs : Option (List (Str × D))
abbrev DX := Exn → Env → Om → Prop
abbrev WE := DX → Env → Om → (RV → Env → Om → Prop) → Prop
abbrev WA := DX → Env → Om → (List RV → Env → Om → Prop) → Prop
abbrev WT := DX → Env → Om → (Bool → Env → Om → Prop) → Prop
abbrev WI := DX → Env → Om → (List D → Env → Om → Prop) → Prop
structure DEnds where
  nx : Env → Om → Prop
  rt : RV → Om → Prop
  bk : Env → Om → Prop := fun _ _ => False
  ct : Env → Om → Prop := fun _ _ => False
  xq : DX := fun _ _ _ => False
abbrev WS := DEnds → Env → Om → Prop
abbrev DF := List D → Om → (RV → Om → Prop) → (Exn → Om → Prop) → Prop

def KvOk (K : PySem.W.Frag) (F : Hp) : List (Key × V) → List (Int × D) → Prop
  | [], [] => True
  | (k, v) :: kvs, (i, d) :: ps => k = .inl i ∧ Rep K F v d ∧ KvOk K F kvs ps
  | _, _ => False
theorem KvOk.mono {K : PySem.W.Frag} {F F' : Hp} (hs : Same F F') : ∀ {kvs : List (Key × V)} {ps : List (Int × D)}, KvOk K F kvs ps → KvOk K F' kvs ps
  | [], [], _ => trivial
  | (_, _) :: _, (_, _) :: _, ⟨h1, h2, h3⟩ => ⟨h1, h2.mono hs, KvOk.mono hs h3⟩
  | [], _ :: _, h => h.elim
  | _ :: _, [], h => h.elim
def FsOk (K : PySem.W.Frag) (F : Hp) : List (Str × V) → List (Str × D) → Prop
  | [], [] => True
  | (f, v) :: fs, (g, d) :: ps => f = g ∧ Rep K F v d ∧ FsOk K F fs ps
  | _, _ => False
theorem FsOk.mono {K : PySem.W.Frag} {F F' : Hp} (hs : Same F F') : ∀ {fs : List (Str × V)} {ps : List (Str × D)}, FsOk K F fs ps → FsOk K F' fs ps
  | [], [], _ => trivial
  | (_, _) :: _, (_, _) :: _, ⟨h1, h2, h3⟩ => ⟨h1, h2.mono hs, FsOk.mono hs h3⟩
  | [], _ :: _, h => h.elim
  | _ :: _, [], h => h.elim
def KrOk (K : PySem.W.Frag) (F : Hp) : List (List Key × V) → List (List Int × D) → Prop
  | [], [] => True
  | (k, v) :: kvs, (q, d) :: ps => k = q.map Sum.inl ∧ Rep K F v d ∧ KrOk K F kvs ps
  | _, _ => False
theorem KrOk.mono {K : PySem.W.Frag} {F F' : Hp} (hs : Same F F') : ∀ {kvs : List (List Key × V)} {ps : List (List Int × D)}, KrOk K F kvs ps → KrOk K F' kvs ps
  | [], [], _ => trivial
  | (_, _) :: _, (_, _) :: _, ⟨h1, h2, h3⟩ => ⟨h1, h2.mono hs, KrOk.mono hs h3⟩
  | [], _ :: _, h => h.elim
  | _ :: _, [], h => h.elim
def NoTab (o : HO) : Prop := ∀ ps, o ≠ .tbl ps
theorem noTab_lst (xs : List V) : NoTab (.lst xs) := fun _ h => by cases h
theorem noTab_dK (xs : List (Key × V)) : NoTab (.dK xs) := fun _ h => by cases h
theorem noTab_dT (xs : List (List Key × V)) : NoTab (.dT xs) := fun _ h => by cases h
theorem noTab_ins (C d : Addr) (fs : List (Str × V)) : NoTab (.ins C d fs) := fun _ h => by cases h
def ObOk (K : PySem.W.Frag) (F : Hp) : Option HO → Ob → Prop
  | some (.lst xs), .lst ds => RepA K F xs ds
  | some (.lst xs), .lstP P => ∃ ds, P ds ∧ RepA K F xs ds
  | some (.dK kvs), .dct ps => KvOk K F kvs ps
  | some (.dT kvs), .dctR ps => KrOk K F kvs ps
  | some (.ins C _ fs), .ins c ps => C = He.ga K c ∧ FsOk K F fs ps
  | _, _ => False
theorem ObOk.some {K : PySem.W.Frag} {F : Hp} {o : Option HO} {ob : Ob} (h : ObOk K F o ob) : ∃ u, o = Option.some u := by
  cases o with
  | none => cases ob <;> exact h.elim
  | some u => exact ⟨u, rfl⟩
theorem ObOk.noTab {K : PySem.W.Frag} {F : Hp} {u : HO} {ob : Ob} (h : ObOk K F (Option.some u) ob) : NoTab u := by
  cases ob with
  | lst ds =>
    cases u with
    | lst xs => exact noTab_lst _
    | _ => exact h.elim
  | lstP P =>
    cases u with
    | lst xs => exact noTab_lst _
    | _ => exact h.elim
  | dct ps =>
    cases u with
    | dK xs => exact noTab_dK _
    | _ => exact h.elim
  | ins c ps =>
    cases u with
    | ins C dx fs => exact noTab_ins _ _ _
    | _ => exact h.elim
  | dctR ps =>
    cases u with
    | dT xs => exact noTab_dT _
    | _ => exact h.elim
theorem ObOk.mono {K : PySem.W.Frag} {F F' : Hp} (hs : Same F F') : ∀ {o : Option HO} {ob : Ob}, ObOk K F o ob → ObOk K F' o ob := fun {o ob} h => by
  obtain ⟨u, rfl⟩ := h.some
  cases ob with
  | lst ds =>
    cases u with
    | lst xs => exact RepA.mono hs (show RepA K F xs ds from h)
    | _ => exact h.elim
  | lstP P =>
    cases u with
    | lst xs =>
      obtain ⟨ds, p, r⟩ := (show ∃ ds, P ds ∧ RepA K F xs ds from h)
      exact ⟨ds, p, r.mono hs⟩
    | _ => exact h.elim
  | dct ps =>
    cases u with
    | dK kvs => exact KvOk.mono hs (show KvOk K F kvs ps from h)
    | _ => exact h.elim
  | ins c ps =>
    cases u with
    | ins C dx fs => exact ⟨h.1, FsOk.mono hs h.2⟩
    | _ => exact h.elim
  | dctR ps =>
    cases u with
    | dT kvs => exact KrOk.mono hs (show KrOk K F kvs ps from h)
    | _ => exact h.elim
theorem ObOk.dct {K : PySem.W.Frag} {F : Hp} {o : Option HO} {ps : List (Int × D)} (h : ObOk K F o (.dct ps)) : ∃ kvs, o = Option.some (.dK kvs) ∧ KvOk K F kvs ps := by
  obtain ⟨u, rfl⟩ := h.some
  cases u with
  | dK kvs => exact ⟨kvs, rfl, h⟩
  | _ => exact h.elim
theorem ObOk.dctR {K : PySem.W.Frag} {F : Hp} {o : Option HO} {ps : List (List Int × D)} (h : ObOk K F o (.dctR ps)) : ∃ kvs, o = Option.some (.dT kvs) ∧ KrOk K F kvs ps := by
  obtain ⟨u, rfl⟩ := h.some
  cases u with
  | dT kvs => exact ⟨kvs, rfl, h⟩
  | _ => exact h.elim
theorem ObOk.ins {K : PySem.W.Frag} {F : Hp} {o : Option HO} {c : Str} {ps : List (Str × D)} (h : ObOk K F o (.ins c ps)) : ∃ dx fs, o = Option.some (.ins (He.ga K c) dx fs) ∧ FsOk K F fs ps := by
  obtain ⟨u, rfl⟩ := h.some
  cases u with
  | ins C dx fs => obtain ⟨rfl, h⟩ := h; exact ⟨dx, fs, rfl, h⟩
  | _ => exact h.elim
theorem ObOk.lst {K : PySem.W.Frag} {F : Hp} {o : Option HO} {ds : List D} (h : ObOk K F o (.lst ds)) : ∃ xs, o = Option.some (.lst xs) ∧ RepA K F xs ds := by
  obtain ⟨u, rfl⟩ := h.some
  cases u with
  | lst xs => exact ⟨xs, rfl, h⟩
  | _ => exact h.elim
theorem ObOk.lstP {K : PySem.W.Frag} {F : Hp} {o : Option HO} {P : List D → Prop} (h : ObOk K F o (.lstP P)) : ∃ xs ds, o = Option.some (.lst xs) ∧ P ds ∧ RepA K F xs ds := by
  obtain ⟨u, rfl⟩ := h.some
  cases u with
  | lst xs =>
    obtain ⟨ds, p, r⟩ := (show ∃ ds, P ds ∧ RepA K F xs ds from h)
    exact ⟨xs, ds, rfl, p, r⟩
  | _ => exact h.elim

def TabOk (F H : Hp) (P : Addr) (q : Str) : Prop := F P = none ∧ ∃ ps : Array Value, H P = some (.tbl ps) ∧ TriplesOk ps.toList ∧ ∀ (pos : Pos) (cv : Value), codeAmong pos ps.toList = some cv → ∃ c, cv = .ref c ∧ F c = some (LamX.CodeO c q)
theorem TabOk.upd {F H : Hp} {P : Addr} {q : Str} {a : Addr} {o : HO} (h : TabOk F H P q) (ha : ∀ u, H a = some u → NoTab u) : TabOk F (upd H a o) P q := by
  obtain ⟨h0, ps, h1, h2, h3⟩ := h
  have ne : P ≠ a := fun z => by subst z; exact ha _ h1 _ rfl
  exact ⟨h0, ps, by rw [upd_ne ne]; exact h1, h2, h3⟩
theorem TabOk.grow {F F' H H' : Hp} {P : Addr} {q : Str} (h : TabOk F H P q) (hs : Same F F') (hh : ∀ o, H P = some o → H' P = some o) (hn : F' P = none) : TabOk F' H' P q := by
  obtain ⟨h0, ps, h1, h2, h3⟩ := h
  refine ⟨hn, ps, hh _ h1, h2, fun pos cv hc => ?_⟩
  obtain ⟨c, e1, e2⟩ := h3 pos cv hc
  exact ⟨c, e1, hs _ _ e2⟩
structure Base where
  F : Hp
  om : Om
  H : Hp
structure Ext (B : Base) (F : Hp) (om : Om) (H : Hp) : Prop where
  f : Same B.F F
  new : ∀ b o, F b = some o → B.F b = none → B.H b = none
  keep : ∀ b o, B.H b = some o → B.om b = none → (∀ ps, o ≠ .tbl ps) → H b = some o
  dom : ∀ b, H b = none → B.H b = none
  ob : ∀ b o, om b = some o → B.om b = none → B.H b = none
  wf : ∀ b, B.H b = none → B.om b = none
structure RelH (K : PySem.W.Frag) (F : Hp) (om : Om) (H : Hp) : Prop where
  sub : Same F H
  obj : ∀ a ob, om a = some ob → F a = none ∧ ObOk K F (H a) ob
  tab : ∀ p ∈ tabsOf K, TabOk F H p.1 p.2
def Own (K : PySem.W.Frag) (B : Base) (F : Hp) (om : Om) (H : Hp) (a : Addr) (ds : List D) : Prop :=
  F a = none ∧ om a = none ∧ B.H a = none ∧ ∃ xs, H a = some (.lst xs) ∧ RepA K F xs ds
def Slot (K : PySem.W.Frag) (B : Base) (F : Hp) (om : Om) (H : Hp) (x : V) : RV → Prop
  | .v d => Rep K F x d
  | .o ds => ∃ a, x = .ref a ∧ Own K B F om H a ds
  | .b _ => False
structure Rel (K : PySem.W.Frag) (B : Base) (F : Hp) (om : Om) (H : Hp) (st : St) (r : Env) : Prop where
  rh : RelH K F om H
  ext : Ext B F om H
  len : r.length = st.length
  slot : ∀ (i : Nat) (x : RV), r[i]? = some (some x) → ∃ y, st[i]? = some (some y) ∧ Slot K B F om H y x
  dis : ∀ (i j : Nat) (a : Addr) (ds es : List D), r[i]? = some (some (.o ds)) → r[j]? = some (some (.o es)) → st[i]? = some (some (.ref a)) → st[j]? = some (some (.ref a)) → i = j
def Res (K : PySem.W.Frag) (B : Base) (F : Hp) (om : Om) (H : Hp) (st : St) (r : Env) (x : V) : RV → Prop
  | .v d => Rep K F x d
  | .o ds => ∃ a, x = .ref a ∧ Own K B F om H a ds ∧ ∀ (j : Nat) (es : List D), r[j]? = some (some (.o es)) → st[j]? ≠ some (some (.ref a))
  | .b i => st[i]? = some (some x)
def ExOk (K : PySem.W.Frag) (F : Hp) (cls : Value) (d : Option Addr) (ex : Exn) : Prop :=
  cls = .ref (He.ga K ex.cls) ∧ match ex.fs with
    | none => d = none
    | some fs => ∃ a xs, d = some a ∧ F a = some (.xd ((fs.map (·.1)).zip xs)) ∧ RepA K F xs (fs.map (·.2))
def XOk (K : PySem.W.Frag) (B : Base) (W : WX) (xq : DX) : Prop :=
  ∀ ex r om F H st cls d, Rel K B F om H st r → ExOk K F cls d ex → xq ex r om → W cls d st H
def KeepE (_ _ : Env) : Prop := True
theorem KeepE.refl (r : Env) : KeepE r r := trivial
theorem KeepE.trans {r r1 r2 : Env} (a : KeepE r r1) (b : KeepE r1 r2) : KeepE r r2 := trivial

def SE (K : PySem.W.Frag) (W : WX) (t : TE) (w : WE) : Prop := ∀ (B : Base) (F : Hp) (om : Om) (H : Hp) (st : St) (r : Env) (xq : DX) (k : RV → Env → Om → Prop) (Q : VK),
  Rel K B F om H st r → XOk K B W xq →
  (∀ x r' om' F' H' y, Rel K B F' om' H' st r' → Same F F' → KeepE r r' → Res K B F' om' H' st r' y x → k x r' om' → Q y H') → w xq r om k → t st H Q
def ST (K : PySem.W.Frag) (W : WX) (t : TT) (w : WT) : Prop := ∀ (B : Base) (F : Hp) (om : Om) (H : Hp) (st : St) (r : Env) (xq : DX) (k : Bool → Env → Om → Prop) (Q : Bool → Hp → Prop),
  Rel K B F om H st r → XOk K B W xq →
  (∀ b r' om' F' H', Rel K B F' om' H' st r' → Same F F' → KeepE r r' → k b r' om' → Q b H') → w xq r om k → t st H Q
def ResA (K : PySem.W.Frag) (F : Hp) (st : St) (r : Env) : List V → List RV → Prop
  | [], [] => True
  | y :: ys, .v d :: xs => Rep K F y d ∧ ResA K F st r ys xs
  | y :: ys, .b i :: xs => st[i]? = some (some y) ∧ ResA K F st r ys xs
  | _, _ => False
def SA (K : PySem.W.Frag) (W : WX) (t : TA) (w : WA) : Prop := ∀ (B : Base) (F : Hp) (om : Om) (H : Hp) (st : St) (r : Env) (xq : DX) (k : List RV → Env → Om → Prop) (Q : List V → Hp → Prop),
  Rel K B F om H st r → XOk K B W xq →
  (∀ xs r' om' F' H' ys, Rel K B F' om' H' st r' → Same F F' → KeepE r r' → ResA K F' st r' ys xs → k xs r' om' → Q ys H') → w xq r om k → t st H Q
structure EndsOk (K : PySem.W.Frag) (B : Base) (D : Ends) (e : DEnds) : Prop where
  nx : ∀ r om F H st, Rel K B F om H st r → e.nx r om → D.nx st H
  rt : ∀ x om F H y, RelH K F om H → Ext B F om H → Slot K B F om H y x → e.rt x om → D.rt y H
  bk : ∀ r om F H st, Rel K B F om H st r → e.bk r om → D.bk st H
  ct : ∀ r om F H st, Rel K B F om H st r → e.ct r om → D.ct st H
def SS (K : PySem.W.Frag) (W : WX) (t : TS) (w : WS) : Prop := ∀ (B : Base) (F : Hp) (om : Om) (H : Hp) (st : St) (r : Env) (D : Ends) (e : DEnds),
  Rel K B F om H st r → XOk K B W e.xq → EndsOk K B D e → w e r om → t D st H

section
variable {K : PySem.W.Frag} {B : Base} {F F' : Hp} {om : Om} {H H' : Hp} {st : St} {r : Env}
theorem Own.ne (o : Own K B F om H a ds) {b : Addr} {u : HO} (h : F b = some u) : b ≠ a := fun e => by
  rw [e, o.1] at h; cases h
theorem Slot.mono {y : V} {x : RV} (hs : Same F F') (hn : ∀ b o, F' b = some o → F b = none → H b = none) (h : Slot K B F om H y x) : Slot K B F' om H y x := by
  cases x with
  | v d => exact Rep.mono hs h
  | o ds =>
    obtain ⟨a, e, o1, o2, o3, xs, o4, o5⟩ := h
    refine ⟨a, e, ?_, o2, o3, xs, o4, o5.mono hs⟩
    cases q : F' a with
    | none => rfl
    | some u => rw [hn a u q o1] at o4; cases o4
  | b _ => exact h
theorem Rel.growT (R : Rel K B F om H st r) (hs : Same F F') (hh : ∀ b o, H b = some o → NoTab o → H' b = some o) (dom : ∀ b, H' b = none → H b = none) (hn : ∀ b o, F' b = some o → F b = none → H b = none) (hsub : Same F' H') (ht : ∀ p ∈ tabsOf K, TabOk F' H' p.1 p.2) : Rel K B F' om H' st r := by
  refine ⟨⟨hsub, fun a ob e => ?_, ht⟩, ⟨R.ext.f.trans hs, fun b o e n => ?_, fun b o e n t => hh b o (R.ext.keep b o e n t) t, fun b e => R.ext.dom b (dom b e), R.ext.ob, R.ext.wf⟩, R.len, fun i x e => ?_, R.dis⟩
  · obtain ⟨h1, h2⟩ := R.rh.obj a ob e
    obtain ⟨u, hu⟩ := h2.some
    refine ⟨?_, ?_⟩
    · cases q : F' a with
      | none => rfl
      | some v => rw [hn a v q h1] at hu; cases hu
    · rw [hu] at h2
      rw [hh a u hu (ObOk.noTab h2)]
      exact h2.mono hs
  · cases q : F b with
    | some u => exact R.ext.new b u q n
    | none => exact R.ext.dom b (hn b o e q)
  · obtain ⟨y, e1, s⟩ := R.slot i x e
    refine ⟨y, e1, ?_⟩
    have s2 := Slot.mono hs hn s
    cases x with
    | v d => exact s2
    | o ds =>
      obtain ⟨a, e, o1, o2, o3, xs, o4, o5⟩ := s2
      exact ⟨a, e, o1, o2, o3, xs, hh _ _ o4 (noTab_lst _), o5⟩
    | b _ => exact s2
theorem Rel.grow (R : Rel K B F om H st r) (hs : Same F F') (hh : Same H H') (hn : ∀ b o, F' b = some o → F b = none → H b = none) (hsub : Same F' H') : Rel K B F' om H' st r :=
  R.growT hs (fun b o e _ => hh b o e) (fun b => hh.free) hn hsub fun p m => by
    have t := R.rh.tab p m
    obtain ⟨t1, ps, t3, _⟩ := id t
    refine t.grow hs (fun o e => hh _ o e) ?_
    cases q : F' p.1 with
    | none => rfl
    | some u => rw [hn _ u q t1] at t3; cases t3
theorem Res.grow {y : V} {x : RV} (hs : Same F F') (hh : Same H H') (hn : ∀ b o, F' b = some o → F b = none → H b = none) (h : Res K B F om H st r y x) : Res K B F' om H' st r y x := by
  cases x with
  | v d => exact Rep.mono hs h
  | o ds =>
    obtain ⟨a, e, ⟨o1, o2, o3, xs, o4, o5⟩, o6⟩ := h
    refine ⟨a, e, ⟨?_, o2, o3, xs, hh _ _ o4, o5.mono hs⟩, o6⟩
    cases q : F' a with
    | none => rfl
    | some u => rw [hn a u q o1] at o4; cases o4
  | b _ => exact h
theorem same_upd {p : Addr} {o : HO} (hp : H p = none) : Same H (upd H p o) := fun b u e => by
  rw [upd_ne (ne_of_none e hp)]; exact e
theorem Rel.alloc (R : Rel K B F om H st r) {p : Addr} {o : HO} (hp : H p = none) : Same F (upd F p o) ∧ Rel K B (upd F p o) om (upd H p o) st r := by
  have fp : F p = none := R.rh.sub.free hp
  refine ⟨same_upd fp, R.grow (same_upd fp) (same_upd hp) (fun b u e n => ?_) fun b u e => ?_⟩
  · by_cases hb : b = p
    · subst hb; exact hp
    · rw [upd_ne hb, n] at e; cases e
  · by_cases hb : b = p
    · subst hb; rw [upd_same] at e ⊢; exact e
    · rw [upd_ne hb] at e ⊢; exact R.rh.sub b u e
theorem Rel.allocO (R : Rel K B F om H st r) {p : Addr} {xs : List V} {ds : List D} (hp : H p = none) (hr : RepA K F xs ds) : Rel K B F om (upd H p (.lst xs)) st r ∧ Res K B F om (upd H p (.lst xs)) st r (.ref p) (.o ds) := by
  have fp : F p = none := R.rh.sub.free hp
  refine ⟨R.grow (Same.refl F) (same_upd hp) (fun b u e n => by rw [n] at e; cases e) (fun b u e => same_upd hp b u (R.rh.sub b u e)), p, rfl, ⟨fp, ?_, R.ext.dom p hp, xs, upd_same, hr⟩, fun j es e z => ?_⟩
  · cases q : om p with
    | none => rfl
    | some ob =>
      obtain ⟨u, hu⟩ := (R.rh.obj p ob q).2.some
      rw [hp] at hu; cases hu
  · obtain ⟨y, e1, a, e2, _, _, _, ys, e3, _⟩ := R.slot j (.o es) e
    rw [z] at e1
    cases e1
    cases e2
    rw [hp] at e3; cases e3
theorem Rel.freeze (R : Rel K B F om H st r) {a : Addr} {xs : List V} (h1 : F a = none) (h2 : om a = none) (h3 : B.H a = none) (h4 : H a = some (.lst xs)) (h5 : ∀ (j : Nat) (es : List D), r[j]? = some (some (.o es)) → st[j]? ≠ some (some (.ref a))) :
    Same F (upd F a (.lst xs)) ∧ Rel K B (upd F a (.lst xs)) om H st r := by
  have hs : Same F (upd F a (.lst xs)) := same_upd h1
  refine ⟨hs, ⟨fun b u e => ?_, fun b ob e => ?_, fun p m => ?_⟩, ⟨R.ext.f.trans hs, fun b o e n => ?_, R.ext.keep, R.ext.dom, R.ext.ob, R.ext.wf⟩, R.len, fun i x e => ?_, R.dis⟩
  · by_cases hb : b = a
    · subst hb; rw [upd_same] at e; cases e; exact h4
    · rw [upd_ne hb] at e; exact R.rh.sub b u e
  · have nb : b ≠ a := fun z => by rw [z, h2] at e; cases e
    rw [upd_ne nb]
    exact ⟨(R.rh.obj b ob e).1, (R.rh.obj b ob e).2.mono hs⟩
  · have t := R.rh.tab p m
    obtain ⟨t1, ps, t3, _⟩ := id t
    have nb : p.1 ≠ a := fun z => by rw [z, h4] at t3; cases t3
    exact t.grow hs (fun _ e => e) (by rw [upd_ne nb]; exact t1)
  · by_cases hb : b = a
    · subst hb; exact h3
    · rw [upd_ne hb] at e; exact R.ext.new b o e n
  · obtain ⟨y, e1, s⟩ := R.slot i x e
    refine ⟨y, e1, ?_⟩
    cases x with
    | v d => exact Rep.mono hs s
    | o ds =>
      obtain ⟨b, rfl, o1, o2, o3, ys, o4, o5⟩ := s
      have nb : b ≠ a := fun z => h5 i ds e (by rw [e1, z])
      exact ⟨b, rfl, by rw [upd_ne nb]; exact o1, o2, o3, ys, o4, o5.mono hs⟩
    | b _ => exact s
def fz : RV → RV
  | .o ds => .v (.lst ds)
  | x => x
theorem Rel.fz (R : Rel K B F om H st r) {y : V} {x : RV} (h : Res K B F om H st r y x) : ∃ F', Same F F' ∧ Rel K B F' om H st r ∧ Res K B F' om H st r y (fz x) := by
  cases x with
  | v d => exact ⟨F, Same.refl F, R, h⟩
  | b i => exact ⟨F, Same.refl F, R, h⟩
  | o ds =>
    obtain ⟨a, rfl, ⟨o1, o2, o3, xs, o4, o5⟩, o6⟩ := h
    obtain ⟨s, R'⟩ := R.freeze o1 o2 o3 o4 o6
    exact ⟨_, s, R', Rep.lst upd_same (o5.mono s)⟩
theorem Rel.put (R : Rel K B F om H st r) {i : Nat} {y : V} {x : RV} (h : Res K B F om H st r y x) (hb : ∀ j, x ≠ .b j) (hi : i < r.length) : Rel K B F om H (st.set i (some y)) (r.set i (some x)) := by
  have hi' : i < st.length := by rw [← R.len]; exact hi
  refine ⟨R.rh, R.ext, by simp [R.len], fun j z e => ?_, fun j k a ds es e1 e2 e3 e4 => ?_⟩
  · by_cases hj : i = j
    · subst hj
      rw [List.getElem?_set_self hi] at e
      cases e
      refine ⟨y, List.getElem?_set_self hi', ?_⟩
      cases x with
      | v d => exact h
      | o ds => obtain ⟨a, e, o, _⟩ := h; exact ⟨a, e, o⟩
      | b j => exact (hb j rfl).elim
    · rw [List.getElem?_set_ne hj] at e
      rw [List.getElem?_set_ne hj]
      exact R.slot j z e
  · have key : ∀ {j k : Nat} {a : Addr} {ds es : List D}, i = j → (r.set i (some x))[j]? = some (some (.o ds)) → (r.set i (some x))[k]? = some (some (.o es)) → (st.set i (some y))[j]? = some (some (.ref a)) → (st.set i (some y))[k]? = some (some (.ref a)) → j = k := by
      intro j k a ds es hj q1 q2 q3 q4
      by_cases hk : i = k
      · exact hj.symm.trans hk
      · subst hj
        rw [List.getElem?_set_self hi] at q1
        rw [List.getElem?_set_self hi'] at q3
        rw [List.getElem?_set_ne hk] at q2 q4
        obtain rfl : x = .o ds := Option.some.inj (Option.some.inj q1)
        obtain rfl : y = .ref a := Option.some.inj (Option.some.inj q3)
        obtain ⟨b, e, _, o6⟩ := h
        cases e
        exact (o6 k es q2 q4).elim
    by_cases hj : i = j
    · exact key hj e1 e2 e3 e4
    · by_cases hk : i = k
      · exact (key hk e2 e1 e4 e3).symm
      · rw [List.getElem?_set_ne hj] at e1 e3
        rw [List.getElem?_set_ne hk] at e2 e4
        exact R.dis j k a ds es e1 e2 e3 e4
theorem Rel.forget (R : Rel K B F om H st r) {r' : Env} {st' : St} (hl : r'.length = st'.length) (h : ∀ (i : Nat) (x : RV), r'[i]? = some (some x) → r[i]? = some (some x) ∧ st'[i]? = st[i]?) : Rel K B F om H st' r' := by
  refine ⟨R.rh, R.ext, hl, fun i x e => ?_, fun i j a ds es e1 e2 e3 e4 => ?_⟩
  · obtain ⟨h1, h2⟩ := h i x e
    obtain ⟨y, e1, s⟩ := R.slot i x h1
    exact ⟨y, by rw [h2]; exact e1, s⟩
  · obtain ⟨h1, h2⟩ := h i _ e1
    obtain ⟨h3, h4⟩ := h j _ e2
    exact R.dis i j a ds es h1 h3 (by rw [← h2]; exact e3) (by rw [← h4]; exact e4)
theorem Rel.write (R : Rel K B F om H st r) {i : Nat} {a : Addr} {ds es : List D} {ys : List V} (e : r[i]? = some (some (.o ds))) (ea : st[i]? = some (some (.ref a))) (hr : RepA K F ys es) : Rel K B F om (upd H a (.lst ys)) st (r.set i (some (.o es))) := by
  obtain ⟨y, e1, b, e2, o1, o2, o3, xs, o4, o5⟩ := R.slot i _ e
  rw [ea] at e1
  cases e1
  cases e2
  have hi : i < r.length := (List.getElem?_eq_some_iff.mp e).1
  refine ⟨⟨fun b u q => ?_, fun b ob q => ?_, fun p m => ?_⟩, ⟨R.ext.f, R.ext.new, fun b u q n t => ?_, fun b q => ?_, R.ext.ob, R.ext.wf⟩, by simp [R.len], fun j z q => ?_, fun j k c d1 d2 q1 q2 q3 q4 => ?_⟩
  · have nb : b ≠ a := fun z => by rw [z, o1] at q; cases q
    rw [upd_ne nb]; exact R.rh.sub b u q
  · have nb : b ≠ a := fun z => by rw [z, o2] at q; cases q
    rw [upd_ne nb]; exact R.rh.obj b ob q
  · exact (R.rh.tab p m).upd fun u hu => by rw [o4] at hu; cases hu; exact noTab_lst _
  · have nb : b ≠ a := fun z => by rw [z, o3] at q; cases q
    rw [upd_ne nb]; exact R.ext.keep b u q n t
  · by_cases hb : b = a
    · subst hb; exact o3
    · rw [upd_ne hb] at q; exact R.ext.dom b q
  · by_cases hj : i = j
    · subst hj
      rw [List.getElem?_set_self hi] at q
      cases q
      exact ⟨_, ea, a, rfl, o1, o2, o3, ys, upd_same, hr⟩
    · rw [List.getElem?_set_ne hj] at q
      obtain ⟨y, e1, s⟩ := R.slot j z q
      refine ⟨y, e1, ?_⟩
      cases z with
      | v d => exact s
      | o d1 =>
        obtain ⟨c, rfl, p1, p2, p3, zs, p4, p5⟩ := s
        have nb : c ≠ a := fun z => hj (R.dis i j a ds d1 e q ea (by rw [e1, z]))
        exact ⟨c, rfl, p1, p2, p3, zs, by rw [upd_ne nb]; exact p4, p5⟩
      | b _ => exact s
  · have back : ∀ {j : Nat} {d1 : List D}, (r.set i (some (.o es)))[j]? = some (some (.o d1)) → ∃ d2, r[j]? = some (some (.o d2)) := fun {j d1} q => by
      by_cases hj : i = j
      · subst hj; exact ⟨ds, e⟩
      · rw [List.getElem?_set_ne hj] at q; exact ⟨d1, q⟩
    obtain ⟨d3, q5⟩ := back q1
    obtain ⟨d4, q6⟩ := back q2
    exact R.dis j k c d3 d4 q5 q6 q3 q4
def Base.guard (B : Base) (p : Addr) (o : HO) : Base := ⟨B.F, B.om, upd B.H p o⟩
theorem Rel.guard (R : Rel K B F om H st r) {p : Addr} {o : HO} (h1 : F p = none) (h2 : om p = none) (h4 : H p = some o) (h5 : ∀ (j : Nat) (es : List D), r[j]? = some (some (.o es)) → st[j]? ≠ some (some (.ref p))) : Rel K (B.guard p o) F om H st r := by
  refine ⟨R.rh, ⟨R.ext.f, fun b u e n => ?_, fun b u e n t => ?_, fun b e => ?_, fun b u e n => ?_, fun b e => R.ext.wf b ?_⟩, R.len, fun i x e => ?_, R.dis⟩
  · have nb : b ≠ p := fun z => by rw [z, h1] at e; cases e
    show upd B.H p o b = none
    rw [upd_ne nb]; exact R.ext.new b u e n
  · by_cases hb : b = p
    · subst hb
      have e' : upd B.H b o b = some u := e
      rw [upd_same] at e'; cases e'; exact h4
    · have e' : upd B.H p o b = some u := e
      rw [upd_ne hb] at e'; exact R.ext.keep b u e' n t
  · have nb : b ≠ p := fun z => by rw [z, h4] at e; cases e
    show upd B.H p o b = none
    rw [upd_ne nb]; exact R.ext.dom b e
  · have nb : b ≠ p := fun z => by rw [z, h2] at e; cases e
    show upd B.H p o b = none
    rw [upd_ne nb]; exact R.ext.ob b u e n
  · have e' : upd B.H p o b = none := e
    have nb : b ≠ p := fun z => by rw [z, upd_same] at e'; cases e'
    rw [upd_ne nb] at e'; exact e'
  · obtain ⟨y, e1, s⟩ := R.slot i x e
    refine ⟨y, e1, ?_⟩
    cases x with
    | v d => exact s
    | o ds =>
      obtain ⟨a, rfl, o1, o2, o3, xs, o4, o5⟩ := s
      have nb : a ≠ p := fun z => h5 i ds e (by rw [e1, z])
      exact ⟨a, rfl, o1, o2, by show upd B.H p o a = none; rw [upd_ne nb]; exact o3, xs, o4, o5⟩
    | b _ => exact s
theorem Rel.unguard {p : Addr} {o : HO} (R : Rel K (B.guard p o) F om H st r) (hF : B.F p = none) (hO : B.om p = none) (hp : B.H p = none) (ht : ∀ ps, o ≠ .tbl ps := by intro _ h; cases h) : Rel K B F om H st r ∧ F p = none ∧ om p = none ∧ H p = some o ∧ ∀ (j : Nat) (es : List D), r[j]? = some (some (.o es)) → st[j]? ≠ some (some (.ref p)) := by
  have gp : (B.guard p o).H p = some o := upd_same
  have back : ∀ b, (B.guard p o).H b = none → B.H b = none := fun b e => by
    have e' : upd B.H p o b = none := e
    by_cases hb : b = p
    · subst hb; exact hp
    · rw [upd_ne hb] at e'; exact e'
  have f1 : F p = none := by
    cases q : F p with
    | none => rfl
    | some u =>
      have := R.ext.new p u q hF
      rw [gp] at this; cases this
  have f2 : om p = none := by
    cases q : om p with
    | none => rfl
    | some u =>
      have := R.ext.ob p u q hO
      rw [gp] at this; cases this
  refine ⟨⟨R.rh, ⟨R.ext.f, fun b u e n => back b (R.ext.new b u e n), fun b u e n t => R.ext.keep b u ?_ n t, fun b e => back b (R.ext.dom b e), fun b u e n => back b (R.ext.ob b u e n), fun b e => ?_⟩, R.len, fun i x e => ?_, R.dis⟩, f1, f2, R.ext.keep p o gp hO ht, fun j es e z => ?_⟩
  · show upd B.H p o b = some u
    have nb : b ≠ p := fun z => by rw [z, hp] at e; cases e
    rw [upd_ne nb]; exact e
  · by_cases hb : b = p
    · rw [hb]; exact hO
    · exact R.ext.wf b (by show upd B.H p o b = none; rw [upd_ne hb]; exact e)
  · obtain ⟨y, e1, s⟩ := R.slot i x e
    refine ⟨y, e1, ?_⟩
    cases x with
    | v d => exact s
    | o ds =>
      obtain ⟨a, rfl, o1, o2, o3, xs, o4, o5⟩ := s
      exact ⟨a, rfl, o1, o2, back a o3, xs, o4, o5⟩
    | b _ => exact s
  · obtain ⟨y, e1, a, e2, _, _, o3, _⟩ := R.slot j _ e
    rw [z] at e1
    cases e1
    cases e2
    rw [gp] at o3; cases o3
theorem Rel.writeX (R : Rel K B F om H st r) {p : Addr} {o : HO} (h1 : F p = none) (h2 : om p = none) (h3 : B.H p = none) (h5 : ∀ (j : Nat) (es : List D), r[j]? = some (some (.o es)) → st[j]? ≠ some (some (.ref p))) (h6 : ∀ u, H p = some u → NoTab u) : Rel K B F om (upd H p o) st r := by
  refine ⟨⟨fun b u q => ?_, fun b ob q => ?_, fun z m => (R.rh.tab z m).upd h6⟩, ⟨R.ext.f, R.ext.new, fun b u q n t => ?_, fun b q => ?_, R.ext.ob, R.ext.wf⟩, R.len, fun j z q => ?_, R.dis⟩
  · have nb : b ≠ p := fun z => by rw [z, h1] at q; cases q
    rw [upd_ne nb]; exact R.rh.sub b u q
  · have nb : b ≠ p := fun z => by rw [z, h2] at q; cases q
    rw [upd_ne nb]; exact R.rh.obj b ob q
  · have nb : b ≠ p := fun z => by rw [z, h3] at q; cases q
    rw [upd_ne nb]; exact R.ext.keep b u q n t
  · by_cases hb : b = p
    · subst hb; exact h3
    · rw [upd_ne hb] at q; exact R.ext.dom b q
  · obtain ⟨y, e1, s⟩ := R.slot j z q
    refine ⟨y, e1, ?_⟩
    cases z with
    | v d => exact s
    | o d1 =>
      obtain ⟨c, rfl, p1, p2, p3, zs, p4, p5⟩ := s
      have nb : c ≠ p := fun z => h5 j d1 q (by rw [e1, z])
      exact ⟨c, rfl, p1, p2, p3, zs, by rw [upd_ne nb]; exact p4, p5⟩
    | b _ => exact s
end
end DL

set_option Elab.async false
set_option linter.all false
set_option maxRecDepth 100000
namespace DL
open PySem L2

def wd {α : Type} : Option α → (α → Prop) → Prop
  | some a, k => k a
  | none, _ => False
@[simp] theorem wd_some {α : Type} (a : α) (k : α → Prop) : wd (some a) k = k a := rfl
@[simp] theorem wd_none {α : Type} (k : α → Prop) : wd none k = False := rfl
theorem wd_iff {α : Type} {o : Option α} {k : α → Prop} (h : wd o k) : ∃ a, o = some a ∧ k a := by
  cases o with
  | none => exact h.elim
  | some a => exact ⟨a, rfl, h⟩
def deref (om : Om) : D → D
  | .h a => match om a with
    | some (.lst ds) => .lst ds
    | _ => .h a
  | d => d
def datB (r : Env) (om : Om) : RV → Option D
  | .v d => some (deref om d)
  | .o ds => some (.lst ds)
  | .b i => match r[i]? with
    | some (some (.o ds)) => some (.lst ds)
    | some (some (.v d)) => some (deref om d)
    | _ => none
def datE : RV → Option D
  | .v d => some d
  | .o ds => some (.lst ds)
  | .b _ => none
def datsB (r : Env) (om : Om) : List RV → Option (List D)
  | [] => some []
  | x :: xs => match datB r om x, datsB r om xs with
    | some d, some ds => some (d :: ds)
    | _, _ => none
def datsE : List RV → Option (List D)
  | [] => some []
  | x :: xs => match datE x, datsE xs with
    | some d, some ds => some (d :: ds)
    | _, _ => none
def RepB (K : PySem.W.Frag) (F H : Hp) (y : V) (d : D) : Prop := Rep K F y d ∨ ∃ a xs ds, y = .ref a ∧ d = .lst ds ∧ H a = some (.lst xs) ∧ RepA K F xs ds
def RepBs (K : PySem.W.Frag) (F H : Hp) : List V → List D → Prop
  | [], [] => True
  | y :: ys, d :: ds => RepB K F H y d ∧ RepBs K F H ys ds
  | _, _ => False
section
variable {K : PySem.W.Frag} {B : Base} {F F' : Hp} {om : Om} {H H' : Hp} {st : St} {r : Env} {W : WX}
theorem RelH.deref (R : RelH K F om H) {y : V} {d : D} (h : Rep K F y d) : RepB K F H y (deref om d) := by
  cases d with
  | h a =>
    cases h
    unfold DL.deref
    cases q : om a with
    | none => exact .inl (by simpa [q] using Rep.h a)
    | some ob =>
      cases ob with
      | lst ds =>
        obtain ⟨xs, e, rr⟩ := (R.obj a _ q).2.lst
        exact .inr ⟨a, xs, ds, rfl, by simp [q], e, rr⟩
      | lstP P => exact .inl (by simpa [q] using Rep.h a)
      | dct ps => exact .inl (by simpa [q] using Rep.h a)
      | ins c ps => exact .inl (by simpa [q] using Rep.h a)
      | dctR ps => exact .inl (by simpa [q] using Rep.h a)
  | _ => exact .inl h
theorem Rel.datB (R : Rel K B F om H st r) {y : V} {x : RV} {d : D} (h : Res K B F om H st r y x) (e : datB r om x = some d) : RepB K F H y d := by
  cases x with
  | v d' =>
    have e' : DL.deref om d' = d := Option.some.inj e
    subst e'
    exact R.rh.deref h
  | o ds =>
    have e' : D.lst ds = d := Option.some.inj e
    subst e'
    obtain ⟨a, rfl, ⟨_, _, _, xs, h4, h5⟩, _⟩ := h
    exact .inr ⟨a, xs, ds, rfl, rfl, h4, h5⟩
  | b i =>
    have h1 : st[i]? = some (some y) := h
    simp only [DL.datB] at e
    obtain ⟨z, h2⟩ : ∃ z, r[i]? = some (some z) := by
      cases q : r[i]? with
      | none => rw [q] at e; cases e
      | some o =>
        cases o with
        | none => rw [q] at e; cases e
        | some z => exact ⟨z, rfl⟩
    obtain ⟨y', h3, s⟩ := R.slot i z h2
    rw [h1] at h3
    cases h3
    rw [h2] at e
    cases z with
    | v d' =>
      have e' : DL.deref om d' = d := Option.some.inj e
      subst e'
      exact R.rh.deref s
    | o ds =>
      have e' : D.lst ds = d := Option.some.inj e
      subst e'
      obtain ⟨a, rfl, _, _, _, xs, h4, h5⟩ := s
      exact .inr ⟨a, xs, ds, rfl, rfl, h4, h5⟩
    | b _ => exact s.elim
theorem datE_rep {y : V} {x : RV} {d : D} (h : Res K B F om H st r y (fz x)) (e : datE x = some d) : Rep K F y d := by
  cases x with
  | v d' => cases e; exact h
  | o ds => cases e; exact h
  | b i => cases e
theorem Res.later {y : V} {x : RV} {r' : Env} {om' : Om} (h : Res K B F om H st r y (fz x)) (hs : Same F F') (hk : KeepE r r') : Res K B F' om' H' st r' y (fz x) := by
  cases x with
  | v d => exact Rep.mono hs h
  | o ds => exact Rep.mono hs h
  | b i => exact h
theorem datB_fz {om : Om} {r : Env} {x : RV} {d : D} (e : datB r om x = some d) : datB r om (fz x) = some d := by
  cases x with
  | v d' => exact e
  | o ds => exact e
  | b i => exact e

structure Grow (F H F' H' : Hp) : Prop where
  f : Same F F'
  h : Same H H'
  new : ∀ b o, F' b = some o → F b = none → H b = none
  sub : Same F' H'
theorem Grow.refl (s : Same F H) : Grow F H F H := ⟨Same.refl _, Same.refl _, fun b o e n => (by rw [n] at e; cases e), s⟩
theorem Grow.alloc (s : Same F H) {p : Addr} {o : HO} (hp : H p = none) : Grow F H (upd F p o) (upd H p o) := by
  have fp : F p = none := s.free hp
  refine ⟨same_upd fp, same_upd hp, fun b u e n => ?_, fun b u e => ?_⟩
  · by_cases hb : b = p
    · subst hb; exact hp
    · rw [upd_ne hb, n] at e; cases e
  · by_cases hb : b = p
    · subst hb; rw [upd_same] at e ⊢; exact e
    · rw [upd_ne hb] at e ⊢; exact s b u e
theorem Grow.allocO (s : Same F H) {p : Addr} {o : HO} (hp : H p = none) : Grow F H F (upd H p o) :=
  ⟨Same.refl _, same_upd hp, fun b u e n => (by rw [n] at e; cases e), fun b u e => same_upd hp b u (s b u e)⟩
def ResP (K : PySem.W.Frag) (F' H H' : Hp) (y : V) : RV → Prop
  | .v d => Rep K F' y d
  | .o ds => ∃ a xs, y = .ref a ∧ H a = none ∧ F' a = none ∧ H' a = some (.lst xs) ∧ RepA K F' xs ds
  | .b _ => False
theorem ResP.newL (s : Same F H) {p : Addr} {xs : List V} {ds : List D} (hp : H p = none) (h : RepA K F xs ds) : ResP K F H (upd H p (.lst xs)) (.ref p) (.o ds) := ⟨p, xs, rfl, hp, s.free hp, upd_same, h⟩
theorem ResP.newT (s : Same F H) {p : Addr} {xs : List V} {ds : List D} (hp : H p = none) (h : RepA K F xs ds) : ResP K (upd F p (.tup xs)) H (upd H p (.tup xs)) (.ref p) (.v (.tup ds)) :=
  Rep.tup (TupR.of upd_same) (h.mono (same_upd (s.free hp)))
theorem Rel.finish (R : Rel K B F om H st r) (g : Grow F H F' H') {y : V} {x : RV} (h : ResP K F' H H' y x) : Rel K B F' om H' st r ∧ Res K B F' om H' st r y x := by
  have R' := R.grow g.f g.h g.new g.sub
  refine ⟨R', ?_⟩
  cases x with
  | v d => exact h
  | o ds =>
    obtain ⟨a, xs, rfl, hn, hf, hh, hr⟩ := h
    refine ⟨a, rfl, ⟨hf, ?_, R.ext.dom a hn, xs, hh, hr⟩, fun j es e z => ?_⟩
    · cases q : om a with
      | none => rfl
      | some ob =>
        obtain ⟨u, hu⟩ := (R.rh.obj a ob q).2.some
        rw [hn] at hu; cases hu
    · obtain ⟨y, e1, a', e2, _, _, _, ys, e3, _⟩ := R.slot j (.o es) e
      rw [z] at e1
      cases e1
      cases e2
      rw [hn] at e3; cases e3
  | b _ => exact h.elim

abbrev P2 := D → D → (RV → Prop) → Prop
abbrev P1 := D → (RV → Prop) → Prop
abbrev PN := List D → (RV → Prop) → Prop
def S2 (K : PySem.W.Frag) (rr : R2) (p : P2) : Prop := ∀ (F H : Hp) (x y : V) (d e : D) (c : RV → Prop) (Q : VK), Same F H → RepB K F H x d → RepB K F H y e → p d e c →
  (∀ z v F' H', Grow F H F' H' → ResP K F' H H' v z → c z → Q v H') → rr x y H Q
def S1 (K : PySem.W.Frag) (rr : V → Hp → VK → Prop) (p : P1) : Prop := ∀ (F H : Hp) (x : V) (d : D) (c : RV → Prop) (Q : VK), Same F H → RepB K F H x d → p d c →
  (∀ z v F' H', Grow F H F' H' → ResP K F' H H' v z → c z → Q v H') → rr x H Q
def SN (K : PySem.W.Frag) (rr : List V → Hp → VK → Prop) (p : PN) : Prop := ∀ (F H : Hp) (xs : List V) (ds : List D) (c : RV → Prop) (Q : VK), Same F H → RepBs K F H xs ds → p ds c →
  (∀ z v F' H', Grow F H F' H' → ResP K F' H H' v z → c z → Q v H') → rr xs H Q
theorem S2.or {r1 r2 : R2} {p p1 p2 : P2} (h1 : S2 K r1 p1) (h2 : S2 K r2 p2) (h : ∀ d e c, p d e c → p1 d e c ∨ p2 d e c) : S2 K (fun x y H Q => r1 x y H Q ∨ r2 x y H Q) p := fun F H x y d e c Q s rx ry q hQ => by
  rcases h d e c q with q | q
  · exact .inl (h1 F H x y d e c Q s rx ry q hQ)
  · exact .inr (h2 F H x y d e c Q s rx ry q hQ)
theorem OpR.or {X : Cx} {f : Value → Value → Sem Value} {r r' : R2} (h : OpR X f r) (h' : OpR X f r') : OpR X f (fun x y H Q => r x y H Q ∨ r' x y H Q) := by
  intro pins s σ H x y v u Q I rx ry q
  rcases q with q | q
  · exact h pins s σ H x y v u Q I rx ry q
  · exact h' pins s σ H x y v u Q I rx ry q
theorem SN.or {r1 r2 : List V → Hp → VK → Prop} {p p1 p2 : PN} (h1 : SN K r1 p1) (h2 : SN K r2 p2) (h : ∀ d c, p d c → p1 d c ∨ p2 d c) : SN K (fun x H Q => r1 x H Q ∨ r2 x H Q) p := fun F H x d c Q s rx q hQ => by
  rcases h d c q with q | q
  · exact .inl (h1 F H x d c Q s rx q hQ)
  · exact .inr (h2 F H x d c Q s rx q hQ)

def wVar (i : Nat) : WE := fun _ r om k => match r[i]? with
  | some (some (.v d)) => k (.v d) r om
  | some (some (.o ds)) => k (.v (.lst ds)) (r.set i (some (.v (.lst ds)))) om
  | _ => False
def wBor (i : Nat) : WE := fun _ r om k => match r[i]? with
  | some (some (.v d)) => k (.v d) r om
  | some (some (.o _)) => k (.b i) r om
  | _ => False
def wMov (i : Nat) : WE := fun _ r om k => match r[i]? with
  | some (some (.v d)) => k (.v d) r om
  | some (some (.o ds)) => k (.o ds) r om
  | _ => False
def wC (d : D) : WE := fun _ r om k => k (.v d) r om
theorem KeepE.set {i : Nat} {x : RV} : KeepE r (r.set i (some x)) := trivial
theorem se_var (i : Nat) : SE K W (tVar i) (wVar i) := by
  intro B F om H st r xq k Q R hx hQ hw
  unfold wVar at hw
  cases e : r[i]? with
  | none => rw [e] at hw; exact hw.elim
  | some o =>
    rw [e] at hw
    cases o with
    | none => exact hw.elim
    | some x =>
      obtain ⟨y, e1, s⟩ := R.slot i x e
      refine ⟨y, e1, ?_⟩
      cases x with
      | v d => exact hQ (.v d) _ _ _ _ _ R (Same.refl _) (KeepE.refl _) s hw
      | o ds =>
        obtain ⟨a, rfl, o1, o2, o3, xs, o4, o5⟩ := s
        have hi := (List.getElem?_eq_some_iff.mp e).1
        -- the slot is forgotten, the list frozen, the slot given anew
        have R1 : Rel K B F om H st (r.set i none) := R.forget (by simp [R.len]) fun j z q => by
          by_cases hj : i = j
          · subst hj; rw [List.getElem?_set_self hi] at q; cases q
          · rw [List.getElem?_set_ne hj] at q; exact ⟨q, rfl⟩
        obtain ⟨hs, R2⟩ := R1.freeze o1 o2 o3 o4 (fun j es q z => by
          by_cases hj : i = j
          · subst hj; rw [List.getElem?_set_self hi] at q; cases q
          · rw [List.getElem?_set_ne hj] at q
            exact hj (R.dis i j a ds es e q e1 z))
        have rp : Rep K (upd F a (.lst xs)) (.ref a) (.lst ds) := Rep.lst upd_same (o5.mono hs)
        have R3 := R2.put (i := i) (y := .ref a) (x := .v (.lst ds)) rp (fun j z => by cases z) (by simpa using hi)
        rw [List.set_set] at R3
        have est : st.set i (some (.ref a)) = st := by
          apply List.ext_getElem?
          intro j
          by_cases hj : i = j
          · subst hj; rw [List.getElem?_set_self (by rw [← R.len]; exact hi), e1]
          · rw [List.getElem?_set_ne hj]
        rw [est] at R3
        exact hQ (.v (.lst ds)) _ _ _ _ _ R3 hs KeepE.set rp hw
      | b j => exact s.elim
theorem se_bor (i : Nat) : SE K W (tVar i) (wBor i) := by
  intro B F om H st r xq k Q R hx hQ hw
  unfold wBor at hw
  cases e : r[i]? with
  | none => rw [e] at hw; exact hw.elim
  | some o =>
    rw [e] at hw
    cases o with
    | none => exact hw.elim
    | some x =>
      obtain ⟨y, e1, s⟩ := R.slot i x e
      refine ⟨y, e1, ?_⟩
      cases x with
      | v d => exact hQ (.v d) _ _ _ _ _ R (Same.refl _) (KeepE.refl _) s hw
      | o ds => exact hQ (.b i) _ _ _ _ _ R (Same.refl _) (KeepE.refl _) e1 hw
      | b j => exact s.elim
theorem se_c {v : V} {d : D} (h : ∀ F, Rep K F v d) : SE K W (tC v) (wC d) := by
  intro B F om H st r xq k Q R hx hQ hw
  exact hQ (.v d) _ _ _ _ _ R (Same.refl _) (KeepE.refl _) (h F) hw
def wOp (p : P2) (wa wb : WE) : WE := fun xq r om k => wa xq r om fun x r1 om1 => wb xq r1 om1 fun y r2 om2 =>
  wd (datB r2 om2 x) fun d => wd (datB r2 om2 y) fun e => p d e fun z => k z r2 om2
theorem se_op {ta tb : TE} {wa wb : WE} {rr : R2} {p : P2} (ha : SE K W ta wa) (hb : SE K W tb wb) (hp : S2 K rr p) : SE K W (tOp rr ta tb) (wOp p wa wb) := by
  intro B F om H st r xq k Q R hx hQ hw
  refine ha B F om H st r xq _ _ R hx (fun x r1 om1 F1 H1 y R1 s1 k1 q1 hw => ?_) hw
  obtain ⟨F2, s2, R2, q2⟩ := R1.fz q1
  refine hb B F2 om1 H1 st r1 xq _ _ R2 hx (fun x' r3 om3 F3 H3 y' R3 s3 k3 q3 hw => ?_) hw
  obtain ⟨d, e1, hw⟩ := wd_iff hw
  obtain ⟨e, e2, hw⟩ := wd_iff hw
  have q2' := Res.later (H' := H3) (om' := om3) q2 s3 k3
  refine hp F3 H3 y y' d e _ _ R3.rh.sub (R3.datB q2' (datB_fz e1)) (R3.datB q3 e2) hw fun z v F4 H4 g rp hc => ?_
  obtain ⟨R4, q4⟩ := R3.finish g rp
  exact hQ _ _ _ _ _ _ R4 (((s1.trans s2).trans s3).trans g.f) (k1.trans k3) q4 hc
def wUn (p : P1) (wa : WE) : WE := fun xq r om k => wa xq r om fun x r1 om1 => wd (datB r1 om1 x) fun d => p d fun z => k z r1 om1
theorem se_un {ta : TE} {wa : WE} {rr : V → Hp → VK → Prop} {p : P1} (ha : SE K W ta wa) (hp : S1 K rr p) : SE K W (tUn rr ta) (wUn p wa) := by
  intro B F om H st r xq k Q R hx hQ hw
  refine ha B F om H st r xq _ _ R hx (fun x r1 om1 F1 H1 y R1 s1 k1 q1 hw => ?_) hw
  obtain ⟨d, e1, hw⟩ := wd_iff hw
  refine hp F1 H1 y d _ _ R1.rh.sub (R1.datB q1 e1) hw fun z v F4 H4 g rp hc => ?_
  obtain ⟨R4, q4⟩ := R1.finish g rp
  exact hQ _ _ _ _ _ _ R4 (s1.trans g.f) k1 q4 hc
def wNil : WA := fun _ r om k => k [] r om
def wCons (wa : WE) (wr : WA) : WA := fun xq r om k => wa xq r om fun x r1 om1 => wr xq r1 om1 fun xs r2 om2 => k (fz x :: xs) r2 om2
theorem sa_nil : SA K W tNil wNil := by
  intro B F om H st r xq k Q R hx hQ hw
  exact hQ [] _ _ _ _ _ R (Same.refl _) (KeepE.refl _) trivial hw
theorem sa_cons {ta : TE} {wa : WE} {tr : TA} {wr : WA} (ha : SE K W ta wa) (hr : SA K W tr wr) : SA K W (tCons ta tr) (wCons wa wr) := by
  intro B F om H st r xq k Q R hx hQ hw
  refine ha B F om H st r xq _ _ R hx (fun x r1 om1 F1 H1 y R1 s1 k1 q1 hw => ?_) hw
  obtain ⟨F2, s2, R2, q2⟩ := R1.fz q1
  refine hr B F2 om1 H1 st r1 xq _ _ R2 hx (fun xs r3 om3 F3 H3 ys R3 s3 k3 q3 hw => ?_) hw
  refine hQ _ _ _ _ _ _ R3 ((s1.trans s2).trans s3) (k1.trans k3) ?_ hw
  have q2' := Res.later (H' := H3) (om' := om3) q2 s3 k3
  cases x with
  | v d => exact ⟨q2', q3⟩
  | o ds => exact ⟨q2', q3⟩
  | b i => exact ⟨q2', q3⟩
theorem Rel.datsB (R : Rel K B F om H st r) : ∀ {ys : List V} {xs : List RV} {ds : List D}, ResA K F st r ys xs → datsB r om xs = some ds → RepBs K F H ys ds
  | [], [], ds, _, e => by cases e; trivial
  | y :: ys, x :: xs, ds, h, e => by
    unfold DL.datsB at e
    cases e1 : DL.datB r om x with
    | none => rw [e1] at e; cases e
    | some d =>
      cases e2 : DL.datsB r om xs with
      | none => rw [e1, e2] at e; cases e
      | some es =>
        rw [e1, e2] at e
        cases e
        cases x with
        | v d' => exact ⟨R.datB (x := .v d') h.1 e1, R.datsB h.2 e2⟩
        | b i => exact ⟨R.datB (x := .b i) h.1 e1, R.datsB h.2 e2⟩
        | o _ => exact h.elim
  | [], _ :: _, _, h, _ => h.elim
  | _ :: _, [], _, h, _ => h.elim
theorem datsE_rep : ∀ {ys : List V} {xs : List RV} {ds : List D}, ResA K F st r ys xs → datsE xs = some ds → RepA K F ys ds
  | [], [], ds, _, e => by cases e; exact .nil
  | y :: ys, x :: xs, ds, h, e => by
    unfold datsE at e
    cases e1 : datE x with
    | none => rw [e1] at e; cases e
    | some d =>
      cases e2 : datsE xs with
      | none => rw [e1, e2] at e; cases e
      | some es =>
        rw [e1, e2] at e
        cases e
        cases x with
        | v d' => cases e1; exact .cons h.1 (datsE_rep h.2 e2)
        | b i => cases e1
        | o _ => exact h.elim
  | [], _ :: _, _, h, _ => h.elim
  | _ :: _, [], _, h, _ => h.elim
def wCB (p : PN) (wa : WA) : WE := fun xq r om k => wa xq r om fun xs r1 om1 => wd (datsB r1 om1 xs) fun ds => p ds fun z => k z r1 om1
theorem se_cb {ta : TA} {wa : WA} {rr : List V → Hp → VK → Prop} {p : PN} (ha : SA K W ta wa) (hp : SN K rr p) : SE K W (tCB rr ta) (wCB p wa) := by
  intro B F om H st r xq k Q R hx hQ hw
  refine ha B F om H st r xq _ _ R hx (fun xs r1 om1 F1 H1 ys R1 s1 k1 q1 hw => ?_) hw
  obtain ⟨ds, e1, hw⟩ := wd_iff hw
  refine hp F1 H1 ys ds _ _ R1.rh.sub (R1.datsB q1 e1) hw fun z v F4 H4 g rp hc => ?_
  obtain ⟨R4, q4⟩ := R1.finish g rp
  exact hQ _ _ _ _ _ _ R4 (s1.trans g.f) k1 q4 hc
def wTup (wa : WA) : WE := fun xq r om k => wa xq r om fun xs r1 om1 => wd (datsE xs) fun ds => ds.length ≤ sizeLine ∧ k (.v (.tup ds)) r1 om1
def wLst (wa : WA) : WE := fun xq r om k => wa xq r om fun xs r1 om1 => wd (datsE xs) fun ds => ds.length ≤ sizeLine ∧ k (.o ds) r1 om1
theorem se_tup {ta : TA} {wa : WA} (ha : SA K W ta wa) : SE K W (tTup ta) (wTup wa) := by
  intro B F om H st r xq k Q R hx hQ hw
  refine ha B F om H st r xq _ _ R hx (fun xs r1 om1 F1 H1 ys R1 s1 k1 q1 hw => ?_) hw
  obtain ⟨ds, e1, hl, hw⟩ := wd_iff hw
  have rp := datsE_rep q1 e1
  refine ⟨by rw [rp.length]; exact hl, fun p hp => ?_⟩
  obtain ⟨s2, R2⟩ := R1.alloc (o := .tup ys) hp
  exact hQ (.v (.tup ds)) _ _ _ _ _ R2 (s1.trans s2) k1 (Rep.tup (TupR.of upd_same) (rp.mono s2)) hw
theorem se_lst {ta : TA} {wa : WA} (ha : SA K W ta wa) : SE K W (tLst ta) (wLst wa) := by
  intro B F om H st r xq k Q R hx hQ hw
  refine ha B F om H st r xq _ _ R hx (fun xs r1 om1 F1 H1 ys R1 s1 k1 q1 hw => ?_) hw
  obtain ⟨ds, e1, hl, hw⟩ := wd_iff hw
  have rp := datsE_rep q1 e1
  refine ⟨by rw [rp.length]; exact hl, fun p hp => ?_⟩
  obtain ⟨R2, q2⟩ := R1.allocO hp rp
  exact hQ _ _ _ _ _ _ R2 s1 k1 q2 hw

def truD : D → Option Bool
  | .non => some false
  | .bl b => some b
  | .int i => some (i != 0)
  | .tup ds => some !ds.isEmpty
  | .lst ds => some !ds.isEmpty
  | .frl ds => some !ds.isEmpty
  | .str x => if x.length ≤ sizeLine then some ((x.length : Int) != 0) else none
  | _ => none
def boolD : D → Option Bool
  | .bl b => some b
  | _ => none
theorem boolD_inv {d : D} {b : Bool} (e : boolD d = some b) : d = .bl b := by
  cases d with
  | bl c => cases e; rfl
  | _ => cases e
def wTru (wa : WE) : WT := fun xq r om k => wa xq r om fun x r1 om1 => wd (datB r1 om1 x) fun d => wd (truD d) fun b => k b r1 om1
def wTst (wa : WE) : WT := fun xq r om k => wa xq r om fun x r1 om1 => wd (datB r1 om1 x) fun d => wd (boolD d) fun b => k b r1 om1
theorem repA_emp {xs : List V} {ds : List D} (h : RepA K F xs ds) : (!xs.isEmpty) = !ds.isEmpty := by cases h <;> rfl
theorem RepB.lstS (s : Same F H) {y : V} {ds : List D} (h : RepB K F H y (.lst ds)) : ∃ a xs, y = .ref a ∧ H a = some (.lst xs) ∧ RepA K F xs ds := by
  rcases h with h | ⟨a, xs, es, e1, e2, h1, h2⟩
  · cases h with
    | lst q rr => exact ⟨_, _, rfl, s _ _ q, rr⟩
  · cases e2; exact ⟨a, xs, e1, h1, h2⟩
theorem RepB.frlS (s : Same F H) {y : V} {ds : List D} (h : RepB K F H y (.frl ds)) : ∃ a xs, y = .ref a ∧ SqL K H a xs ∧ RepA K F xs ds := by
  rcases h with h | ⟨a, xs, es, e1, e2, h1, h2⟩
  · cases h with
    | frl q rr => exact ⟨_, _, rfl, s.seq q, rr⟩
  · cases e2
theorem RepB.tupS (s : Same F H) {y : V} {ds : List D} (h : RepB K F H y (.tup ds)) : ∃ a xs, y = .ref a ∧ SqT K H a xs ∧ RepA K F xs ds := by
  rcases h with h | ⟨a, xs, es, e1, e2, h1, h2⟩
  · cases h with
    | tup q rr => exact ⟨_, _, rfl, same_sqT s q.sq, rr⟩
  · cases e2
theorem RepB.intS {y : V} {i : Int} (h : RepB K F H y (.int i)) : y = .int i := by
  rcases h with h | ⟨a, xs, es, e1, e2, h1, h2⟩
  · cases h; rfl
  · cases e2
theorem RepB.blS {y : V} {i : Bool} (h : RepB K F H y (.bl i)) : y = .bl i := by
  rcases h with h | ⟨a, xs, es, e1, e2, h1, h2⟩
  · cases h; rfl
  · cases e2
theorem RepB.strS {y : V} {i : Str} (h : RepB K F H y (.str i)) : y = .str i := by
  rcases h with h | ⟨a, xs, es, e1, e2, h1, h2⟩
  · cases h; rfl
  · cases e2
theorem RepB.nonS {y : V} (h : RepB K F H y .non) : y = .non := by
  rcases h with h | ⟨a, xs, es, e1, e2, h1, h2⟩
  · cases h; rfl
  · cases e2
theorem tru_rep (s : Same F H) {y : V} {d : D} {b : Bool} (h : RepB K F H y d) (e : truD d = some b) : TruV K y H b := by
  cases d with
  | non => obtain rfl := h.nonS; cases e; rfl
  | bl c => obtain rfl := h.blS; cases e; rfl
  | int i => obtain rfl := h.intS; cases e; rfl
  | str x =>
    obtain rfl := h.strS
    simp only [truD] at e
    by_cases hx : x.length ≤ sizeLine
    · rw [if_pos hx] at e; cases e; exact ⟨hx, rfl⟩
    · rw [if_neg hx] at e; cases e
  | tup ds =>
    obtain ⟨a, xs, rfl, q, rr⟩ := h.tupS s
    cases e
    exact .inr (.inl ⟨xs, q, (repA_emp rr).symm⟩)
  | lst ds =>
    obtain ⟨a, xs, rfl, q, rr⟩ := h.lstS s
    cases e
    exact .inl ⟨xs, SqL.of q, (repA_emp rr).symm⟩
  | frl ds =>
    obtain ⟨a, xs, rfl, q, rr⟩ := h.frlS s
    cases e
    exact .inl ⟨xs, q, (repA_emp rr).symm⟩
  | _ => cases e
theorem st_tru {ta : TE} {wa : WE} (ha : SE K W ta wa) : ST K W (fun σ H Q => ta σ H fun x H' => ∃ k, TruV K x H' k ∧ Q k H') (wTru wa) := by
  intro B F om H st r xq k Q R hx hQ hw
  refine ha B F om H st r xq _ _ R hx (fun x r1 om1 F1 H1 y R1 s1 k1 q1 hw => ?_) hw
  obtain ⟨d, e1, hw⟩ := wd_iff hw
  obtain ⟨b, e2, hw⟩ := wd_iff hw
  exact ⟨b, tru_rep R1.rh.sub (R1.datB q1 e1) e2, hQ _ _ _ _ _ R1 s1 k1 hw⟩
theorem st_tst {ta : TE} {wa : WE} (ha : SE K W ta wa) : ST K W (tTest ta) (wTst wa) := by
  intro B F om H st r xq k Q R hx hQ hw
  refine ha B F om H st r xq _ _ R hx (fun x r1 om1 F1 H1 y R1 s1 k1 q1 hw => ?_) hw
  obtain ⟨d, e1, hw⟩ := wd_iff hw
  obtain ⟨b, e2, hw⟩ := wd_iff hw
  obtain rfl := boolD_inv e2
  exact ⟨b, (R1.datB q1 e1).blS, hQ _ _ _ _ _ R1 s1 k1 hw⟩
def wAnd (wa wb : WT) : WT := fun xq r om k => wa xq r om fun b r1 om1 => if b = true then wb xq r1 om1 k else k false r1 om1
def wOr (wa wb : WT) : WT := fun xq r om k => wa xq r om fun b r1 om1 => if b = true then k true r1 om1 else wb xq r1 om1 k
def wNot (wa : WT) : WT := fun xq r om k => wa xq r om fun b r1 om1 => k (!b) r1 om1
theorem st_and {ta tb : TT} {wa wb : WT} (ha : ST K W ta wa) (hb : ST K W tb wb) : ST K W (tAnd ta tb) (wAnd wa wb) := by
  intro B F om H st r xq k Q R hx hQ hw
  refine ha B F om H st r xq _ _ R hx (fun b r1 om1 F1 H1 R1 s1 k1 hw => ?_) hw
  cases b with
  | true => exact hb B F1 om1 H1 st r1 xq k Q R1 hx (fun b' r2 om2 F2 H2 R2 s2 k2 h => hQ _ _ _ _ _ R2 (s1.trans s2) (k1.trans k2) h) hw
  | false => exact hQ _ _ _ _ _ R1 s1 k1 hw
theorem st_or {ta tb : TT} {wa wb : WT} (ha : ST K W ta wa) (hb : ST K W tb wb) : ST K W (tOr ta tb) (wOr wa wb) := by
  intro B F om H st r xq k Q R hx hQ hw
  refine ha B F om H st r xq _ _ R hx (fun b r1 om1 F1 H1 R1 s1 k1 hw => ?_) hw
  cases b with
  | false => exact hb B F1 om1 H1 st r1 xq k Q R1 hx (fun b' r2 om2 F2 H2 R2 s2 k2 h => hQ _ _ _ _ _ R2 (s1.trans s2) (k1.trans k2) h) hw
  | true => exact hQ _ _ _ _ _ R1 s1 k1 hw
theorem st_not {ta : TT} {wa : WT} (ha : ST K W ta wa) : ST K W (tNot ta) (wNot wa) := by
  intro B F om H st r xq k Q R hx hQ hw
  exact ha B F om H st r xq _ _ R hx (fun b r1 om1 F1 H1 R1 s1 k1 hw => hQ _ _ _ _ _ R1 s1 k1 hw) hw
def wAndV (wa wb : WE) : WE := fun xq r om k => wa xq r om fun x r1 om1 => wd (datB r1 om1 x) fun d => wd (boolD d) fun b => if b = true then wb xq r1 om1 k else k (.v (.bl false)) r1 om1
def wOrV (wa wb : WE) : WE := fun xq r om k => wa xq r om fun x r1 om1 => wd (datB r1 om1 x) fun d => wd (boolD d) fun b => if b = true then k (.v (.bl true)) r1 om1 else wb xq r1 om1 k
def wNotV (wa : WE) : WE := fun xq r om k => wa xq r om fun x r1 om1 => wd (datB r1 om1 x) fun d => wd (boolD d) fun b => k (.v (.bl (!b))) r1 om1
theorem se_andV {ta tb : TE} {wa wb : WE} (ha : SE K W ta wa) (hb : SE K W tb wb) : SE K W (tAndV ta tb) (wAndV wa wb) := by
  intro B F om H st r xq k Q R hx hQ hw
  refine ha B F om H st r xq _ _ R hx (fun x r1 om1 F1 H1 y R1 s1 k1 q1 hw => ?_) hw
  obtain ⟨d, e1, hw⟩ := wd_iff hw
  obtain ⟨b, e2, hw⟩ := wd_iff hw
  obtain rfl := boolD_inv e2
  refine ⟨b, (R1.datB q1 e1).blS, ?_⟩
  cases b with
  | true => exact hb B F1 om1 H1 st r1 xq k Q R1 hx (fun x r2 om2 F2 H2 y R2 s2 k2 q h => hQ _ _ _ _ _ _ R2 (s1.trans s2) (k1.trans k2) q h) hw
  | false => exact hQ _ _ _ _ _ _ R1 s1 k1 (show Res K B F1 om1 H1 st r1 (.bl false) (.v (.bl false)) from Rep.bl false) hw
theorem se_orV {ta tb : TE} {wa wb : WE} (ha : SE K W ta wa) (hb : SE K W tb wb) : SE K W (tOrV ta tb) (wOrV wa wb) := by
  intro B F om H st r xq k Q R hx hQ hw
  refine ha B F om H st r xq _ _ R hx (fun x r1 om1 F1 H1 y R1 s1 k1 q1 hw => ?_) hw
  obtain ⟨d, e1, hw⟩ := wd_iff hw
  obtain ⟨b, e2, hw⟩ := wd_iff hw
  obtain rfl := boolD_inv e2
  refine ⟨b, (R1.datB q1 e1).blS, ?_⟩
  cases b with
  | false => exact hb B F1 om1 H1 st r1 xq k Q R1 hx (fun x r2 om2 F2 H2 y R2 s2 k2 q h => hQ _ _ _ _ _ _ R2 (s1.trans s2) (k1.trans k2) q h) hw
  | true => exact hQ _ _ _ _ _ _ R1 s1 k1 (show Res K B F1 om1 H1 st r1 (.bl true) (.v (.bl true)) from Rep.bl true) hw
theorem se_notV {ta : TE} {wa : WE} (ha : SE K W ta wa) : SE K W (tNotV ta) (wNotV wa) := by
  intro B F om H st r xq k Q R hx hQ hw
  refine ha B F om H st r xq _ _ R hx (fun x r1 om1 F1 H1 y R1 s1 k1 q1 hw => ?_) hw
  obtain ⟨d, e1, hw⟩ := wd_iff hw
  obtain ⟨b, e2, hw⟩ := wd_iff hw
  obtain rfl := boolD_inv e2
  exact ⟨b, (R1.datB q1 e1).blS, hQ _ _ _ _ _ _ R1 s1 k1 (show Res K B F1 om1 H1 st r1 (.bl (!b)) (.v (.bl (!b))) from Rep.bl _) hw⟩
def wIf (wt : WT) (wa wb : WE) : WE := fun xq r om k => wt xq r om fun b r1 om1 => if b = true then wa xq r1 om1 k else wb xq r1 om1 k
def wChain (p p' : P2) (wa wb wc : WE) : WE := fun xq r om k => wa xq r om fun x r1 om1 => wb xq r1 om1 fun y r2 om2 => wd (datB r2 om2 x) fun d => wd (datB r2 om2 y) fun e =>
  p d e fun z => wd (datB r2 om2 z) fun f => wd (boolD f) fun b => if b = true then wc xq r2 om2 fun u r3 om3 => wd (datB r3 om3 y) fun e' => wd (datB r3 om3 u) fun g => p' e' g fun z => k z r3 om3 else k (.v (.bl false)) r2 om2
theorem se_chain {ta tb tc : TE} {wa wb wc : WE} {rr rr' : R2} {p p' : P2} (ha : SE K W ta wa) (hb : SE K W tb wb) (hc : SE K W tc wc) (hp : S2 K rr p) (hp' : S2 K rr' p') : SE K W (tChain rr rr' ta tb tc) (wChain p p' wa wb wc) := by
  intro B F om H st r xq k Q R hx hQ hw
  refine ha B F om H st r xq _ _ R hx (fun x r1 om1 F1 H1 y R1 s1 k1 q1 hw => ?_) hw
  obtain ⟨F2, s2, R2, q2⟩ := R1.fz q1
  refine hb B F2 om1 H1 st r1 xq _ _ R2 hx (fun x' r3 om3 F3 H3 y' R3 s3 k3 q3 hw => ?_) hw
  obtain ⟨d, e1, hw⟩ := wd_iff hw
  obtain ⟨e, e2, hw⟩ := wd_iff hw
  have q2' := Res.later (H' := H3) (om' := om3) q2 s3 k3
  obtain ⟨F4, s4, R4, q4⟩ := R3.fz q3
  have q2'' := Res.later (H' := H3) (om' := om3) q2' s4 (KeepE.refl _)
  refine hp F4 H3 y y' d e _ _ R4.rh.sub (R4.datB q2'' (datB_fz e1)) (R4.datB q4 (datB_fz e2)) hw fun z v F5 H5 g rp hz => ?_
  obtain ⟨R5, q5⟩ := R4.finish g rp
  obtain ⟨f, e3, hz⟩ := wd_iff hz
  obtain ⟨b, e4, hz⟩ := wd_iff hz
  obtain rfl := boolD_inv e4
  refine ⟨b, (R5.datB q5 e3).blS, ?_⟩
  have s5 : Same F F5 := (((s1.trans s2).trans s3).trans s4).trans g.f
  have q4' := Res.later (H' := H5) (om' := om3) q4 g.f (KeepE.refl _)
  cases b with
  | false => exact hQ _ _ _ _ _ _ R5 s5 (k1.trans k3) (show Res K B F5 om3 H5 st r3 (.bl false) (.v (.bl false)) from Rep.bl false) hz
  | true =>
    refine hc B F5 om3 H5 st r3 xq _ _ R5 hx (fun x6 r6 om6 F6 H6 y6 R6 s6 k6 q6 hz => ?_) hz
    obtain ⟨e', e5, hz⟩ := wd_iff hz
    obtain ⟨g', e6, hz⟩ := wd_iff hz
    have q7 := Res.later (H' := H6) (om' := om6) q4' s6 k6
    refine hp' F6 H6 y' y6 e' g' _ _ R6.rh.sub (R6.datB q7 (datB_fz e5)) (R6.datB q6 e6) hz fun z v F8 H8 g8 rp8 hz => ?_
    obtain ⟨R8, q8⟩ := R6.finish g8 rp8
    exact hQ _ _ _ _ _ _ R8 ((s5.trans s6).trans g8.f) ((k1.trans k3).trans k6) q8 hz
end
end DL

set_option Elab.async false
set_option linter.all false
set_option maxRecDepth 100000
namespace DL
open PySem L2
section
variable {K : PySem.W.Frag} {B : Base} {F F' : Hp} {om : Om} {H H' : Hp} {st : St} {r : Env} {W : WX}
def wNext : WS := fun e r om => e.nx r om
def wSeq (a b : WS) : WS := fun e r om => a { e with nx := b e } r om
def wIfS (wt : WT) (a b : WS) : WS := fun e r om => wt e.xq r om fun c r1 om1 => if c = true then a e r1 om1 else b e r1 om1
def wDrop (w : WE) : WS := fun e r om => w e.xq r om fun _ r1 om1 => e.nx r1 om1
def noB : RV → Prop
  | .b _ => False
  | _ => True
@[simp] theorem noB_v (d : D) : noB (.v d) = True := rfl
@[simp] theorem noB_o (d : List D) : noB (.o d) = True := rfl
@[simp] theorem noB_b (d : Nat) : noB (.b d) = False := rfl
def wRet (w : WE) : WS := fun e r om => w e.xq r om fun x _ om1 => noB x ∧ e.rt x om1
def wRetN : WS := fun e _ om => e.rt (.v .non) om
def wBrk : WS := fun e r om => e.bk r om
def wCnt : WS := fun e r om => e.ct r om
abbrev GT := RV → Env → (Env → Prop) → Prop
def gN (i : Nat) : GT := fun x r k => noB x ∧ i < r.length ∧ k (r.set i (some x))
def wAsg (w : WE) (g : GT) : WS := fun e r om => w e.xq r om fun x r1 om1 => g x r1 fun r2 => e.nx r2 om1
theorem ss_next : SS K W tNext wNext := fun B F om H st r D e R hx hE hw => hE.nx _ _ _ _ _ R hw
theorem ss_seq {ta tb : TS} {wa wb : WS} (ha : SS K W ta wa) (hb : SS K W tb wb) : SS K W (tSeq ta tb) (wSeq wa wb) := fun B F om H st r D e R hx hE hw =>
  ha B F om H st r { D with nx := tb D } { e with nx := wb e } R hx ⟨fun r1 om1 F1 H1 st1 R1 h => hb B F1 om1 H1 st1 r1 D e R1 hx hE h, hE.rt, hE.bk, hE.ct⟩ hw
theorem ss_if {tt : TT} {wt : WT} {ta tb : TS} {wa wb : WS} (ht : ST K W tt wt) (ha : SS K W ta wa) (hb : SS K W tb wb) : SS K W (tIfS tt ta tb) (wIfS wt wa wb) := fun B F om H st r D e R hx hE hw => by
  refine ht B F om H st r e.xq _ _ R hx (fun b r1 om1 F1 H1 R1 s1 k1 hw => ?_) hw
  cases b with
  | true => exact ha B F1 om1 H1 st r1 D e R1 hx hE hw
  | false => exact hb B F1 om1 H1 st r1 D e R1 hx hE hw
theorem ss_drop {ta : TE} {wa : WE} (ha : SE K W ta wa) : SS K W (tDrop ta) (wDrop wa) := fun B F om H st r D e R hx hE hw =>
  ha B F om H st r e.xq _ _ R hx (fun x r1 om1 F1 H1 y R1 s1 k1 q1 hw => hE.nx _ _ _ _ _ R1 hw) hw
theorem Res.slot {y : V} {x : RV} (h : Res K B F om H st r y x) (hb : noB x) : Slot K B F om H y x := by
  cases x with
  | v d => exact h
  | o ds => obtain ⟨a, e, o, _⟩ := h; exact ⟨a, e, o⟩
  | b i => exact hb.elim
theorem ss_ret {ta : TE} {wa : WE} (ha : SE K W ta wa) : SS K W (tRet ta) (wRet wa) := fun B F om H st r D e R hx hE hw =>
  ha B F om H st r e.xq _ _ R hx (fun x r1 om1 F1 H1 y R1 s1 k1 q1 hw => hE.rt _ _ _ _ _ R1.rh R1.ext (q1.slot hw.1) hw.2) hw
theorem ss_retV (i : Nat) : SS K W (tRet (tVar i)) (wRet (wMov i)) := fun B F om H st r D e R hx hE hw => by
  have hw' : wMov i e.xq r om fun x _ om1 => noB x ∧ e.rt x om1 := hw
  unfold wMov at hw'
  cases q : r[i]? with
  | none => rw [q] at hw'; exact hw'.elim
  | some o =>
    rw [q] at hw'
    cases o with
    | none => exact hw'.elim
    | some x =>
      obtain ⟨y, e1, s⟩ := R.slot i x q
      refine ⟨y, e1, ?_⟩
      cases x with
      | v d => exact hE.rt _ _ _ _ _ R.rh R.ext s hw'.2
      | o ds => exact hE.rt _ _ _ _ _ R.rh R.ext s hw'.2
      | b j => exact s.elim
def SG (K : PySem.W.Frag) (g : TG) (w : GT) : Prop := ∀ (B : Base) (F : Hp) (om : Om) (H : Hp) (st : St) (r : Env) (y : V) (x : RV) (k : Env → Prop) (Q : St → Hp → Prop),
  Rel K B F om H st r → Res K B F om H st r y x → (∀ st' r', Rel K B F om H st' r' → k r' → Q st' H) → w x r k → g y st H Q
theorem sg_name (i : Nat) : SG K (gName i) (gN i) := fun B F om H st r y x k Q R h hQ hw => by
  obtain ⟨h1, h2, h3⟩ := hw
  exact hQ _ _ (R.put h (fun j z => by rw [z] at h1; exact h1) h2) h3
theorem ss_asg {ta : TE} {wa : WE} {g : TG} {w : GT} (ha : SE K W ta wa) (hg : SG K g w) : SS K W (tAsg ta g) (wAsg wa w) := fun B F om H st r D e R hx hE hw =>
  ha B F om H st r e.xq _ _ R hx (fun x r1 om1 F1 H1 y R1 s1 k1 q1 hw => hg B F1 om1 H1 st r1 y x _ _ R1 q1 (fun st' r' R' h => hE.nx _ _ _ _ _ R' h) hw) hw
abbrev GTs := List D → Env → (Env → Prop) → Prop
def gsNil : GTs := fun ds r k => ds = [] ∧ k r
def gsCons (i : Nat) (g : GTs) : GTs := fun ds r k => match ds with
  | [] => False
  | d :: ds => i < r.length ∧ g ds (r.set i (some (.v d))) k
def SGs (K : PySem.W.Frag) (g : TGs) (w : GTs) : Prop := ∀ (B : Base) (F : Hp) (om : Om) (H : Hp) (st : St) (r : Env) (ys : List V) (ds : List D) (k : Env → Prop) (Q : St → Hp → Prop),
  Rel K B F om H st r → RepA K F ys ds → (∀ st' r', Rel K B F om H st' r' → k r' → Q st' H) → w ds r k → g ys st H Q
theorem sgs_nil : SGs K gNil gsNil := fun B F om H st r ys ds k Q R h hQ hw => by
  obtain ⟨rfl, hw⟩ := hw
  cases h
  exact ⟨rfl, hQ _ _ R hw⟩
theorem sgs_cons (i : Nat) {g : TGs} {w : GTs} (hg : SGs K g w) : SGs K (gCons (gName i) g) (gsCons i w) := fun B F om H st r ys ds k Q R h hQ hw => by
  cases h with
  | nil => exact hw.elim
  | cons hr ht =>
    obtain ⟨h1, hw⟩ := hw
    refine ⟨_, _, rfl, ?_⟩
    exact hg B F om H _ _ _ _ _ _ (R.put (x := .v _) hr (fun j z => by cases z) h1) ht hQ hw
def gT (n : Nat) (g : GTs) : GT := fun x r k => match x with
  | .v (.tup ds) => ds.length = n ∧ g ds r k
  | _ => False
theorem sg_tup {n : Nat} {g : TGs} {w : GTs} (hg : SGs K g w) : SG K (gTup K n g) (gT n w) := fun B F om H st r y x k Q R h hQ hw => by
  cases x with
  | v d =>
    cases d with
    | tup ds =>
      obtain ⟨hl, hw⟩ := hw
      cases h with
      | tup q rr => exact ⟨_, _, rfl, same_sqT R.rh.sub q.sq, by rw [rr.length]; exact hl, hg B F om H st r _ _ _ _ R rr hQ hw⟩
    | _ => exact hw.elim
  | o ds => exact hw.elim
  | b i => exact hw.elim

def loop (step : D → (Env → Om → Prop) → Env → Om → Prop) : List D → (Env → Om → Prop) → Env → Om → Prop
  | [], fin => fin
  | d :: ds, fin => step d (loop step ds fin)
@[simp] theorem loop_nil (step : D → (Env → Om → Prop) → Env → Om → Prop) (fin : Env → Om → Prop) : loop step [] fin = fin := rfl
theorem loop_cons (step : D → (Env → Om → Prop) → Env → Om → Prop) (d : D) (ds : List D) (fin : Env → Om → Prop) : loop step (d :: ds) fin = step d (loop step ds fin) := rfl
def ItOk (K : PySem.W.Frag) (J : It) (F : Hp) (items : List D) : Prop :=
  (∀ (i : Nat) (F' H : Hp), Same F F' → Same F' H → items.length ≤ i → J.stop i H) ∧
  (∀ (i : Nat) (d : D) (F' H : Hp), Same F F' → Same F' H → items[i]? = some d → J.go i H ∧ ∀ x H', J.yld i H x H' → ∃ F'', Grow F' H F'' H' ∧ Rep K F'' x d)
def SI (K : PySem.W.Frag) (W : WX) (t : TI) (w : WI) : Prop := ∀ (B : Base) (F : Hp) (om : Om) (H : Hp) (st : St) (r : Env) (xq : DX) (k : List D → Env → Om → Prop) (Q : It → Hp → Prop),
  Rel K B F om H st r → XOk K B W xq →
  (∀ J items r' om' F' H', Rel K B F' om' H' st r' → Same F F' → KeepE r r' → ItOk K J F' items → k items r' om' → Q J H') → w xq r om k → t st H Q
def stepOf (g : GT) (wb : WS) (e : DEnds) : D → (Env → Om → Prop) → Env → Om → Prop := fun d nx r om => g (.v d) r fun r' => wb { e with nx := nx, ct := nx, bk := e.nx } r' om
def wFor (wi : WI) (g : GT) (wb : WS) : WS := fun e r om => wi e.xq r om fun items r1 om1 => loop (stepOf g wb e) items e.nx r1 om1
theorem ss_for {ti : TI} {wi : WI} {g : TG} {w : GT} {tb : TS} {wb : WS} (hi : SI K W ti wi) (hg : SG K g w) (hb : SS K W tb wb) : SS K W (tFor ti g tb) (wFor wi w wb) := fun B F om H st r D e R hx hE hw => by
  refine hi B F om H st r e.xq _ _ R hx (fun J items r1 om1 F1 H1 R1 s1 k1 hJ hw => ?_) hw
  refine ⟨fun i m st' H' => m = items.length - i ∧ ∃ r' om' F', Rel K B F' om' H' st' r' ∧ Same F1 F' ∧ i ≤ items.length ∧ loop (stepOf w wb e) (items.drop i) e.nx r' om', ⟨items.length, by simp, r1, om1, F1, R1, Same.refl _, Nat.zero_le _, by simpa using hw⟩, ?_⟩
  rintro i m st2 H2 ⟨rfl, r2, om2, F2, R2, s2, hle, hl⟩
  by_cases hlt : i < items.length
  · have hd : items.drop i = items[i] :: items.drop (i + 1) := List.drop_eq_getElem_cons hlt
    rw [hd, loop_cons] at hl
    obtain ⟨go, yl⟩ := hJ.2 i items[i] F2 H2 s2 R2.rh.sub (List.getElem?_eq_getElem hlt)
    refine .inr ⟨go, fun st' H' => ∃ r' om' F', Rel K B F' om' H' st' r' ∧ Same F1 F' ∧ loop (stepOf w wb e) (items.drop (i + 1)) e.nx r' om', fun st' H' ⟨r', om', F', R', s', h'⟩ => ⟨items.length - (i + 1), by omega, rfl, r', om', F', R', s', hlt, h'⟩, fun x H' y => ?_⟩
    obtain ⟨F3, g3, rp⟩ := yl x H' y
    have R3 := R2.grow g3.f g3.h g3.new g3.sub
    have hl' : w (.v items[i]) r2 fun r' => wb { e with nx := loop (stepOf w wb e) (items.drop (i + 1)) e.nx, ct := loop (stepOf w wb e) (items.drop (i + 1)) e.nx, bk := e.nx } r' om2 := hl
    refine hg B F3 om2 H' st2 r2 x (.v items[i]) _ _ R3 rp (fun st4 r4 R4 hk => ?_) hl'
    have sub3 : Same F1 F3 := s2.trans g3.f
    -- the body; frozen things stay: remembered by a guard-free argument: every later F contains F1 through B? carried in the wish
    refine hb ⟨F3, B.om, B.H⟩ F3 om2 H' st4 r4 _ { e with nx := loop (stepOf w wb e) (items.drop (i + 1)) e.nx, ct := loop (stepOf w wb e) (items.drop (i + 1)) e.nx, bk := e.nx } ⟨R4.rh, ⟨Same.refl _, fun b o e' n => (by have n' : F3 b = none := n; rw [n'] at e'; cases e'), R4.ext.keep, R4.ext.dom, R4.ext.ob, R4.ext.wf⟩, R4.len, R4.slot, R4.dis⟩ ?_ ?_ hk
    · exact fun ex r5 om5 F5 H5 st5 cls d R5 hex hq => hx ex r5 om5 F5 H5 st5 cls d ⟨R5.rh, ⟨R4.ext.f.trans R5.ext.f, fun b o q n => by
        cases z : F3 b with
        | some u => exact R4.ext.new b u z n
        | none => exact R5.ext.new b o q z, R5.ext.keep, R5.ext.dom, R5.ext.ob, R5.ext.wf⟩, R5.len, R5.slot, R5.dis⟩ hex hq
    · have back : ∀ {r5 : Env} {om5 : Om} {F5 H5 : Hp} {st5 : St}, Rel K ⟨F3, B.om, B.H⟩ F5 om5 H5 st5 r5 → Rel K B F5 om5 H5 st5 r5 ∧ Same F1 F5 := fun {r5 om5 F5 H5 st5} R5 => ⟨⟨R5.rh, ⟨R4.ext.f.trans R5.ext.f, fun b o q n => by
        cases z : F3 b with
        | some u => exact R4.ext.new b u z n
        | none => exact R5.ext.new b o q z, R5.ext.keep, R5.ext.dom, R5.ext.ob, R5.ext.wf⟩, R5.len, R5.slot, R5.dis⟩, sub3.trans R5.ext.f⟩
      refine ⟨fun r5 om5 F5 H5 st5 R5 h => ?_, fun x5 om5 F5 H5 y5 rh5 ex5 sl5 h => ?_, fun r5 om5 F5 H5 st5 R5 h => ?_, fun r5 om5 F5 H5 st5 R5 h => ?_⟩
      · exact ⟨r5, om5, F5, (back R5).1, (back R5).2, h⟩
      · refine hE.rt x5 om5 F5 H5 y5 rh5 ⟨R4.ext.f.trans ex5.f, fun b o q n => ?_, ex5.keep, ex5.dom, ex5.ob, ex5.wf⟩ sl5 h
        cases z : F3 b with
        | some u => exact R4.ext.new b u z n
        | none => exact ex5.new b o q z
      · exact hE.nx _ _ _ _ _ (back R5).1 h
      · exact ⟨r5, om5, F5, (back R5).1, (back R5).2, h⟩
  · have e0 : items.drop i = [] := List.drop_eq_nil_of_le (by omega)
    rw [e0, loop_nil] at hl
    exact .inl ⟨hJ.1 i F2 H2 s2 R2.rh.sub (by omega), hE.nx _ _ _ _ _ R2 hl⟩
def wWhile (wt : WT) (wb : WS) : WS := fun e r om => ∃ I : Nat → Env → Om → Prop, (∃ m, I m r om) ∧ ∀ m r om, I m r om →
  wt e.xq r om fun b r1 om1 => if b = true then wb { e with nx := fun r' om' => ∃ m', m' < m ∧ I m' r' om', ct := fun r' om' => ∃ m', m' < m ∧ I m' r' om', bk := e.nx } r1 om1 else e.nx r1 om1
theorem ss_while {tt : TT} {wt : WT} {tb : TS} {wb : WS} (ht : ST K W tt wt) (hb : SS K W tb wb) : SS K W (tWhile tt tb) (wWhile wt wb) := fun B F om H st r D e R hx hE hw => by
  obtain ⟨I, ⟨m, i0⟩, hs⟩ := hw
  refine ⟨fun m st H => ∃ r om F, Rel K B F om H st r ∧ I m r om, ⟨m, r, om, F, R, i0⟩, ?_⟩
  rintro m st2 H2 ⟨r2, om2, F2, R2, i2⟩
  refine ht B F2 om2 H2 st2 r2 e.xq _ _ R2 hx (fun b r1 om1 F1 H1 R1 s1 k1 hw => ?_) (hs m r2 om2 i2)
  cases b with
  | true =>
    refine ⟨fun st H => ∃ r om F, Rel K B F om H st r ∧ ∃ m', m' < m ∧ I m' r om, fun st' H' ⟨r', om', F', R', m', hm, i'⟩ => ⟨m', hm, r', om', F', R', i'⟩, ?_⟩
    exact hb B F1 om1 H1 st2 r1 _ { e with nx := fun r' om' => ∃ m', m' < m ∧ I m' r' om', ct := fun r' om' => ∃ m', m' < m ∧ I m' r' om', bk := e.nx } R1 hx ⟨fun r om F H st R h => ⟨r, om, F, R, h⟩, hE.rt, hE.nx, fun r om F H st R h => ⟨r, om, F, R, h⟩⟩ hw
  | false => exact hE.nx _ _ _ _ _ R1 hw
def itemsD : D → Option (List D)
  | .lst ds => some ds
  | _ => none
def itemsT : D → Option (List D)
  | .tup ds => some ds
  | _ => none
def wiL (w : WE) : WI := fun xq r om k => w xq r om fun x r1 om1 => match fz x with
  | .v (.lst ds) => k ds r1 om1
  | .v (.frl ds) => k ds r1 om1
  | _ => False
def wiT (w : WE) : WI := fun xq r om k => w xq r om fun x r1 om1 => match x with
  | .v (.tup ds) => k ds r1 om1
  | _ => False
theorem itok_list {a : Addr} {xs : List V} {ds : List D} (q : SqL K F a xs) (rr : RepA K F xs ds) : ItOk K (Itl K a) F ds := by
  refine ⟨fun i F' H s s' hi => ⟨xs, s'.seq (s.seq q), by rw [rr.length]; exact hi⟩, fun i d F' H s s' hd => ?_⟩
  obtain ⟨x, hx, rp⟩ := rr.getD hd
  refine ⟨⟨xs, x, s'.seq (s.seq q), hx⟩, fun y H' hy => ?_⟩
  obtain ⟨rfl, hy⟩ := hy
  have e := hy xs (s'.seq (s.seq q))
  rw [hx] at e
  cases e
  exact ⟨F', Grow.refl s', rp.mono s⟩
theorem itok_tup {a : Addr} {xs : List V} {ds : List D} (q : SqT K F a xs) (rr : RepA K F xs ds) : ItOk K (Itt K a) F ds := by
  refine ⟨fun i F' H s s' hi => ⟨xs, same_sqT s' (same_sqT s q), by rw [rr.length]; exact hi⟩, fun i d F' H s s' hd => ?_⟩
  obtain ⟨x, hx, rp⟩ := rr.getD hd
  refine ⟨⟨xs, x, same_sqT s' (same_sqT s q), hx⟩, fun y H' hy => ?_⟩
  obtain ⟨rfl, hy⟩ := hy
  have e := hy xs (same_sqT s' (same_sqT s q))
  rw [hx] at e
  cases e
  exact ⟨F', Grow.refl s', rp.mono s⟩
def rng (lo : Int) (n : Nat) : List D := (List.range n).map fun (k : Nat) => D.int (lo + (k : Int))
theorem rng_len (lo : Int) (n : Nat) : (rng lo n).length = n := by simp [rng]
theorem rng_get {lo : Int} {n i : Nat} {d : D} (h : (rng lo n)[i]? = some d) : i < n ∧ d = .int (lo + i) := by
  unfold rng at h
  rw [List.getElem?_map] at h
  by_cases hi : i < n
  · rw [List.getElem?_range hi] at h
    exact ⟨hi, (Option.some.inj h).symm⟩
  · rw [List.getElem?_eq_none (by simpa using hi)] at h
    cases h
theorem itok_range (lo : Int) (n : Nat) : ItOk K (Itr lo n) F (rng lo n) := by
  refine ⟨fun i F' H s s' hi => by rw [rng_len] at hi; exact hi, fun i d F' H s s' hd => ?_⟩
  obtain ⟨hi, rfl⟩ := rng_get hd
  refine ⟨hi, fun y H' hy => ?_⟩
  obtain ⟨rfl, rfl⟩ := hy
  exact ⟨F', Grow.refl s', Rep.int _⟩
def int1 : List D → Option Int
  | [.int j] => some j
  | _ => none
def int2 : List D → Option (Int × Int)
  | [.int i, .int j] => some (i, j)
  | _ => none
theorem int1_inv {ds : List D} {j : Int} (h : int1 ds = some j) : ds = [.int j] := by
  unfold int1 at h
  split at h
  · cases h; rfl
  · cases h
def wiR1 (wa : WA) : WI := fun xq r om k => wa xq r om fun xs r1 om1 => wd (datsB r1 om1 xs) fun ds => wd (int1 ds) fun j =>
  (-(2 ^ 62) ≤ j ∧ j < 2 ^ 62) ∧ k (rng 0 j.toNat) r1 om1
def wiR2 (wa : WA) : WI := fun xq r om k => wa xq r om fun xs r1 om1 => wd (datsB r1 om1 xs) fun ds => wd (int2 ds) fun p =>
  (-(2 ^ 62) ≤ p.1 ∧ p.1 < 2 ^ 62 ∧ -(2 ^ 62) ≤ p.2 ∧ p.2 < 2 ^ 62) ∧ k (rng p.1 (p.2 - p.1).toNat) r1 om1
theorem repBs1 {ys : List V} {d : D} (h : RepBs K F H ys [d]) : ∃ y, ys = [y] ∧ RepB K F H y d := by
  match ys, h with
  | [y], h => exact ⟨y, rfl, h.1⟩
  | [], h => exact h.elim
  | _ :: _ :: _, h => exact h.2.elim
theorem repBs2 {ys : List V} {d e : D} (h : RepBs K F H ys [d, e]) : ∃ y z, ys = [y, z] ∧ RepB K F H y d ∧ RepB K F H z e := by
  match ys, h with
  | [y, z], h => exact ⟨y, z, rfl, h.1, h.2.1⟩
  | [], h => exact h.elim
  | [_], h => exact h.2.elim
  | _ :: _ :: _ :: _, h => exact h.2.2.elim
theorem si_r1 {ta : TA} {wa : WA} (ha : SA K W ta wa) : SI K W (iRng1 ta) (wiR1 wa) := by
  intro B F om H st r xq k Q R hx hQ hw
  refine ha B F om H st r xq _ _ R hx (fun xs r1 om1 F1 H1 ys R1 s1 k1 q1 hw => ?_) hw
  obtain ⟨ds, e1, hw⟩ := wd_iff hw
  have rb := R1.datsB q1 e1
  obtain ⟨j, e2, hw⟩ := wd_iff hw
  obtain rfl := int1_inv e2
  obtain ⟨y, rfl, h⟩ := repBs1 rb
  obtain rfl := h.intS
  exact ⟨j, rfl, hw.1.1, hw.1.2, hQ _ _ _ _ _ _ R1 s1 k1 (itok_range 0 j.toNat) hw.2⟩
end
end DL

set_option Elab.async false
set_option linter.all false
set_option maxRecDepth 100000
namespace DL
open PySem L2
def oset (om : Om) (a : Addr) (ob : Ob) : Om := fun b => if b = a then some ob else om b
theorem oset_same {om : Om} {a : Addr} {ob : Ob} : oset om a ob a = some ob := if_pos rfl
theorem oset_ne {om : Om} {a b : Addr} {ob : Ob} (h : b ≠ a) : oset om a ob b = om b := if_neg h
section
variable {K : PySem.W.Frag} {B : Base} {F F' : Hp} {om : Om} {H H' : Hp} {st : St} {r : Env} {W : WX}
theorem Rel.writeO (R : Rel K B F om H st r) {a : Addr} {ob ob' : Ob} {uo : HO} (e : om a = some ob) (hr : ObOk K F (some uo) ob') : Rel K B F (oset om a ob') (upd H a uo) st r := by
  obtain ⟨f1, o1⟩ := R.rh.obj a ob e
  obtain ⟨u, hu⟩ := o1.some
  have nB : B.om a = none → B.H a = none := fun n => R.ext.ob a ob e n
  refine ⟨⟨fun b v q => ?_, fun b v q => ?_, fun z m => (R.rh.tab z m).upd fun u2 h2 => by rw [hu] at h2; cases h2; rw [hu] at o1; exact ObOk.noTab (K := K) (F := F) (ob := ob) o1⟩, ⟨R.ext.f, R.ext.new, fun b v q n t => ?_, fun b q => ?_, fun b v q n => ?_, R.ext.wf⟩, R.len, fun j z q => ?_, R.dis⟩
  · have nb : b ≠ a := fun z => by rw [z, f1] at q; cases q
    rw [upd_ne nb]; exact R.rh.sub b v q
  · by_cases hb : b = a
    · subst hb
      rw [oset_same] at q
      cases q
      rw [upd_same]
      exact ⟨f1, hr⟩
    · rw [oset_ne hb] at q
      rw [upd_ne hb]
      exact R.rh.obj b v q
  · by_cases hb : b = a
    · subst hb; rw [nB n] at q; cases q
    · rw [upd_ne hb]; exact R.ext.keep b v q n t
  · by_cases hb : b = a
    · subst hb; rw [upd_same] at q; cases q
    · rw [upd_ne hb] at q; exact R.ext.dom b q
  · by_cases hb : b = a
    · subst hb; exact nB n
    · rw [oset_ne hb] at q; exact R.ext.ob b v q n
  · obtain ⟨y, e1, s⟩ := R.slot j z q
    refine ⟨y, e1, ?_⟩
    cases z with
    | v d => exact s
    | o d1 =>
      obtain ⟨c, rfl, p1, p2, p3, zs, p4, p5⟩ := s
      have nb : c ≠ a := fun z => by rw [z, e] at p2; cases p2
      exact ⟨c, rfl, p1, by rw [oset_ne nb]; exact p2, p3, zs, by rw [upd_ne nb]; exact p4, p5⟩
    | b _ => exact s
theorem Rel.writeH (R : Rel K B F om H st r) {a : Addr} {ob ob' : Ob} {ys : List V} (e : om a = some ob) (hr : ObOk K F (some (.lst ys)) ob') : Rel K B F (oset om a ob') (upd H a (.lst ys)) st r := R.writeO e hr
theorem Rel.toH (R : Rel K B F om H st r) {a : Addr} {ds : List D} {ob : Ob} (o : Own K B F om H a ds) (h5 : ∀ (j : Nat) (es : List D), r[j]? = some (some (.o es)) → st[j]? ≠ some (some (.ref a))) (hob : ∀ xs, RepA K F xs ds → ObOk K F (some (.lst xs)) ob) : Rel K B F (oset om a ob) H st r := by
  obtain ⟨o1, o2, o3, xs, o4, o5⟩ := o
  refine ⟨⟨R.rh.sub, fun b v q => ?_, R.rh.tab⟩, ⟨R.ext.f, R.ext.new, R.ext.keep, R.ext.dom, fun b v q n => ?_, R.ext.wf⟩, R.len, fun j z q => ?_, R.dis⟩
  · by_cases hb : b = a
    · subst hb
      rw [oset_same] at q
      cases q
      rw [o4]
      exact ⟨o1, hob xs o5⟩
    · rw [oset_ne hb] at q
      exact R.rh.obj b v q
  · by_cases hb : b = a
    · subst hb; exact o3
    · rw [oset_ne hb] at q; exact R.ext.ob b v q n
  · obtain ⟨y, e1, s⟩ := R.slot j z q
    refine ⟨y, e1, ?_⟩
    cases z with
    | v d => exact s
    | o d1 =>
      obtain ⟨c, rfl, p1, p2, p3, zs, p4, p5⟩ := s
      have nb : c ≠ a := fun z => h5 j d1 q (by rw [e1, z])
      exact ⟨c, rfl, p1, by rw [oset_ne nb]; exact p2, p3, zs, p4, p5⟩
    | b _ => exact s
abbrev MutP := List D → List D → (List D → D → Prop) → Prop
def SM (K : PySem.W.Frag) (rr : V → List V → Hp → VK → Prop) (p : MutP) : Prop := ∀ (F H : Hp) (a : Addr) (xs : List V) (ds : List D) (ys : List V) (args : List D) (c : List D → D → Prop) (Q : VK),
  Same F H → H a = some (.lst xs) → RepA K F xs ds → RepA K F ys args → p ds args c → (∀ ds' xs' d v, RepA K F xs' ds' → Rep K F v d → c ds' d → Q v (upd H a (.lst xs'))) → rr (.ref a) ys H Q
def isSlot (r : Env) (i : Nat) : Prop := ∃ y, r[i]? = some (some y)
def isL (om : Om) : RV → Bool
  | .o _ => true
  | .v (.h a) => match om a with
    | some (.lst _) => true
    | _ => false
  | _ => false
def wMutE (i : Nat) (p : (List D → (List D → D → Prop) → Prop)) : Env → Om → (RV → Env → Om → Prop) → Prop := fun r om k => match r[i]? with
  | some (some (.o ds)) => p ds fun ds' z => k (.v z) (r.set i (some (.o ds'))) om
  | some (some (.v (.h a))) => match om a with
    | some (.lst ds) => p ds fun ds' z => k (.v z) r (oset om a (.lst ds'))
    | _ => False
  | _ => False
def lstS (om : Om) (r : Env) (i : Nat) : Prop := match r[i]? with
  | some (some x) => isL om x = true
  | _ => False
def wMut (i : Nat) (p : MutP) (wa : WA) : WE := fun xq r om k => lstS om r i ∧ wa xq r om fun xs r1 om1 => wd (datsE xs) fun args => wMutE i (fun ds => p ds args) r1 om1 k
theorem mut_core {i : Nat} {p : (List D → (List D → D → Prop) → Prop)} {k : RV → Env → Om → Prop} (R : Rel K B F om H st r) (hw : wMutE i p r om k) :
    ∃ a xs ds c, st[i]? = some (some (.ref a)) ∧ H a = some (.lst xs) ∧ RepA K F xs ds ∧ p ds c ∧ ∀ ds' xs' d v, RepA K F xs' ds' → Rep K F v d → c ds' d → ∃ r' om', Rel K B F om' (upd H a (.lst xs')) st r' ∧ KeepE r r' ∧ k (.v d) r' om' := by
  unfold wMutE at hw
  cases e : r[i]? with
  | none => rw [e] at hw; exact hw.elim
  | some o =>
    rw [e] at hw
    cases o with
    | none => exact hw.elim
    | some x =>
      obtain ⟨y, e1, s⟩ := R.slot i x e
      cases x with
      | o ds =>
        obtain ⟨a, rfl, o1, o2, o3, xs, o4, o5⟩ := s
        exact ⟨a, xs, ds, _, e1, o4, o5, hw, fun ds' xs' d v h1 h2 h3 => ⟨_, _, R.write e e1 h1, KeepE.set, h3⟩⟩
      | b j => exact s.elim
      | v d =>
        cases d with
        | h a =>
          cases s
          simp only at hw
          cases q : om a with
          | none => rw [q] at hw; exact hw.elim
          | some ob =>
            rw [q] at hw
            cases ob with
            | lst ds =>
              obtain ⟨xs, o4, o5⟩ := (R.rh.obj a _ q).2.lst
              exact ⟨a, xs, ds, _, e1, o4, o5, hw, fun ds' xs' d v h1 h2 h3 => ⟨_, _, R.writeH (ob' := .lst ds') q h1, KeepE.refl _, h3⟩⟩
            | lstP P => exact hw.elim
            | dct ps => exact hw.elim
            | ins c ps => exact hw.elim
            | dctR ps => exact hw.elim
        | _ => exact hw.elim
theorem lstS_ty (R : Rel K B F om H st r) {i : Nat} (h : lstS om r i) : ∃ y, st[i]? = some (some y) ∧ tyV K "list" y H := by
  unfold lstS at h
  cases e : r[i]? with
  | none => rw [e] at h; exact h.elim
  | some o =>
    rw [e] at h
    cases o with
    | none => exact h.elim
    | some x =>
      obtain ⟨y, e1, s⟩ := R.slot i x e
      refine ⟨y, e1, ?_⟩
      cases x with
      | o ds =>
        obtain ⟨a, rfl, o1, o2, o3, xs, o4, o5⟩ := s
        exact .inl ⟨rfl, xs, SqL.of o4⟩
      | b j => exact s.elim
      | v d =>
        cases d with
        | h a =>
          cases s
          have h' : (match om a with | some (.lst _) => true | _ => false) = true := h
          cases q : om a with
          | none => rw [q] at h'; cases h'
          | some ob =>
            rw [q] at h'
            cases ob with
            | lst ds =>
              obtain ⟨xs, o4, o5⟩ := (R.rh.obj a _ q).2.lst
              exact .inl ⟨rfl, xs, SqL.of o4⟩
            | lstP P => cases h'
            | dct ps => cases h'
            | ins c ps => cases h'
            | dctR ps => cases h'
        | _ => cases h
theorem se_mut {i : Nat} {p : MutP} {ta : TA} {wa : WA} {rr : V → List V → Hp → VK → Prop} (ha : SA K W ta wa) (hp : SM K rr p) : SE K W (tBM K "list" rr (tVar i) ta) (wMut i p wa) := by
  intro B F om H st r xq k Q R hx hQ hw
  obtain ⟨hl, hw⟩ := hw
  obtain ⟨y, e1, ty⟩ := lstS_ty R hl
  refine ⟨y, e1, ty, ?_⟩
  refine ha B F om H st r xq _ _ R hx (fun xs r1 om1 F1 H1 ys R1 s1 k1 q1 hw => ?_) hw
  obtain ⟨args, e2, hw⟩ := wd_iff hw
  obtain ⟨a, xs', ds, c, e3, h4, h5, h6, h7⟩ := mut_core R1 hw
  rw [e1] at e3
  cases e3
  refine hp F1 H1 a xs' ds ys args c _ R1.rh.sub h4 h5 (datsE_rep q1 e2) h6 fun ds' zs d v g1 g2 g3 => ?_
  obtain ⟨r', om', R', k', h'⟩ := h7 ds' zs d v g1 g2 g3
  exact hQ (.v d) _ _ _ _ _ R' s1 (k1.trans k') g2 h'
def wMut0 (i : Nat) (p : MutP) : WE := fun xq r om k => wMutE i (fun ds => p ds []) r om k
theorem se_mut0 {i : Nat} {p : MutP} {rr : V → List V → Hp → VK → Prop} (hp : SM K rr p) : SE K W (tBM0 K "list" rr (tVar i)) (wMut0 i p) := by
  intro B F om H st r xq k Q R hx hQ hw
  obtain ⟨a, xs', ds, c, e3, h4, h5, h6, h7⟩ := mut_core R hw
  refine ⟨_, e3, .inl ⟨rfl, _, SqL.of h4⟩, ?_⟩
  refine hp F H a xs' ds [] [] c _ R.rh.sub h4 h5 .nil h6 fun ds' zs d v g1 g2 g3 => ?_
  obtain ⟨r', om', R', k', h'⟩ := h7 ds' zs d v g1 g2 g3
  exact hQ (.v d) _ _ _ _ _ R' (Same.refl _) k' g2 h'
def mApp : MutP := fun ds args c => match args with
  | [d] => ds.length < sizeLine ∧ c (ds ++ [d]) .non
  | _ => False
theorem sm_append : SM K rAppend mApp := by
  intro F H a xs ds ys args c Q s hH h1 h2 hp hQ
  match args, h2, hp with
  | [d], .cons h .nil, hp =>
    exact ⟨a, xs, _, rfl, rfl, hH, by rw [h1.length]; exact hp.1, hQ _ _ _ _ (h1.append (.cons h .nil)) .non hp.2⟩
def intD : D → Option Int
  | .int i => some i
  | _ => none
theorem intD_inv {d : D} {i : Int} (h : intD d = some i) : d = .int i := by
  cases d with
  | int j => cases h; rfl
  | _ => cases h
def wSet (i : Nat) (wi we : WE) : WS := fun e r om => we e.xq r om fun x r1 om1 => lstS om1 r1 i ∧ wi e.xq r1 om1 fun y r2 om2 => wd (datE x) fun d => wd (datB r2 om2 y) fun j => wd (intD j) fun n =>
  wMutE i (fun ds c => wd (ixN ds.length n) fun m => c (ds.set m d) .non) r2 om2 fun _ r3 om3 => e.nx r3 om3
theorem ss_set {i : Nat} {ti te : TE} {wi we : WE} (hi : SE K W ti wi) (he : SE K W te we) : SS K W (tAsg te (gSub (tVar i) ti rSetL)) (wSet i wi we) := fun B F om H st r D e R hx hE hw => by
  refine he B F om H st r e.xq _ _ R hx (fun x r1 om1 F1 H1 y R1 s1 k1 q1 hw => ?_) hw
  obtain ⟨hl, hw⟩ := hw
  obtain ⟨F2, s2, R2, q2⟩ := R1.fz q1
  obtain ⟨z, e1, ty⟩ := lstS_ty R1 hl
  refine ⟨z, e1, ?_⟩
  refine hi B F2 om1 H1 st r1 e.xq _ _ R2 hx (fun x' r3 om3 F3 H3 y' R3 s3 k3 q3 hw => ?_) hw
  obtain ⟨d, e4, hw1⟩ := wd_iff hw
  obtain ⟨j, e5, hw2⟩ := wd_iff hw1
  obtain ⟨n, e6, hw3⟩ := wd_iff hw2
  clear hw hw1 hw2
  obtain rfl := intD_inv e6
  obtain ⟨a, xs, ds, c, e3, h4, h5, h6, h7⟩ := mut_core R3 hw3
  obtain ⟨m, e7, h6⟩ := wd_iff h6
  rw [e1] at e3
  cases e3
  obtain rfl := (R3.datB q3 e5).intS
  have rp : Rep K F3 y d := (datE_rep q2 e4).mono s3
  obtain ⟨r', om', R', k', h'⟩ := h7 (ds.set m d) (xs.set m y) .non .non (h5.set rp m) .non h6
  exact ⟨a, xs, n, m, rfl, rfl, h4, by rw [h5.length]; exact e7, hE.nx _ _ _ _ _ R' h'⟩

theorem Ext.refl (R : RelH K F om H) : Ext ⟨F, om, H⟩ F om H := ⟨Same.refl _, fun b o e n => (by have n' : F b = none := n; rw [n'] at e; cases e), fun _ _ e _ _ => e, fun _ e => e, fun b o e n => (by have n' : om b = none := n; rw [n'] at e; cases e), fun b e => (by
  show om b = none
  cases q : om b with
  | none => rfl
  | some ob =>
    obtain ⟨u, hu⟩ := (R.obj b ob q).2.some
    have e' : H b = none := e
    rw [e'] at hu; cases hu)⟩
structure Con where
  n : Nat
  df : DF
  len : ∀ ds om k xk, df ds om k xk → ds.length = n
  mono : ∀ ds om k k' xk xk', (∀ x om', k x om' → k' x om') → (∀ ex om', xk ex om' → xk' ex om') → df ds om k xk → df ds om k' xk'
def toSp (K : PySem.W.Frag) (c : Con) : Sp := fun vs H Q E => ∃ (F : Hp) (om : Om) (ds : List D), RelH K F om H ∧ RepA K F vs ds ∧
  c.df ds om (fun x om' => ∀ F' H' y, RelH K F' om' H' → Ext ⟨F, om, H⟩ F' om' H' → Slot K ⟨F, om, H⟩ F' om' H' y x → Q y H')
    (fun ex om' => ∀ F' H' cls d, RelH K F' om' H' → Ext ⟨F, om, H⟩ F' om' H' → ExOk K F' cls d ex → E cls d H')
theorem toSp_len {c : Con} {vs : List V} {Q : VK} {E : XK} (h : toSp K c vs H Q E) : vs.length = c.n := by
  obtain ⟨F, om, ds, _, h2, h3⟩ := h
  rw [h2.length]
  exact c.len _ _ _ _ h3
theorem Rel.call (R : Rel K B F om H st r) {om' : Om} (rh : RelH K F' om' H') (ex : Ext ⟨F, om, H⟩ F' om' H') : Rel K B F' om' H' st r := by
  have dom : ∀ b u, H b = some u → ∃ v, H' b = some v := fun b u e => by
    cases q : H' b with
    | some v => exact ⟨v, rfl⟩
    | none =>
      have z : H b = none := ex.dom b q
      rw [e] at z; cases z
  have omn : ∀ a u, H a = some u → om a = none → om' a = none := fun a u e n => by
    cases q : om' a with
    | none => rfl
    | some ob =>
      have z : H a = none := ex.ob a ob q n
      rw [e] at z; cases z
  refine ⟨rh, ⟨R.ext.f.trans ex.f, fun b o e n => ?_, fun b o e n t => ?_, fun b e => R.ext.dom b (ex.dom b e), fun b o e n => ?_, R.ext.wf⟩, R.len, fun i x e => ?_, R.dis⟩
  · cases q : F b with
    | some u => exact R.ext.new b u q n
    | none => exact R.ext.dom b (ex.new b o e q)
  · have h1 := R.ext.keep b o e n t
    have h2 : om b = none := by
      cases q : om b with
      | none => rfl
      | some ob => rw [R.ext.ob b ob q n] at e; cases e
    exact ex.keep b o h1 h2 t
  · cases q : om b with
    | some ob => exact R.ext.ob b ob q n
    | none => exact R.ext.dom b (ex.ob b o e q)
  · obtain ⟨y, e1, s⟩ := R.slot i x e
    refine ⟨y, e1, ?_⟩
    cases x with
    | v d => exact Rep.mono ex.f s
    | o ds =>
      obtain ⟨a, rfl, o1, o2, o3, xs, o4, o5⟩ := s
      refine ⟨a, rfl, ?_, omn a _ o4 o2, o3, xs, ex.keep a _ o4 o2 (noTab_lst _), o5.mono ex.f⟩
      cases q : F' a with
      | none => rfl
      | some u =>
        have z : H a = none := ex.new a u q o1
        rw [o4] at z; cases z
    | b _ => exact s
theorem Rel.callRes (R : Rel K B F om H st r) {om' : Om} (rh : RelH K F' om' H') (ex : Ext ⟨F, om, H⟩ F' om' H') {y : V} {x : RV} (s : Slot K ⟨F, om, H⟩ F' om' H' y x) : Res K B F' om' H' st r y x := by
  cases x with
  | v d => exact s
  | b _ => exact s.elim
  | o ds =>
    obtain ⟨a, rfl, o1, o2, o3, xs, o4, o5⟩ := s
    have o3' : H a = none := o3
    refine ⟨a, rfl, ⟨o1, o2, R.ext.dom a o3', xs, o4, o5⟩, fun j es e z => ?_⟩
    obtain ⟨y, e1, a', e2, _, _, _, ys, e3, _⟩ := R.slot j (.o es) e
    rw [z] at e1
    cases e1
    cases e2
    rw [o3'] at e3; cases e3
def wCall (df : DF) (dds : List D) (wa : WA) : WE := fun xq r om k => wa xq r om fun xs r1 om1 => wd (datsE xs) fun ds => df (ds ++ dds) om1 (fun x om' => k x r1 om') (fun ex om' => xq ex r1 om')
theorem call_core {c : Con} {ys : List V} {ds : List D} {xq : DX} {k : RV → Om → Prop} {Q : VK} (R : Rel K B F om H st r) (hx : XOk K B W xq) (rp : RepA K F ys ds)
    (hQ : ∀ x om' F' H' y, Rel K B F' om' H' st r → Same F F' → Res K B F' om' H' st r y x → k x om' → Q y H') (hw : c.df ds om k (fun ex om' => xq ex r om')) : toSp K c ys H Q (L2.WE W st) := by
  refine ⟨F, om, ds, R.rh, rp, c.mono ds om _ _ _ _ (fun x om' hk F' H' y rh ex s => ?_) (fun e om' hk F' H' cls d rh ex he => ?_) hw⟩
  · exact hQ x om' F' H' y (R.call rh ex) ex.f (R.callRes rh ex s) hk
  · exact hx e r om' F' H' st cls d (R.call rh ex) he hk
theorem se_call {c : Con} {dvs : List V} {dds : List D} {ta : TA} {wa : WA} (ha : SA K W ta wa) (hd : ∀ F, RepA K F dvs dds) : SE K W (tCallSD (toSp K c) dvs (L2.WE W) ta) (wCall c.df dds wa) := by
  intro B F om H st r xq k Q R hx hQ hw
  refine ha B F om H st r xq _ _ R hx (fun xs r1 om1 F1 H1 ys R1 s1 k1 q1 hw => ?_) hw
  obtain ⟨ds, e1, hw⟩ := wd_iff hw
  exact call_core R1 hx ((datsE_rep q1 e1).append (hd F1)) (fun x om' F' H' y R' s' q' hk => hQ _ _ _ _ _ _ R' (s1.trans s') k1 q' hk) hw
def startE (n : Nat) (ds : List D) : Env := ds.map (fun d => some (.v d)) ++ List.replicate (n - ds.length) none
theorem start_rel {N : List Str} {vs : List V} {ds : List D} (R : RelH K F om H) (rp : RepA K F vs ds) : Rel K ⟨F, om, H⟩ F om H (L2.start N vs) (startE N.length ds) := by
  have hl := rp.length
  refine ⟨R, Ext.refl R, by simp [startE, L2.start, hl], fun i x e => ?_, fun i j a ds' es e1 => ?_⟩
  · by_cases hi : i < ds.length
    · unfold startE at e
      rw [List.getElem?_append_left (by simpa using hi), List.getElem?_map] at e
      cases q : ds[i]? with
      | none => rw [q] at e; cases e
      | some d =>
        rw [q] at e
        obtain rfl : RV.v d = x := Option.some.inj (Option.some.inj e)
        obtain ⟨y, hy, rr⟩ := rp.getD q
        refine ⟨y, ?_, rr⟩
        unfold L2.start
        rw [List.getElem?_append_left (by simp; omega), List.getElem?_map, hy]
        rfl
    · unfold startE at e
      rw [List.getElem?_append_right (by simpa using hi), List.getElem?_replicate] at e
      split at e <;> cases e
  · exfalso
    by_cases hi : i < ds.length
    · unfold startE at e1
      rw [List.getElem?_append_left (by simpa using hi), List.getElem?_map] at e1
      cases q : ds[i]? with
      | none => rw [q] at e1; cases e1
      | some d => rw [q] at e1; cases e1
    · unfold startE at e1
      rw [List.getElem?_append_right (by simpa using hi), List.getElem?_replicate] at e1
      split at e1 <;> cases e1
def endOf (k : RV → Om → Prop) (xk : Exn → Om → Prop) : DEnds := { nx := fun _ om => k (.v .non) om, rt := k, xq := fun ex _ om => xk ex om }
theorem body_ok {N : List Str} {c : Con} {t : TS} {w : WS} {vs : List V} {Q : VK} {E : XK} (hs : SS K (fun cls d _ H => E cls d H) t w) (hw : ∀ ds om k xk, c.df ds om k xk → w (endOf k xk) (startE N.length ds) om) (h : toSp K c vs H Q E) :
    t { nx := fun _ H' => Q .non H', rt := Q } (L2.start N vs) H := by
  obtain ⟨F, om, ds, R, rp, hd⟩ := h
  refine hs ⟨F, om, H⟩ F om H (L2.start N vs) (startE N.length ds) _ (endOf (fun x om' => ∀ F' H' y, RelH K F' om' H' → Ext ⟨F, om, H⟩ F' om' H' → Slot K ⟨F, om, H⟩ F' om' H' y x → Q y H')
    (fun ex om' => ∀ F' H' cls d, RelH K F' om' H' → Ext ⟨F, om, H⟩ F' om' H' → ExOk K F' cls d ex → E cls d H')) (start_rel R rp) (fun ex r om' F' H' st' cls d R' he hq => hq F' H' cls d R'.rh R'.ext he) ⟨fun r om' F' H' st' R' hn => hn F' H' .non R'.rh R'.ext Rep.non, fun x om' F' H' y rh ex s hn => hn F' H' y rh ex s, fun _ _ _ _ _ _ z => z.elim, fun _ _ _ _ _ _ z => z.elim⟩ (hw ds om _ _ hd)
end
end DL

set_option Elab.async false
set_option linter.all false
set_option maxRecDepth 100000
namespace DL
open PySem L2
def wipeE (r : Env) : List Nat → Env
  | [] => r
  | v :: vs => (wipeE r vs).set v none
theorem wipeE_len (r : Env) : ∀ vs : List Nat, (wipeE r vs).length = r.length
  | [] => rfl
  | v :: vs => by unfold wipeE; rw [List.length_set, wipeE_len r vs]
theorem wipeE_some {r : Env} {i : Nat} {x : RV} : ∀ {vs : List Nat}, (wipeE r vs)[i]? = some (some x) → r[i]? = some (some x) ∧ i ∉ vs
  | [], h => ⟨h, by simp⟩
  | v :: vs, h => by
    unfold wipeE at h
    by_cases hi : v = i
    · subst hi
      by_cases hv : v < (wipeE r vs).length
      · rw [List.getElem?_set_self hv] at h; cases h
      · rw [List.getElem?_eq_none (by simpa using hv)] at h; cases h
    · rw [List.getElem?_set_ne hi] at h
      obtain ⟨h1, h2⟩ := wipeE_some h
      exact ⟨h1, by simp only [List.mem_cons, not_or]; exact ⟨fun e => hi e.symm, h2⟩⟩
theorem wipe_at {st : St} {i : Nat} : ∀ {vs : List Nat}, i ∈ vs → i < st.length → (wipe st vs)[i]? = some none
  | [], h, _ => by cases h
  | v :: vs, h, hl => by
    unfold wipe
    by_cases hi : v = i
    · subst hi; rw [List.getElem?_set_self (by rw [wipe_length]; exact hl)]
    · rw [List.getElem?_set_ne hi]
      exact wipe_at (by simpa [Ne.symm hi] using h) hl
theorem wipe_same {st st' : St} {vs : List Nat} (hl : st'.length = st.length) (h : ∀ j, j ∉ vs → st'[j]? = st[j]?) : wipe st' vs = wipe st vs := by
  apply List.ext_getElem?
  intro j
  by_cases hj : j ∈ vs
  · by_cases hb : j < st.length
    · rw [wipe_at hj hb, wipe_at hj (by rw [hl]; exact hb)]
    · rw [List.getElem?_eq_none (by rw [wipe_length]; omega), List.getElem?_eq_none (by rw [wipe_length]; omega)]
  · rw [wipe_out hj, wipe_out hj]; exact h j hj
section
variable {K : PySem.W.Frag} {B : Base} {F F' : Hp} {om : Om} {H H' : Hp} {st : St} {r : Env} {W : WX}
def SGv (K : PySem.W.Frag) (vs : List Nat) (g : TG) (w : GT) : Prop := ∀ (B : Base) (F : Hp) (om : Om) (H : Hp) (st : St) (r : Env) (y : V) (x : RV) (k : Env → Prop) (Q : St → Hp → Prop),
  Rel K B F om H st r → Res K B F om H st r y x → (∀ st' r', Rel K B F om H st' r' → st'.length = st.length → (∀ j, j ∉ vs → st'[j]? = st[j]?) → k r' → Q st' H) → w x r k → g y st H Q
theorem sgv_name {vs : List Nat} (i : Nat) (hi : i ∈ vs) : SGv K vs (gName i) (gN i) := fun B F om H st r y x k Q R h hQ hw => by
  obtain ⟨h1, h2, h3⟩ := hw
  exact hQ _ _ (R.put h (fun j z => by rw [z] at h1; exact h1) h2) (by simp) (fun j hj => List.getElem?_set_ne fun e => hj (by rw [← e]; exact hi)) h3
def SGvs (K : PySem.W.Frag) (vs : List Nat) (g : TGs) (w : GTs) : Prop := ∀ (B : Base) (F : Hp) (om : Om) (H : Hp) (st : St) (r : Env) (ys : List V) (ds : List D) (k : Env → Prop) (Q : St → Hp → Prop),
  Rel K B F om H st r → RepA K F ys ds → (∀ st' r', Rel K B F om H st' r' → st'.length = st.length → (∀ j, j ∉ vs → st'[j]? = st[j]?) → k r' → Q st' H) → w ds r k → g ys st H Q
abbrev X0 : DX := fun _ _ _ => False
def lcGo (g : GT) (wt : WT) (we : WE) (vs : List Nat) : List D → List D → Env → Om → (List D → Env → Om → Prop) → Prop
  | [], acc, r, om, fin => fin acc r om
  | d :: ds, acc, r, om, fin => g (.v d) r fun r2 => wt X0 r2 om fun b r3 om3 =>
      if b = true then we X0 r3 om3 fun x r4 om4 => wd (datE x) fun y => acc.length < sizeLine ∧ lcGo g wt we vs ds (acc ++ [y]) (wipeE r4 vs) om4 fin
      else lcGo g wt we vs ds acc (wipeE r3 vs) om3 fin
def wYes : WT := fun _ r om k => k true r om
theorem st_yes : ST K W tYes wYes := fun B F om H st r xq k Q R hx hQ hw => hQ _ _ _ _ _ R (Same.refl _) (KeepE.refl _) hw
def wLc (wi : WI) (g : GT) (wt : WT) (we : WE) (vs : List Nat) : WE := fun xq r om k => wi xq r om fun items r1 om1 => lcGo g wt we vs items [] (wipeE r1 vs) om1 fun acc r2 om2 => k (.o acc) r2 om2
theorem Rel.wipe (R : Rel K B F om H st r) (vs : List Nat) : Rel K B F om H (L2.wipe st vs) (wipeE r vs) :=
  R.forget (by rw [wipeE_len, wipe_length]; exact R.len) fun i x h => by
    obtain ⟨h1, h2⟩ := wipeE_some h
    exact ⟨h1, wipe_out h2⟩
theorem se_lc {ti : TI} {wi : WI} {vs : List Nat} {g : TG} {w : GT} {tt : TT} {wt : WT} {te : TE} {we : WE} (hi : SI K W ti wi) (hg : SGv K vs g w) (ht : ST K (fun _ _ _ _ => False) tt wt) (he : SE K (fun _ _ _ _ => False) te we) :
    SE K W (tLc ti g tt te vs) (wLc wi w wt we vs) := by
  intro B F om H st r xq k Q R hx hQ hw
  have x0 : ∀ B, XOk K B (fun _ _ _ _ => False) X0 := fun B ex r om F H st cls d _ _ z => z
  refine hi B F om H st r xq _ _ R hx (fun J items r1 om1 F1 H1 R1 s1 k1 hJ hw => ?_) hw
  intro p hp
  have fp1 : F1 p = none := R1.rh.sub.free hp
  have op1 : om1 p = none := by
    cases q : om1 p with
    | none => rfl
    | some ob =>
      obtain ⟨u, hu⟩ := (R1.rh.obj p ob q).2.some
      rw [hp] at hu; cases hu
  have bp : B.H p = none := R1.ext.dom p hp
  have bf : B.F p = none := by
    cases q : B.F p with
    | none => rfl
    | some u => have := R1.ext.f p u q; rw [fp1] at this; cases this
  obtain ⟨R2, q2⟩ := R1.allocO (p := p) (xs := []) (ds := []) hp .nil
  obtain ⟨_, ep, ⟨w1, w2, w3, _, _, _⟩, w6⟩ := q2
  cases ep
  -- the invariant
  refine ⟨fun i m H' => m = items.length - i ∧ i ≤ items.length ∧ ∃ r' om' F' acc xs, Rel K B F' om' H' (L2.wipe st vs) r' ∧ Same F1 F' ∧ F' p = none ∧ om' p = none ∧ H' p = some (.lst xs) ∧ RepA K F' xs acc ∧
      (∀ (j : Nat) (es : List D), r'[j]? = some (some (.o es)) → (L2.wipe st vs)[j]? ≠ some (some (.ref p))) ∧ (∀ (j : Nat) (x : RV), r'[j]? = some (some x) → j ∉ vs) ∧
      lcGo w wt we vs (items.drop i) acc r' om' (fun acc r2 om2 => k (.o acc) r2 om2),
    ⟨items.length, by simp, Nat.zero_le _, wipeE r1 vs, om1, F1, [], [], R2.wipe vs, Same.refl _, w1, w2, upd_same, .nil, ?_, fun j x h => (wipeE_some h).2, by simpa using hw⟩, ?_⟩
  · intro j es h
    obtain ⟨h1, h2⟩ := wipeE_some h
    rw [wipe_out h2]
    exact w6 j es h1
  rintro i m H2 ⟨rfl, hle, r2, om2, F2, acc, xs, R2', s2, fp2, op2, hp2, ra2, own2, out2, hl⟩
  by_cases hlt : i < items.length
  · have hd : items.drop i = items[i] :: items.drop (i + 1) := List.drop_eq_getElem_cons hlt
    rw [hd] at hl
    obtain ⟨go, yl⟩ := hJ.2 i items[i] F2 H2 s2 R2'.rh.sub (List.getElem?_eq_getElem hlt)
    refine .inr ⟨go, fun H' => ∃ r' om' F' acc xs, Rel K B F' om' H' (L2.wipe st vs) r' ∧ Same F1 F' ∧ F' p = none ∧ om' p = none ∧ H' p = some (.lst xs) ∧ RepA K F' xs acc ∧
      (∀ (j : Nat) (es : List D), r'[j]? = some (some (.o es)) → (L2.wipe st vs)[j]? ≠ some (some (.ref p))) ∧ (∀ (j : Nat) (x : RV), r'[j]? = some (some x) → j ∉ vs) ∧
      lcGo w wt we vs (items.drop (i + 1)) acc r' om' (fun acc r2 om2 => k (.o acc) r2 om2), fun H' h => ⟨items.length - (i + 1), by omega, rfl, hlt, h⟩, fun x H' y => ?_⟩
    obtain ⟨F3, g3, rp⟩ := yl x H' y
    have R3 := R2'.grow g3.f g3.h g3.new g3.sub
    have fp3 : F3 p = none := by
      cases q : F3 p with
      | none => rfl
      | some u => rw [g3.new p u q fp2] at hp2; cases hp2
    have hp3 : H' p = some (.lst xs) := g3.h _ _ hp2
    -- p is guarded through the turn
    have G3 := R3.guard fp3 op2 hp3 own2
    refine hg _ F3 om2 H' _ r2 x (.v items[i]) _ _ G3 rp (fun st4 r4 R4 hl4 hj4 hk => ?_) hl
    have wp : L2.wipe st4 vs = L2.wipe st vs := by
      rw [wipe_same hl4 hj4]
      exact wipe_same (by rw [wipe_length]) fun j hj => wipe_out hj
    refine ⟨wp, ?_⟩
    refine ht _ F3 om2 H' st4 r4 X0 _ _ R4 (x0 _) (fun b r5 om5 F5 H5 R5 s5 k5 hb => ?_) hk
    have un : ∀ {r6 : Env} {om6 : Om} {F6 H6 : Hp}, Rel K (B.guard p (.lst xs)) F6 om6 H6 st4 r6 → B.om p = none → Rel K B F6 om6 H6 (L2.wipe st vs) (wipeE r6 vs) ∧ F6 p = none ∧ om6 p = none ∧ H6 p = some (.lst xs) ∧
        (∀ (j : Nat) (es : List D), (wipeE r6 vs)[j]? = some (some (.o es)) → (L2.wipe st vs)[j]? ≠ some (some (.ref p))) ∧ (∀ (j : Nat) (x : RV), (wipeE r6 vs)[j]? = some (some x) → j ∉ vs) := fun {r6 om6 F6 H6} R6 hO => by
      obtain ⟨R7, a1, a2, a3, a4⟩ := R6.unguard bf hO bp
      have R8 := R7.wipe vs
      rw [wp] at R8
      refine ⟨R8, a1, a2, a3, fun j es h => ?_, fun j x h => (wipeE_some h).2⟩
      obtain ⟨h1, h2⟩ := wipeE_some h
      rw [← wp, wipe_out h2]
      exact a4 j es h1
    have hO : B.om p = none := R2'.ext.wf p bp
    cases b with
    | false =>
      obtain ⟨a0, a1, a2, a3, a4, a5⟩ := un R5 hO
      exact ⟨wipeE r5 vs, om5, F5, acc, xs, a0, (s2.trans g3.f).trans s5, a1, a2, a3, (ra2.mono g3.f).mono s5, a4, a5, hb⟩
    | true =>
      refine he _ F5 om5 H5 st4 r5 X0 _ _ R5 (x0 _) (fun z r6 om6 F6 H6 y6 R6 s6 k6 q6 hb => ?_) hb
      obtain ⟨d6, e6, hz, hb⟩ := wd_iff hb
      obtain ⟨F7, s7, R7, q7⟩ := R6.fz q6
      have rp7 : Rep K F7 y6 d6 := datE_rep q7 e6
      obtain ⟨a0, a1, a2, a3, a4, a5⟩ := un R7 hO
      have ra7 : RepA K F7 xs acc := (((ra2.mono g3.f).mono s5).mono s6).mono s7
      refine ⟨xs, a3, by rw [ra7.length]; exact hz, wipeE r6 vs, om6, F7, acc ++ [d6], xs ++ [y6], ?_, (((s2.trans g3.f).trans s5).trans s6).trans s7, a1, a2, upd_same, ra7.append (.cons rp7 .nil), a4, a5, hb⟩
      exact a0.writeX a1 a2 bp a4 (fun u hu => by rw [a3] at hu; cases hu; intro _ h; cases h)
  · have e0 : items.drop i = [] := List.drop_eq_nil_of_le (by omega)
    rw [e0] at hl
    refine .inl ⟨hJ.1 i F2 H2 s2 R2'.rh.sub (by omega), ?_⟩
    have R9 : Rel K B F2 om2 H2 st r2 := R2'.forget (by rw [R2'.len, wipe_length]) fun j x h => ⟨h, (wipe_out (out2 j x h)).symm⟩
    refine hQ (.o acc) r2 om2 F2 H2 (.ref p) R9 (s1.trans s2) trivial ⟨p, rfl, ⟨fp2, op2, bp, xs, hp2, ra2⟩, fun j es h => ?_⟩ hl
    rw [← wipe_out (out2 j _ h)]
    exact own2 j es h
end
end DL

set_option Elab.async false
set_option linter.all false
set_option maxRecDepth 100000
namespace DL
open PySem L2
structure DE (X : Cx) (W : WX) (e : Expr) (t : TE) (w : WE) : Prop where
  p : PE X e t
  s : SE X.K W t w
structure DA (X : Cx) (W : WX) (es : List Expr) (t : TA) (w : WA) : Prop where
  p : PA X es t
  s : SA X.K W t w
structure DT (X : Cx) (W : WX) (e : Expr) (t : TT) (w : WT) : Prop where
  p : PT X e t
  s : ST X.K W t w
structure DW (X : Cx) (W : WX) (e : Expr) (t : TT) (w : WT) : Prop where
  p : PW X e t
  s : ST X.K W t w
structure DTs (X : Cx) (W : WX) (es : List Expr) (t : TT) (w : WT) : Prop where
  p : PTs X es t
  s : ST X.K W t w
structure DS (X : Cx) (W : WX) (s : Stmt) (t : TS) (w : WS) : Prop where
  p : PS X s t
  s : SS X.K W t w
structure DSs (X : Cx) (W : WX) (s : List Stmt) (t : TS) (w : WS) : Prop where
  p : PSs X s t
  s : SS X.K W t w
structure DG (X : Cx) (e : Expr) (t : TG) (w : GT) : Prop where
  p : PG X e t
  s : SG X.K t w
structure DGs (X : Cx) (e : List Expr) (t : TGs) (w : GTs) : Prop where
  p : PGs X e t
  s : SGs X.K t w
structure DI (X : Cx) (W : WX) (tg e : Expr) (t : TI) (w : WI) : Prop where
  p : PI X tg e t
  s : SI X.K W t w
structure O2 (X : Cx) (f : Value → Value → Sem Value) (rr : R2) (q : P2) : Prop where
  p : OpR X f rr
  s : S2 X.K rr q
structure ON (X : Cx) (f : Value) (rr : List V → Hp → VK → Prop) (q : PN) : Prop where
  p : CallR X f rr
  s : SN X.K rr q
section
variable {X : Cx} {W : WX} {pos : Pos}
theorem de_var (i : Nat) {x : Str} {pos : Pos} (hN : X.N[i]? = some x := by rfl) (hv : Vis X.env.scope x := by first | exact Or.inl rfl | exact Or.inr (Or.inl rfl) | exact Or.inr (Or.inr rfl)) (hd : (x == ("__debug__" : Str)) = false := by decide)
    (hcd : (x == ("__classdict__" : Str)) = false := by decide) : DE X W (.Name x pos) (tVar i) (wVar i) := ⟨pe_var hN hv hd hcd, se_var i⟩
theorem de_bor (i : Nat) {x : Str} {pos : Pos} (hN : X.N[i]? = some x := by rfl) (hv : Vis X.env.scope x := by first | exact Or.inl rfl | exact Or.inr (Or.inl rfl) | exact Or.inr (Or.inr rfl)) (hd : (x == ("__debug__" : Str)) = false := by decide)
    (hcd : (x == ("__classdict__" : Str)) = false := by decide) : DE X W (.Name x pos) (tVar i) (wBor i) := ⟨pe_var hN hv hd hcd, se_bor i⟩
theorem de_int {i : Int} {j : Nat} : DE X W (.Constant (.int i) j pos) (tC (.int i)) (wC (.int i)) := ⟨pe_int, se_c fun _ => .int i⟩
theorem de_bl {b : Bool} {j : Nat} : DE X W (.Constant (.bool b) j pos) (tC (.bl b)) (wC (.bl b)) := ⟨pe_bl, se_c fun _ => .bl b⟩
theorem de_non {j : Nat} : DE X W (.Constant .none j pos) (tC .non) (wC .non) := ⟨pe_non, se_c fun _ => .non⟩
theorem de_str {x : Str} {j : Nat} : DE X W (.Constant (.str x) j pos) (tC (.str x)) (wC (.str x)) := ⟨pe_str, se_c fun _ => .str x⟩
structure Cst (K : PySem.W.Frag) (mg : Str → Option Value) (x : Str) (v : V) (d : D) : Prop where
  g : ∃ u, mg x = some u ∧ RelV v u
  r : ∀ F, Rep K F v d
theorem de_glob {x : Str} {v : V} {d : D} (c : Cst X.K X.mg x v d) (hg : Gl X x := by rfl) (hd : (x == ("__debug__" : Str)) = false := by decide) : DE X W (.Name x pos) (tC v) (wC d) :=
  ⟨let ⟨_, h1, h2⟩ := c.g; pe_glob hg h1 h2 hd, se_c c.r⟩
theorem de_ty {x : Str} {n : String} (hm : X.mg x = none) (hv : bootBuiltins x = some (.type n)) (hg : Gl X x := by rfl) (hn : x ≠ "__name__" := by decide) (hd : (x == ("__debug__" : Str)) = false := by decide) : DE X W (.Name x pos) (tC (.ty n)) (wC (.raw (.ty n))) :=
  ⟨pe_bltn hg hm hv rfl hn hd, se_c fun _ => .raw _⟩
theorem de_op {op : Operator} {a b : Expr} {ta tb : TE} {wa wb : WE} {rr : R2} {p : P2} (o : O2 X (binaryOp op) rr p) (ha : DE X W a ta wa) (hb : DE X W b tb wb) : DE X W (.BinOp a op b pos) (tOp rr ta tb) (wOp p wa wb) := ⟨pe_op o.p ha.p hb.p, se_op ha.s hb.s o.s⟩
theorem de_cmp {op : CmpOp} {a b : Expr} {ta tb : TE} {wa wb : WE} {rr : R2} {p : P2} (o : O2 X (compareOp op) rr p) (ha : DE X W a ta wa) (hb : DE X W b tb wb) (hm : behindInMarks op b = false := by first | exact nomark _ | rfl | with_unfolding_all rfl) : DE X W (.Compare a [op] [b] pos) (tOp rr ta tb) (wOp p wa wb) := ⟨pe_cmpR o.p ha.p hb.p hm, se_op ha.s hb.s o.s⟩
theorem dt_cmp {op : CmpOp} {a b : Expr} {ta tb : TE} {wa wb : WE} {rr : R2} {p : P2} (o : O2 X (compareOp op) rr p) (ha : DE X W a ta wa) (hb : DE X W b tb wb) (hm : behindInMarks op b = false := by first | exact nomark _ | rfl | with_unfolding_all rfl) : DT X W (.Compare a [op] [b] pos) (tTest (tOp rr ta tb)) (wTst (wOp p wa wb)) := ⟨pt_cmpR o.p ha.p hb.p hm, st_tst (se_op ha.s hb.s o.s)⟩
theorem dt_chain {op op' : CmpOp} {a b c : Expr} {ta tb tc : TE} {wa wb wc : WE} {rr rr' : R2} {p p' : P2} (o : O2 X (compareOp op) rr p) (o' : O2 X (compareOp op') rr' p') (ha : DE X W a ta wa) (hb : DE X W b tb wb) (hc : DE X W c tc wc) (hm : lastMarks [op, op'] [b, c] = false := by with_unfolding_all rfl) :
    DT X W (.Compare a [op, op'] [b, c] pos) (tTest (tChain rr rr' ta tb tc)) (wTst (wChain p p' wa wb wc)) := ⟨pt_chain o.p o'.p ha.p hb.p hc.p hm, st_tst (se_chain ha.s hb.s hc.s o.s o'.s)⟩
theorem da_nil : DA X W [] tNil wNil := ⟨pa_nil, sa_nil⟩
theorem da_cons {e : Expr} {es : List Expr} {te : TE} {we : WE} {t : TA} {w : WA} (h : DE X W e te we) (hr : DA X W es t w) (hs : starEach (e :: es) X.env = (false, eval e X.env) :: starEach es X.env := by rfl) : DA X W (e :: es) (tCons te t) (wCons we w) := ⟨pa_cons h.p hr.p hs, sa_cons h.s hr.s⟩
theorem de_tup {es : List Expr} {k : Nat} {t : TA} {w : WA} (h : DA X W es t w) : DE X W (.Tuple es k pos) (tTup t) (wTup w) := ⟨pe_tup h.p, se_tup h.s⟩
theorem de_lst {es : List Expr} {t : TA} {w : WA} (h : DA X W es t w) : DE X W (.List es pos) (tLst t) (wLst w) := ⟨pe_lst h.p, se_lst h.s⟩
theorem de_cb {x : Str} {p' : Pos} {id : String} {e : Expr} {es : List Expr} {t : TA} {w : WA} {rr : List V → Hp → VK → Prop} {p : PN} (o : ON X (.builtin id) rr p) (hm : X.mg x = none) (hv : bootBuiltins x = some (.builtin id)) (ha : DA X W (e :: es) t w) (hg : Gl X x := by rfl) (hn : x ≠ "__name__" := by decide) (hdb : (x == ("__debug__" : Str)) = false := by decide)
    (he : starEach (e :: es) X.env = (false, eval e X.env) :: starEach es X.env := by rfl) (hpl : (backTo pos (starEach es X.env)).any (·.1) = false := by rfl) : DE X W (.Call (.Name x p') (e :: es) [] pos) (tCB rr t) (wCB p w) := ⟨pe_callB o.p hg hm hv ha.p hn hdb he hpl, se_cb ha.s o.s⟩
theorem de_ct {x : Str} {p' : Pos} {id : String} {e : Expr} {es : List Expr} {t : TA} {w : WA} {rr : List V → Hp → VK → Prop} {p : PN} (o : ON X (.type id) rr p) (hm : X.mg x = none) (hv : bootBuiltins x = some (.type id)) (ha : DA X W (e :: es) t w) (hg : Gl X x := by rfl) (hn : x ≠ "__name__" := by decide) (hdb : (x == ("__debug__" : Str)) = false := by decide)
    (he : starEach (e :: es) X.env = (false, eval e X.env) :: starEach es X.env := by rfl) (hpl : (backTo pos (starEach es X.env)).any (·.1) = false := by rfl) : DE X W (.Call (.Name x p') (e :: es) [] pos) (tCB rr t) (wCB p w) := ⟨pe_callTy o.p hg hm hv ha.p hn hdb he hpl, se_cb ha.s o.s⟩
theorem de_one {op : BoolOp} {a : Expr} {t : TE} {w : WE} (h : DE X W a t w) : DE X W (.BoolOp op [a] pos) t w := ⟨pe_one h.p, h.s⟩
theorem de_and {a b : Expr} {rest : List Expr} {ta tb : TE} {wa wb : WE} (ha : DE X W a ta wa) (hb : DE X W (.BoolOp .And (b :: rest) pos) tb wb) : DE X W (.BoolOp .And (a :: b :: rest) pos) (tAndV ta tb) (wAndV wa wb) := ⟨pe_and ha.p hb.p, se_andV ha.s hb.s⟩
theorem de_or {a b : Expr} {rest : List Expr} {ta tb : TE} {wa wb : WE} (ha : DE X W a ta wa) (hb : DE X W (.BoolOp .Or (b :: rest) pos) tb wb) : DE X W (.BoolOp .Or (a :: b :: rest) pos) (tOrV ta tb) (wOrV wa wb) := ⟨pe_or ha.p hb.p, se_orV ha.s hb.s⟩
theorem de_not {a : Expr} {ta : TE} {wa : WE} (ha : DE X W a ta wa) : DE X W (.UnaryOp .Not a pos) (tNotV ta) (wNotV wa) := ⟨pe_not ha.p, se_notV ha.s⟩
theorem de_neg {a : Expr} {ta : TE} {wa : WE} {rr : V → Hp → VK → Prop} {p : P1} (o : UnR X (unaryOp .USub) rr) (hp : S1 X.K rr p) (ha : DE X W a ta wa) : DE X W (.UnaryOp .USub a pos) (tUn rr ta) (wUn p wa) := ⟨pe_un o ha.p, se_un ha.s hp⟩
theorem dt_tru {e : Expr} {t : TE} {w : WE} (h : DE X W e t w) (he : ∀ whole, isTrue e X.env whole = (do let v ← whole; standAt e.pos; holding [v] (truthy v)) := by intro _; rfl) : DT X W e (fun σ H Q => t σ H fun x H' => ∃ k, TruV X.K x H' k ∧ Q k H') (wTru w) := ⟨pt_truth h.p he, st_tru h.s⟩
theorem DW.dt {e : Expr} {t : TT} {w : WT} (h : DW X W e t w) : DT X W e t w := ⟨h.p.pt, h.s⟩
theorem dw_and1 {a : Expr} {t : TT} {w : WT} (h : DT X W a t w) : DW X W (.BoolOp .And [a] pos) t w := ⟨pw_and1 h.p, h.s⟩
theorem dw_or1 {a : Expr} {t : TT} {w : WT} (h : DT X W a t w) : DW X W (.BoolOp .Or [a] pos) t w := ⟨pw_or1 h.p, h.s⟩
theorem dw_and {a b : Expr} {rest : List Expr} {ta tb : TT} {wa wb : WT} (ha : DT X W a ta wa) (hb : DW X W (.BoolOp .And (b :: rest) pos) tb wb) : DW X W (.BoolOp .And (a :: b :: rest) pos) (tAnd ta tb) (wAnd wa wb) := ⟨pw_and ha.p hb.p, st_and ha.s hb.s⟩
theorem dw_or {a b : Expr} {rest : List Expr} {ta tb : TT} {wa wb : WT} (ha : DT X W a ta wa) (hb : DW X W (.BoolOp .Or (b :: rest) pos) tb wb) : DW X W (.BoolOp .Or (a :: b :: rest) pos) (tOr ta tb) (wOr wa wb) := ⟨pw_or ha.p hb.p, st_or ha.s hb.s⟩
theorem dt_not {a : Expr} {t : TT} {w : WT} (h : DT X W a t w) : DT X W (.UnaryOp .Not a pos) (tNot t) (wNot w) := ⟨pt_not h.p, st_not h.s⟩
theorem dss_nil : DSs X W [] tNext wNext := ⟨pss_nil, ss_next⟩
theorem dss_cons {s : Stmt} {ss : List Stmt} {t u : TS} {w v : WS} (h : DS X W s t w) (hr : DSs X W ss u v) : DSs X W (s :: ss) (tSeq t u) (wSeq w v) := ⟨pss_cons h.p hr.p, ss_seq h.s hr.s⟩
theorem dss_one {s : Stmt} {t : TS} {w : WS} (h : DS X W s t w) : DSs X W [s] t w := ⟨pss_one h.p, h.s⟩
theorem ds_ret {e : Expr} {t : TE} {w : WE} (h : DE X W e t w) : DS X W (.Return (some e) pos) (tRet t) (wRet w) := ⟨ps_ret h.p, ss_ret h.s⟩
theorem ds_retV (i : Nat) {x : Str} {p' : Pos} (hN : X.N[i]? = some x := by rfl) (hv : Vis X.env.scope x := by first | exact Or.inl rfl | exact Or.inr (Or.inl rfl) | exact Or.inr (Or.inr rfl)) (hd : (x == ("__debug__" : Str)) = false := by decide)
    (hcd : (x == ("__classdict__" : Str)) = false := by decide) : DS X W (.Return (some (.Name x p')) pos) (tRet (tVar i)) (wRet (wMov i)) := ⟨ps_ret (pe_var hN hv hd hcd), ss_retV i⟩
theorem ds_if {c : Expr} {a b : List Stmt} {tt : TT} {wt : WT} {ta tb : TS} {wa wb : WS} (hc : DT X W c tt wt) (ha : DSs X W a ta wa) (hb : DSs X W b tb wb) : DS X W (.If c a b pos) (tIfS tt ta tb) (wIfS wt wa wb) := ⟨ps_if hc.p ha.p hb.p, ss_if hc.s ha.s hb.s⟩
theorem ds_drop {e : Expr} {t : TE} {w : WE} (h : DE X W e t w) (hs : swapsWith e none pos.line X.env = pure false := by rfl) : DS X W (.Expr e pos) (tDrop t) (wDrop w) := ⟨ps_expr h.p hs, ss_drop h.s⟩
theorem dg_name (i : Nat) {x : Str} (hN : X.N.Nodup) (hi : X.N[i]? = some x := by rfl) (hx : Loc X.env.scope x := by first | exact .inl rfl | exact .inr rfl) (hf : X.fn x = true ∨ X.env.scope.names.lookup x = some .local := by first | exact .inl rfl | exact .inr rfl) : DG X (.Name x pos) (gName i) (gN i) := ⟨pg_name hN hi hx hf, sg_name i⟩
theorem dgs_nil : DGs X [] gNil gsNil := ⟨pgs_nil, sgs_nil⟩
theorem dgs_cons (i : Nat) {x : Str} {p' : Pos} {es : List Expr} {t : TGs} {w : GTs} (hN : X.N.Nodup) (hr : DGs X es t w) (hi : X.N[i]? = some x := by rfl) (hx : Loc X.env.scope x := by first | exact .inl rfl | exact .inr rfl) (hf : X.fn x = true ∨ X.env.scope.names.lookup x = some .local := by first | exact .inl rfl | exact .inr rfl)
    (hs : (assignEach (.Name x p' :: es) X.env).map (·.2) = assign (.Name x p') X.env :: (assignEach es X.env).map (·.2) := by rfl) : DGs X (.Name x p' :: es) (gCons (gName i) t) (gsCons i w) := ⟨pgs_cons (pg_name hN hi hx hf) hr.p hs, sgs_cons i hr.s⟩
theorem dg_tup {es : List Expr} {k : Nat} {t : TGs} {w : GTs} {n : Nat} (hc : X.calm = true) (h : DGs X es t w) (hn : (assignEach es X.env).length = n := by rfl) (hst : (assignEach es X.env).findIdx? (·.1) = none := by rfl) : DG X (.Tuple es k pos) (gTup X.K n t) (gT n w) := ⟨pg_tup hc h.p hn hst, sg_tup h.s⟩
theorem ds_set (i : Nat) {x : Str} {e : Expr} {te : TE} {we : WE} {pos' : Pos} (hN : X.N.Nodup) (he : DE X W e te we) (hi : X.N[i]? = some x := by rfl) (hx : Loc X.env.scope x := by first | exact .inl rfl | exact .inr rfl) (hs : swapsWith e (some (.Name x pos')) pos.line X.env = pure false := by rfl) (hf : X.fn x = true ∨ X.env.scope.names.lookup x = some .local := by first | exact .inl rfl | exact .inr rfl) :
    DS X W (.Assign [.Name x pos'] e pos) (tAsg te (gName i)) (wAsg we (gN i)) := ⟨ps_set hN hi hx he.p hs hf, ss_asg he.s (sg_name i)⟩
theorem ds_put (i : Nat) {x : Str} {ix e : Expr} {p1 p2 : Pos} {ti te : TE} {wi we : WE} (hix : DE X W ix ti wi) (he : DE X W e te we) (hN : X.N[i]? = some x := by rfl) (hv : Vis X.env.scope x := by first | exact Or.inl rfl | exact Or.inr (Or.inl rfl) | exact Or.inr (Or.inr rfl))
    (hd : (x == ("__debug__" : Str)) = false := by decide) (hcd : (x == ("__classdict__" : Str)) = false := by decide)
    (ha : ∀ v, assign (.Subscript (.Name x p1) ix p2) X.env v = (do
      let ov ← holding [v] (eval (.Name x p1) X.env)
      let iv ← holding [v, ov] (eval ix X.env)
      standAt p2
      holding [v, ov, iv] (setItem ov iv v)
      release [v, ov, iv] []) := by intro _; rfl)
    (hs : swapsWithSole [.Subscript (.Name x p1) ix p2] e pos.line X.env = pure false := by rfl) (hw : swappedStores [.Subscript (.Name x p1) ix p2] e X.env = pure none := by rfl)
    (h1 : (assignEach [.Subscript (.Name x p1) ix p2] X.env).map (·.2) = [assign (.Subscript (.Name x p1) ix p2) X.env] := by rfl) :
    DS X W (.Assign [.Subscript (.Name x p1) ix p2] e pos) (tAsg te (gSub (tVar i) ti rSetL)) (wSet i wi we) := ⟨ps_asg he.p (pg_sub (pe_var hN hv hd hcd) hix.p set_list ha) hs hw h1, ss_set hix.s he.s⟩
def wAug (i : Nat) (p : P2) (we : WE) : WS := fun e r om => (∃ d, r[i]? = some (some (.v d))) ∧ we e.xq r om fun y r1 om1 => wd (datB r1 om1 (.b i)) fun d => wd (datB r1 om1 y) fun f => p d f fun z => noB z ∧ i < r1.length ∧ e.nx (r1.set i (some z)) om1
theorem ds_for {tg iter : Expr} {body : List Stmt} {ti : TI} {wi : WI} {g : TG} {w : GT} {tb : TS} {wb : WS} (hp : PassesOwn (model X.prog X.w) X.A X.env X.xe) (hc : X.calm = true) (hi : DI X W tg iter ti wi) (hg : DG X tg g w) (hb : DSs X W body tb wb)
    (hs : ∀ x, foldedSetIterable iter X.env x = pure x := by intro _; rfl) : DS X W (.For tg iter body [] pos) (tFor ti g tb) (wFor wi w wb) := ⟨ps_for hp hc hi.p hg.p hb.p hs, ss_for hi.s hg.s hb.s⟩
theorem ds_while {c : Expr} {body : List Stmt} {tt : TT} {wt : WT} {tb : TS} {wb : WS} (hp : PassesOwn (model X.prog X.w) X.A X.env X.xe) (hc : DT X W c tt wt) (hb : DSs X W body tb wb) : DS X W (.While c body [] pos) (tWhile tt tb) (wWhile wt wb) := ⟨ps_while hp hc.p hb.p, ss_while hc.s hb.s⟩
def wNever : WS := fun _ _ _ => False
theorem di_r1 {tg a : Expr} {ta : TA} {wa : WA} {p' : Pos} (hm : X.mg "range" = none) (ha : DA X W [a] ta wa) (hg : Gl X "range" := by rfl) (hs : starEach [a] X.env = [(false, eval a X.env)] := by rfl) : DI X W tg (.Call (.Name "range" p') [a] [] pos) (iRng1 ta) (wiR1 wa) := ⟨pi_range1 hg hm ha.p hs, si_r1 ha.s⟩
abbrev W0 : WX := fun _ _ _ _ => False
theorem dts_nil : DTs X W [] tYes wYes := ⟨pts_nil, st_yes⟩
theorem dts_one {c : Expr} {t : TT} {w : WT} (h : DT X W c t w) : DTs X W [c] t w := ⟨pts_one h.p, h.s⟩
structure DGv (X : Cx) (vs : List Nat) (e : Expr) (t : TG) (w : GT) : Prop where
  p : PG X e t
  s : SGv X.K vs t w
theorem dgv_name (i : Nat) {vs : List Nat} {x : Str} (hN : X.N.Nodup) (hm : i ∈ vs := by decide) (hi : X.N[i]? = some x := by rfl) (hx : Loc X.env.scope x := by first | exact .inl rfl | exact .inr rfl) (hf : X.fn x = true ∨ X.env.scope.names.lookup x = some .local := by first | exact .inl rfl | exact .inr rfl) : DGv X vs (.Name x pos) (gName i) (gN i) := ⟨pg_name hN hi hx hf, sgv_name i hm⟩
structure DGvs (X : Cx) (vs : List Nat) (e : List Expr) (t : TGs) (w : GTs) : Prop where
  p : PGs X e t
  s : SGvs X.K vs t w
theorem de_lc {elt tg iter : Expr} {ifs : List Expr} {scope : Scope} {own : List (Str × Nat)} {ti : TI} {wi : WI} {g : TG} {gw : GT} {tt : TT} {wt : WT} {te : TE} {we : WE} (hc : X.calm = true) (hN : X.N.Nodup) (hi : DI X W tg iter ti wi) (ok : blkC X.N X.env.scope scope own = true)
    (hg : ∀ (s : Shared) (H : Hp) (C : Addr) (cl : List (Str × Addr)) (fp : List Addr), DGv (X.blk s H scope (PySem.compEnvC scope cl C X.env) fp) (own.map (·.2)) tg g gw)
    (ht : ∀ (s : Shared) (H : Hp) (C : Addr) (cl : List (Str × Addr)) (fp : List Addr), DTs (X.blk s H scope (PySem.compEnvC scope cl C X.env) fp) W0 ifs tt wt)
    (he : ∀ (s : Shared) (H : Hp) (C : Addr) (cl : List (Str × Addr)) (fp : List Addr), DE (X.blk s H scope (PySem.compEnvC scope cl C X.env) fp) W0 elt te we) (s0 : Shared) (hs : ∀ x, foldedSetIterable iter X.env x = pure x := by intro _; rfl) :
    DE X W (.ListComp elt [⟨tg, iter, ifs, 0⟩] scope pos) (tLc ti g tt te (own.map (·.2))) (wLc wi gw wt we (own.map (·.2))) :=
  ⟨pe_lc hc hN hi.p (blkOk_by ok) (fun s H C cl fp => (hg s H C cl fp).p) (fun s H C cl fp => (ht s H C cl fp).p) (fun s H C cl fp => (he s H C cl fp).p) hs,
    se_lc hi.s (hg s0 (fun _ => none) 0 [] []).s (ht s0 (fun _ => none) 0 [] []).s (he s0 (fun _ => none) 0 [] []).s⟩
end
def Def (P : Program) (w : World) (K : PySem.W.Frag) (mg : Str → Option Value) (base : Heap) (x : Str) (c : Con) (k : Nat) : Prop :=
  ∃ (a : Addr) (fd : FuncData) (ps : List Str), GFn P w K mg base (L2.CX P w) k a fd ps (toSp K c) ∧ mg x = some (.ref a) ∧ PySem.W.keepIn K (.ref a) = true ∧ Binds K fd ps []
section
variable {X : Cx} {W : WX} {pos : Pos}
theorem de_call {x : Str} {c : Con} {k : Nat} {e : Expr} {es : List Expr} {p' : Pos} {t : TA} {w : WA} (F : Def X.prog X.w X.K X.mg X.base x c k) (hr : GRoom k X.A) (tk : Takes X W) (ha : DA X W (e :: es) t w) (hg : Gl X x := by rfl) (hdb : (x == ("__debug__" : Str)) = false := by decide)
    (he : starEach (e :: es) X.env = (false, eval e X.env) :: starEach es X.env := by rfl) (hpl : (backTo pos (starEach es X.env)).any (·.1) = false := by rfl) :
    DE X W (.Call (.Name x p') (e :: es) [] pos) (tCallSD (toSp X.K c) [] (L2.WE W) t) (wCall c.df [] w) :=
  ⟨let ⟨_, _, _, h1, h2, h3, h4⟩ := F; pe_callG h1 hr hg h2 h3 h4 .nil (fun σ => passAt tk σ) ha.p hdb he hpl, se_call ha.s fun _ => .nil⟩
end
theorem fn_ok {P : Program} {w : World} {K : PySem.W.Frag} {mg : Str → Option Value} {base : Heap} {x qual : Str} {params : Arguments} {body : List Stmt} {scope : Scope} {dvs : List V} {kws : List (Str × V)} {f : Addr} {fd : FuncData} {N ps : List Str} {k : Nat} {c : Con} {ws : WS}
    (F : FunD K x qual params body scope dvs kws f fd) (S : FnScope N ps scope) (hn : ps.length = c.n)
    (hb : ∀ (cdv : Value) (A : Around) (outer : List PySem.Env) (s : Shared) (H : Hp) (E : XK), GRoom k (A.deeper (PyProof.Rows.envOfC qual scope s.heap.objs.size f cdv)) →
      ∃ t, DSs (cxOf (L2.CX P w) P w K mg base N qual scope f cdv A outer s H E) (fun cls d _ H => E cls d H) body t ws)
    (hw : ∀ ds om k xk, c.df ds om k xk → ws (endOf k xk) (startE N.length ds) om) : GFn P w K mg base (L2.CX P w) (k + 1) f fd ps (toSp K c) :=
  okG F S (fun vs H Q E h => (toSp_len h).trans hn.symm) fun cdv A outer s H vs Q E hr h => by
    obtain ⟨t, ht⟩ := hb cdv A outer s H E hr
    exact ⟨t, ht.p, body_ok ht.s hw h⟩
end DL

set_option Elab.async false
set_option linter.all false
set_option maxRecDepth 100000
namespace DL
open PySem L2
section
variable {X : Cx} {K : PySem.W.Frag} {F H : Hp}
theorem vres {F H : Hp} {d : D} {v : V} {c : RV → Prop} {Q : VK} (s : Same F H) (h : Rep K F v d) (hc : c (.v d)) (hQ : ∀ z v F' H', Grow F H F' H' → ResP K F' H H' v z → c z → Q v H') : Q v H := hQ (.v d) v F H (Grow.refl s) h hc
theorem lres {F H : Hp} {ds : List D} {xs : List V} {c : RV → Prop} {Q : VK} (s : Same F H) (h : RepA K F xs ds) (hc : c (.o ds)) (hQ : ∀ z v F' H', Grow F H F' H' → ResP K F' H H' v z → c z → Q v H') : ∀ p, H p = none → Q (.ref p) (upd H p (.lst xs)) :=
  fun p hp => hQ (.o ds) (.ref p) F _ (Grow.allocO s hp) (ResP.newL s hp h) hc
theorem tres {F H : Hp} {ds : List D} {xs : List V} {c : RV → Prop} {Q : VK} (s : Same F H) (h : RepA K F xs ds) (hc : c (.v (.tup ds))) (hQ : ∀ z v F' H', Grow F H F' H' → ResP K F' H H' v z → c z → Q v H') : ∀ p, H p = none → Q (.ref p) (upd H p (.tup xs)) :=
  fun p hp => hQ (.v (.tup ds)) (.ref p) _ _ (Grow.alloc s hp) (ResP.newT s hp h) hc
def pI (C : Int → Int → Prop) (g : Int → Int → D) : P2 := fun d e c => match d, e with
  | .int i, .int j => C i j ∧ c (.v (g i j))
  | _, _ => False
@[simp] theorem pI_int (C : Int → Int → Prop) (g : Int → Int → D) (i j : Int) (c : RV → Prop) : pI C g (.int i) (.int j) c = (C i j ∧ c (.v (g i j))) := rfl
def pI0 (g : Int → Int → D) : P2 := fun d e c => match d, e with
  | .int i, .int j => c (.v (g i j))
  | _, _ => False
@[simp] theorem pI0_int (g : Int → Int → D) (i j : Int) (c : RV → Prop) : pI0 g (.int i) (.int j) c = c (.v (g i j)) := rfl
theorem s_rI {C C' : Int → Int → Prop} {g : Int → Int → V} {gd : Int → Int → D} (hC : ∀ i j, C i j → C' i j) (hg : ∀ i j F, Rep K F (g i j) (gd i j)) : S2 K (rI C' g) (pI C gd) := fun F H x y d e c Q s rx ry hp hQ => by
  cases d with
  | int i =>
    cases e with
    | int j => exact ⟨i, j, rx.intS, ry.intS, hC i j hp.1, vres s (hg i j F) hp.2 hQ⟩
    | _ => exact hp.elim
  | _ => exact hp.elim
theorem s_rI0 {g : Int → Int → V} {gd : Int → Int → D} (hg : ∀ i j F, Rep K F (g i j) (gd i j)) : S2 K (rI0 g) (pI0 gd) := fun F H x y d e c Q s rx ry hp hQ => by
  cases d with
  | int i =>
    cases e with
    | int j => exact ⟨i, j, rx.intS, ry.intS, vres s (hg i j F) hp hQ⟩
    | _ => exact hp.elim
  | _ => exact hp.elim
def pAdd : P2 := fun d e c => match d, e with
  | .int i, .int j => c (.v (.int (i + j)))
  | .lst xs, .lst ys => xs.length + ys.length ≤ sizeLine ∧ c (.o (xs ++ ys))
  | .tup xs, .tup ys => xs.length + ys.length ≤ sizeLine ∧ c (.v (.tup (xs ++ ys)))
  | .str a, .str b => a.length + b.length ≤ sizeLine ∧ c (.v (.str (a ++ b)))
  | _, _ => False
@[simp] theorem pAdd_int (i j : Int) (c : RV → Prop) : pAdd (.int i) (.int j) c = c (.v (.int (i + j))) := rfl
@[simp] theorem pAdd_lst (i j : List D) (c : RV → Prop) : pAdd (.lst i) (.lst j) c = (i.length + j.length ≤ sizeLine ∧ c (.o (i ++ j))) := rfl
@[simp] theorem pAdd_tup (i j : List D) (c : RV → Prop) : pAdd (.tup i) (.tup j) c = (i.length + j.length ≤ sizeLine ∧ c (.v (.tup (i ++ j)))) := rfl
@[simp] theorem pAdd_str (i j : Str) (c : RV → Prop) : pAdd (.str i) (.str j) c = (i.length + j.length ≤ sizeLine ∧ c (.v (.str (i ++ j)))) := rfl
abbrev rStr : R2 := fun x y H Q => ∃ i j, x = .str i ∧ y = .str j ∧ i.length + j.length ≤ sizeLine ∧ Q (.str (i ++ j)) H
abbrev rAddD (K : PySem.W.Frag) : R2 := fun x y H Q => rI0 (fun i j => .int (i + j)) x y H Q ∨ rCat x y H Q ∨ rCatA K x y H Q ∨ rStr x y H Q
theorem o_add : O2 X (binaryOp .Add) (rAddD X.K) pAdd := ⟨OpR.or op_add (OpR.or op_cat (OpR.or op_catA op_add_str)), fun F H x y d e c Q s rx ry hp hQ => by
  cases d with
  | int i =>
    cases e with
    | int j => exact .inl ⟨i, j, rx.intS, ry.intS, vres s (.int _) hp hQ⟩
    | _ => exact hp.elim
  | lst ds =>
    cases e with
    | lst es =>
      obtain ⟨a, xs, rfl, h1, h2⟩ := rx.lstS s
      obtain ⟨b, ys, rfl, h3, h4⟩ := ry.lstS s
      exact .inr (.inl ⟨a, b, xs, ys, rfl, rfl, h1, h3, by rw [h2.length, h4.length]; exact hp.1, lres s (h2.append h4) hp.2 hQ⟩)
    | _ => exact hp.elim
  | tup ds =>
    cases e with
    | tup es =>
      obtain ⟨hl, hc⟩ := hp
      have rx' : Rep X.K F x (.tup ds) := by
        rcases rx with h | ⟨a, xs, es, e1, e2, h1, h2⟩
        · exact h
        · cases e2
      have ry' : Rep X.K F y (.tup es) := by
        rcases ry with h | ⟨a, xs, es, e1, e2, h1, h2⟩
        · exact h
        · cases e2
      obtain ⟨a, xs, rfl, h1, h2⟩ := rx.tupS s
      obtain ⟨b, ys, rfl, h3, h4⟩ := ry.tupS s
      refine .inr (.inr (.inl ⟨a, b, xs, ys, rfl, rfl, h1, h3, by rw [h2.length, h4.length]; exact hl, fun z => ?_, fun _ z => ?_, fun _ _ => tres s (h2.append h4) hc hQ⟩))
      · subst z
        cases h2
        exact vres s ry' hc hQ
      · subst z
        cases h4
        rw [List.append_nil] at hc
        exact vres s rx' hc hQ
    | _ => exact hp.elim
  | str a =>
    cases e with
    | str b => exact .inr (.inr (.inr ⟨a, b, rx.strS, ry.strS, hp.1, vres s (.str _) hp.2 hQ⟩))
    | _ => exact hp.elim
  | _ => exact hp.elim⟩
def pSub : P2 := pI0 fun i j => .int (i - j)
theorem pSub_i (i j : Int) (c : RV → Prop) : pSub (.int i) (.int j) c = c (.v (.int (i - j))) := rfl
theorem o_sub : O2 X (binaryOp .Sub) (rI0 fun i j => .int (i - j)) pSub := ⟨op_sub, s_rI0 fun _ _ _ => .int _⟩
def mulOk (i j : Int) : Prop := (-(2 ^ 64) < i ∧ i < 2 ^ 64) ∨ (-(2 ^ 64) < j ∧ j < 2 ^ 64) ∨ CMulW i j
def pMul : P2 := fun d e c => match d, e with
  | .int i, .int j => mulOk i j ∧ c (.v (.int (i * j)))
  | .lst xs, .int k => -(2 ^ 63) ≤ k ∧ k < 2 ^ 63 ∧ xs.length * k.toNat ≤ sizeLine ∧ c (.o (List.replicate k.toNat xs).flatten)
  | .tup xs, .int k => xs ≠ [] ∧ 2 ≤ k ∧ k ≤ 1000 ∧ xs.length ≤ 1000 ∧ c (.v (.tup (List.replicate k.toNat xs).flatten))
  | _, _ => False
@[simp] theorem pMul_int (i j : Int) (c : RV → Prop) : pMul (.int i) (.int j) c = (mulOk i j ∧ c (.v (.int (i * j)))) := rfl
@[simp] theorem pMul_lst (xs : List D) (k : Int) (c : RV → Prop) : pMul (.lst xs) (.int k) c = (-(2 ^ 63) ≤ k ∧ k < 2 ^ 63 ∧ xs.length * k.toNat ≤ sizeLine ∧ c (.o (List.replicate k.toNat xs).flatten)) := rfl
@[simp] theorem pMul_tup (xs : List D) (k : Int) (c : RV → Prop) : pMul (.tup xs) (.int k) c = (xs ≠ [] ∧ 2 ≤ k ∧ k ≤ 1000 ∧ xs.length ≤ 1000 ∧ c (.v (.tup (List.replicate k.toNat xs).flatten))) := rfl
abbrev rMulD (K : PySem.W.Frag) : R2 := fun x y H Q => rI CMul (fun i j => .int (i * j)) x y H Q ∨ rI CMulW (fun i j => .int (i * j)) x y H Q ∨ rRep x y H Q ∨ rRepT K x y H Q
theorem o_mul : O2 X (binaryOp .Mult) (rMulD X.K) pMul := ⟨OpR.or op_mul (OpR.or op_mulW (OpR.or op_rep op_repT)), fun F H x y d e c Q s rx ry hp hQ => by
  cases d with
  | int i =>
    cases e with
    | int j =>
      obtain ⟨h, hc⟩ := hp
      rcases h with h | h | h
      · exact .inl ⟨i, j, rx.intS, ry.intS, .inl h, vres s (.int _) hc hQ⟩
      · exact .inl ⟨i, j, rx.intS, ry.intS, .inr h, vres s (.int _) hc hQ⟩
      · exact .inr (.inl ⟨i, j, rx.intS, ry.intS, h, vres s (.int _) hc hQ⟩)
    | _ => exact hp.elim
  | lst ds =>
    cases e with
    | int k =>
      obtain ⟨a, xs, rfl, h1, h2⟩ := rx.lstS s
      obtain ⟨q1, q2, q3, hc⟩ := hp
      exact .inr (.inr (.inl ⟨a, k, xs, rfl, ry.intS, h1, q1, q2, by rw [h2.length]; exact q3, lres s (h2.flat _) hc hQ⟩))
    | _ => exact hp.elim
  | tup ds =>
    cases e with
    | int k =>
      obtain ⟨a, xs, rfl, h1, h2⟩ := rx.tupS s
      obtain ⟨q0, q1, q2, q3, hc⟩ := hp
      exact .inr (.inr (.inr ⟨a, k, xs, rfl, ry.intS, h1, fun z => (by subst z; cases h2; exact q0 rfl), q1, q2, by rw [h2.length]; exact q3, tres s (h2.flat _) hc hQ⟩))
    | _ => exact hp.elim
  | _ => exact hp.elim⟩
theorem divOk {i j : Int} (h : 0 < j ∧ j < 2 ^ 200) : CDivW i j := wide_div (b := 200) h.1 (by omega) (by decide) (by decide)
def pDiv : P2 := pI (fun _ j => 0 < j ∧ j < 2 ^ 200) fun i j => .int (i / j)
theorem pDiv_i (i j : Int) (c : RV → Prop) : pDiv (.int i) (.int j) c = ((0 < j ∧ j < 2 ^ 200) ∧ c (.v (.int (i / j)))) := rfl
theorem o_div : O2 X (binaryOp .FloorDiv) (rI CDivW fun i j => .int (i / j)) pDiv := ⟨op_fdivW, s_rI (fun _ _ h => divOk h) fun _ _ _ => .int _⟩
def pMod : P2 := pI (fun _ j => 0 < j) fun i j => .int (i % j)
theorem pMod_i (i j : Int) (c : RV → Prop) : pMod (.int i) (.int j) c = (0 < j ∧ c (.v (.int (i % j)))) := rfl
theorem o_mod : O2 X (binaryOp .Mod) (rI (fun _ j => 0 < j) fun i j => .int (i % j)) pMod := ⟨op_mod, s_rI (fun _ _ h => h) fun _ _ _ => .int _⟩
def pPow : P2 := pI (fun i j => 0 ≤ j ∧ j ≤ 1000000 ∧ i.natAbs < 2 ^ 64) fun i j => .int (i ^ j.toNat)
theorem pPow_i (i j : Int) (c : RV → Prop) : pPow (.int i) (.int j) c = ((0 ≤ j ∧ j ≤ 1000000 ∧ i.natAbs < 2 ^ 64) ∧ c (.v (.int (i ^ j.toNat)))) := rfl
theorem o_pow : O2 X (binaryOp .Pow) (rI CPow fun i j => .int (i ^ j.toNat)) pPow := ⟨op_pow, s_rI (fun _ _ h => h) fun _ _ _ => .int _⟩
def pShl : P2 := pI (fun i j => 0 ≤ j ∧ j ≤ 1000000 ∧ i.natAbs < 2 ^ 64) fun i j => .int (i * 2 ^ j.toNat)
def pAddI : P2 := pI0 fun i j => .int (i + j)
def pDivI : P2 := pI (fun _ j => 0 < j ∧ j < 1073741824) fun i j => .int (i / j)
abbrev pLt : P2 := pI0 fun i j => .bl (decide (i < j))
abbrev pLe : P2 := pI0 fun i j => .bl (decide (i ≤ j))
abbrev pGt : P2 := pI0 fun i j => .bl (decide (j < i))
abbrev pGe : P2 := pI0 fun i j => .bl (decide (j ≤ i))
mutual
def py : D → PyData
  | .non => .none
  | .bl b => .bool b
  | .int i => .int i
  | .str x => .str x
  | .tup ds => .tuple (pys ds)
  | .lst ds => .list (pys ds)
  | .frl ds => .list (pys ds)
  | _ => .none
def pys : List D → List PyData
  | [] => []
  | d :: ds => py d :: pys ds
end
mutual
def okPy : D → Bool
  | .non => true
  | .bl _ => true
  | .int _ => true
  | .str _ => true
  | .tup ds => okPys ds
  | .lst ds => okPys ds
  | .frl ds => okPys ds
  | _ => false
def okPys : List D → Bool
  | [] => true
  | d :: ds => okPy d && okPys ds
end
mutual
theorem Rep.dp (s : Same F H) : ∀ {v : V} {d : D}, Rep K F v d → okPy d = true → Dp K H v (py d)
  | _, _, .non, _ => by simp only [py]; exact .non
  | _, _, .bl b, _ => by simp only [py]; exact .bl b
  | _, _, .int i, _ => by simp only [py]; exact .int i
  | _, _, .str x, _ => by simp only [py]; exact .str x
  | _, _, .tup h r, e => by simp only [py]; exact .tup (same_sqT s h.sq) (RepA.dp s r (by simpa [okPy] using e))
  | _, _, .lst h r, e => by simp only [py]; exact .lst (SqL.of (s _ _ h)) (RepA.dp s r (by simpa [okPy] using e))
  | _, _, .frl h r, e => by simp only [py]; exact .lst (s.seq h) (RepA.dp s r (by simpa [okPy] using e))
  | _, _, .dct _ _ _, e => by simp [okPy] at e
  | _, _, .raw _, e => by simp [okPy] at e
  | _, _, .h _, e => by simp [okPy] at e
  | _, _, .exc0 _, e => by simp [okPy] at e
  | _, _, .exc1 _ _ _, e => by simp [okPy] at e
  | _, _, .fn _, e => by simp [okPy] at e
theorem RepA.dp (s : Same F H) : ∀ {vs : List V} {ds : List D}, RepA K F vs ds → okPys ds = true → DpAll K H vs (pys ds)
  | _, _, .nil, _ => by simp only [pys]; exact .nil
  | _, _, .cons r t, e => by
    have e' := Bool.and_eq_true_iff.mp (by simpa only [okPys] using e)
    simp only [pys]; exact .cons (Rep.dp s r e'.1) (RepA.dp s t e'.2)
end
theorem RepB.dp (s : Same F H) {y : V} {d : D} (h : RepB K F H y d) (e : okPy d = true) : Dp K H y (py d) := by
  rcases h with h | ⟨a, xs, ds, rfl, rfl, h1, h2⟩
  · exact h.dp s e
  · simp only [py]
    exact .lst (SqL.of h1) (h2.dp s (by simpa [okPy] using e))
def eqD (d e : D) : Bool := PyData.eqv (py d) (py e)
def okE (d : D) : Prop := okPy d = true ∧ SeqAt.shaped (py d) = true
def pEq : P2 := fun d e c => match d, e with
  | .int i, .int j => c (.v (.bl (decide (i = j))))
  | .str i, .str j => c (.v (.bl (decide (i = j))))
  | d, e => okE d ∧ okE e ∧ c (.v (.bl (eqD d e)))
def pNe : P2 := fun d e c => match d, e with
  | .int i, .int j => c (.v (.bl (!decide (i = j))))
  | .str i, .str j => c (.v (.bl (!decide (i = j))))
  | d, e => okE d ∧ okE e ∧ c (.v (.bl (!eqD d e)))
@[simp] theorem pEq_int (i j : Int) (c : RV → Prop) : pEq (.int i) (.int j) c = c (.v (.bl (decide (i = j)))) := rfl
@[simp] theorem pNe_int (i j : Int) (c : RV → Prop) : pNe (.int i) (.int j) c = c (.v (.bl (!decide (i = j)))) := rfl
@[simp] theorem pEq_str (i j : Str) (c : RV → Prop) : pEq (.str i) (.str j) c = c (.v (.bl (decide (i = j)))) := rfl
@[simp] theorem pNe_str (i j : Str) (c : RV → Prop) : pNe (.str i) (.str j) c = c (.v (.bl (!decide (i = j)))) := rfl
@[simp] theorem pEq_lst (i j : List D) (c : RV → Prop) : pEq (.lst i) (.lst j) c = (okE (.lst i) ∧ okE (.lst j) ∧ c (.v (.bl (eqD (.lst i) (.lst j))))) := rfl
@[simp] theorem pNe_lst (i j : List D) (c : RV → Prop) : pNe (.lst i) (.lst j) c = (okE (.lst i) ∧ okE (.lst j) ∧ c (.v (.bl (!eqD (.lst i) (.lst j))))) := rfl
@[simp] theorem pEq_tup (i j : List D) (c : RV → Prop) : pEq (.tup i) (.tup j) c = (okE (.tup i) ∧ okE (.tup j) ∧ c (.v (.bl (eqD (.tup i) (.tup j))))) := rfl
@[simp] theorem pNe_tup (i j : List D) (c : RV → Prop) : pNe (.tup i) (.tup j) c = (okE (.tup i) ∧ okE (.tup j) ∧ c (.v (.bl (!eqD (.tup i) (.tup j))))) := rfl
abbrev rEqA (K : PySem.W.Frag) : R2 := fun x y H Q => rEq x y H Q ∨ rEqD K x y H Q
abbrev rNeA (K : PySem.W.Frag) : R2 := fun x y H Q => rNe x y H Q ∨ rNeD K x y H Q
theorem o_eq {k : Nat} (hr : GRoom k X.A) : O2 X (compareOp .Eq) (rEqA X.K) pEq := ⟨OpR.or op_eq (op_eqD hr.units), fun F H x y d e c Q s rx ry hp hQ => by
  unfold pEq at hp
  split at hp
  · next i j =>
    obtain rfl := rx.intS
    obtain rfl := ry.intS
    refine .inl ⟨rfl, ?_⟩
    have e : decide (V.int i = V.int j) = decide (i = j) := by simp
    rw [e]
    exact vres s (.bl _) hp hQ
  · next i j =>
    obtain rfl := rx.strS
    obtain rfl := ry.strS
    refine .inl ⟨rfl, ?_⟩
    have e : decide (V.str i = V.str j) = decide (i = j) := by simp
    rw [e]
    exact vres s (.bl _) hp hQ
  · exact .inr ⟨py d, py e, rx.dp s hp.1.1, ry.dp s hp.2.1.1, hp.1.2, hp.2.1.2, vres s (.bl _) hp.2.2 hQ⟩⟩
theorem o_ne {k : Nat} (hr : GRoom k X.A) : O2 X (compareOp .NotEq) (rNeA X.K) pNe := ⟨OpR.or op_ne (op_neD hr.units), fun F H x y d e c Q s rx ry hp hQ => by
  unfold pNe at hp
  split at hp
  · next i j =>
    obtain rfl := rx.intS
    obtain rfl := ry.intS
    refine .inl ⟨rfl, ?_⟩
    have e : decide (V.int i = V.int j) = decide (i = j) := by simp
    rw [e]
    exact vres s (.bl _) hp hQ
  · next i j =>
    obtain rfl := rx.strS
    obtain rfl := ry.strS
    refine .inl ⟨rfl, ?_⟩
    have e : decide (V.str i = V.str j) = decide (i = j) := by simp
    rw [e]
    exact vres s (.bl _) hp hQ
  · exact .inr ⟨py d, py e, rx.dp s hp.1.1, ry.dp s hp.2.1.1, hp.1.2, hp.2.1.2, vres s (.bl _) hp.2.2 hQ⟩⟩
def lenD : D → Option Nat
  | .lst ds => some ds.length
  | .frl ds => some ds.length
  | .tup ds => some ds.length
  | .str x => if x.length ≤ sizeLine then some x.length else none
  | _ => none
def one (ds : List D) : Option D := match ds with
  | [d] => some d
  | _ => none
theorem one_inv {ds : List D} {d : D} (h : one ds = some d) : ds = [d] := by
  unfold one at h
  split at h
  · cases h; rfl
  · cases h
@[simp] theorem one_one (d : D) : one [d] = some d := rfl
def pLen : PN := fun ds c => wd (one ds) fun d => wd (lenD d) fun n => c (.v (.int n))
theorem n_len : ON X (.builtin "len") (fun xs H Q => ∃ x n, xs = [x] ∧ LenV X.K x H n ∧ Q (.int n) H) pLen := ⟨call_len, fun F H xs ds c Q s r hp hQ => by
  obtain ⟨d, e, hp1⟩ := wd_iff hp
  obtain ⟨n, e2, hp2⟩ := wd_iff hp1
  have e0 := one_inv e
  rw [e0] at r
  obtain ⟨y, ey, r1⟩ := repBs1 r
  subst ey
  refine ⟨y, n, rfl, ?_, vres s (.int _) hp2 hQ⟩
  cases d with
  | lst ds =>
    obtain ⟨a, xs, rfl, h1, h2⟩ := r1.lstS s
    cases e2
    exact .inl ⟨xs, SqL.of h1, h2.length.symm⟩
  | frl ds =>
    obtain ⟨a, xs, rfl, h1, h2⟩ := r1.frlS s
    cases e2
    exact .inl ⟨xs, h1, h2.length.symm⟩
  | tup ds =>
    obtain ⟨a, xs, rfl, h1, h2⟩ := r1.tupS s
    cases e2
    exact .inr ⟨xs, h1, h2.length.symm⟩
  | str x =>
    obtain rfl := r1.strS
    simp only [lenD] at e2
    by_cases hx : x.length ≤ sizeLine
    · rw [if_pos hx] at e2; cases e2; exact ⟨hx, rfl⟩
    · rw [if_neg hx] at e2; cases e2
  | _ => cases e2⟩
def tyD : D → Option String
  | .non => some "NoneType"
  | .bl _ => some "bool"
  | .int _ => some "int"
  | .str _ => some "str"
  | .tup _ => some "tuple"
  | .lst _ => some "list"
  | .frl _ => some "list"
  | .dct _ _ => some "dict"
  | _ => none
def isiD (t n : String) : Option Bool :=
  if n = "int" then some (t == "int" || t == "bool") else if n = "bool" then some (t == "bool") else if n = "str" then some (t == "str")
  else if n = "list" then some (t == "list") else if n = "tuple" then some (t == "tuple") else if n = "dict" then some (t == "dict") else none
def pIsi : PN := fun ds c => match ds with
  | [d, .raw (.ty n)] => wd (tyD d) fun t => wd (isiD t n) fun b => c (.v (.bl b))
  | _ => False
theorem kit_all : ∀ t ∈ ["NoneType", "bool", "int", "str", "tuple", "list", "dict"], ∀ n ∈ ["int", "bool", "str", "list", "tuple", "dict"], kitB t n = isiD t n := by decide +kernel
theorem tyD_mem {d : D} {t : String} (h : tyD d = some t) : t ∈ ["NoneType", "bool", "int", "str", "tuple", "list", "dict"] := by
  cases d <;> cases h <;> simp
theorem isiD_mem {t n : String} {b : Bool} (h : isiD t n = some b) : n ∈ ["int", "bool", "str", "list", "tuple", "dict"] := by
  unfold isiD at h
  simp only [List.mem_cons, List.not_mem_nil, or_false]
  repeat' (split at h; · simp_all)
  cases h
theorem RepB.rawS {y v : V} (h : RepB K F H y (.raw v)) : y = v := by
  rcases h with h | ⟨a, xs, es, e1, e2, h1, h2⟩
  · cases h; rfl
  · cases e2
theorem sqL_ty {a : Addr} {xs : List V} (h : SqL K H a xs) : TyX K H (.ref a) (.type "list") := by
  rcases h with (h | ⟨o, h⟩) | ⟨o, its, n, hk, hc, _⟩
  · exact .base (.lst h)
  · exact .base (.frz h)
  · exact .kList hk hc
theorem sqT_ty {a : Addr} {xs : List V} (h : SqT K H a xs) : TyX K H (.ref a) (.type "tuple") := by
  rcases h with (h | ⟨o, h⟩) | ⟨o, its, n, hk, hc, _⟩
  · exact .base (.tup h)
  · exact .fTuple h
  · exact .kTuple hk hc
theorem RepB.ty (s : Same F H) {y : V} {d : D} {t : String} (r : RepB K F H y d) (e : tyD d = some t) : TyX K H y (.type t) := by
  cases d with
  | non => cases e; obtain rfl := r.nonS; exact .base .non
  | bl b => cases e; obtain rfl := r.blS; exact .base (.bl b)
  | int b => cases e; obtain rfl := r.intS; exact .base (.int b)
  | str b => cases e; obtain rfl := r.strS; exact .base (.str b)
  | tup ds => cases e; obtain ⟨a, xs, rfl, h1, h2⟩ := r.tupS s; exact sqT_ty h1
  | lst ds => cases e; obtain ⟨a, xs, rfl, h1, h2⟩ := r.lstS s; exact .base (.lst h1)
  | frl ds => cases e; obtain ⟨a, xs, rfl, h1, h2⟩ := r.frlS s; exact sqL_ty h1
  | dct ks ds =>
    cases e
    rcases r with h | ⟨a, xs, es, e1, e2, h1, h2⟩
    · cases h with
      | dct h1 _ _ => exact .base (.dK (s _ _ h1))
    · cases e2
  | _ => cases e
theorem n_isi : ON X (.builtin "isinstance") (rIsi X.K) pIsi := ⟨call_isi, fun F H xs ds c Q s r hp hQ => by
  unfold pIsi at hp
  split at hp
  · next d n =>
    obtain ⟨t, e1, hp⟩ := wd_iff hp
    obtain ⟨b, e2, hp⟩ := wd_iff hp
    obtain ⟨y, z, rfl, r1, r2⟩ := repBs2 r
    obtain rfl := r2.rawS
    exact ⟨y, .ty n, .type t, .type n, b, rfl, .ty n, r1.ty s e1, kit_ty ((kit_all t (tyD_mem e1) n (isiD_mem e2)).trans e2), vres s (.bl _) hp hQ⟩
  · exact hp.elim⟩
def seqD : D → Option (List D)
  | .lst ds => some ds
  | .frl ds => some ds
  | .tup ds => some ds
  | _ => none
theorem RepB.seqS (s : Same F H) {y : V} {d : D} {ds : List D} (r : RepB K F H y d) (e : seqD d = some ds) : ∃ a xs, y = .ref a ∧ (SqL K H a xs ∨ SqT K H a xs) ∧ RepA K F xs ds := by
  cases d with
  | lst ds => cases e; obtain ⟨a, xs, rfl, h1, h2⟩ := r.lstS s; exact ⟨a, xs, rfl, .inl (SqL.of h1), h2⟩
  | frl ds => cases e; obtain ⟨a, xs, rfl, h1, h2⟩ := r.frlS s; exact ⟨a, xs, rfl, .inl h1, h2⟩
  | tup ds => cases e; obtain ⟨a, xs, rfl, h1, h2⟩ := r.tupS s; exact ⟨a, xs, rfl, .inr h1, h2⟩
  | _ => cases e
def pList : PN := fun ds c => wd (one ds) fun d => wd (seqD d) fun es => c (.o es)
theorem n_list : ON X (.type "list") (fun xs H Q => ∃ p ys, xs = [.ref p] ∧ (SqL X.K H p ys ∨ SqT X.K H p ys) ∧ ∀ l, H l = none → Q (.ref l) (upd H l (.lst ys))) pList := ⟨call_list_of, fun F H xs ds c Q s r hp hQ => by
  obtain ⟨d, e, hp1⟩ := wd_iff hp
  obtain ⟨es, e2, hp2⟩ := wd_iff hp1
  have e0 := one_inv e
  rw [e0] at r
  obtain ⟨y, ey, r1⟩ := repBs1 r
  subst ey
  obtain ⟨a, xs, rfl, h1, h2⟩ := r1.seqS s e2
  exact ⟨a, xs, rfl, h1, lres s h2 hp2 hQ⟩⟩
def pTuple : PN := fun ds c => wd (one ds) fun d => wd (seqD d) fun es => c (.v (.tup es))
theorem n_tuple : ON X (.type "tuple") (fun xs H Q => ∃ p ys, xs = [.ref p] ∧ ((SqL X.K H p ys ∧ ∀ l, H l = none → Q (.ref l) (upd H l (.tup ys))) ∨ (SqT X.K H p ys ∧ Q (.ref p) H))) pTuple := ⟨call_tuple_of, fun F H xs ds c Q s r hp hQ => by
  obtain ⟨d, e, hp1⟩ := wd_iff hp
  obtain ⟨es, e2, hp2⟩ := wd_iff hp1
  have e0 := one_inv e
  rw [e0] at r
  obtain ⟨y, ey, r1⟩ := repBs1 r
  subst ey
  cases d with
  | lst ds => cases e2; obtain ⟨a, xs, rfl, h1, h2⟩ := r1.lstS s; exact ⟨a, xs, rfl, .inl ⟨SqL.of h1, tres s h2 hp2 hQ⟩⟩
  | frl ds => cases e2; obtain ⟨a, xs, rfl, h1, h2⟩ := r1.frlS s; exact ⟨a, xs, rfl, .inl ⟨h1, tres s h2 hp2 hQ⟩⟩
  | tup ds =>
    cases e2
    rcases r1 with h | ⟨a, xs, es, e1, e2, h1, h2⟩
    · cases id h with
      | tup q rr => exact ⟨_, _, rfl, .inr ⟨same_sqT s q.sq, vres s h hp2 hQ⟩⟩
    · cases e2
  | _ => cases e2⟩
def pInt : PN := fun ds c => wd (one ds) fun d => match d with
  | .int i => c (.v (.int i))
  | .bl b => c (.v (.int (if b then 1 else 0)))
  | _ => False
theorem n_int : ON X (.type "int") (fun xs H Q => (∃ i, xs = [.int i] ∧ Q (.int i) H) ∨ ∃ k, xs = [.bl k] ∧ Q (.int (if k then 1 else 0)) H) pInt := ⟨call_int1, fun F H xs ds c Q s r hp hQ => by
  obtain ⟨d, e, hp2⟩ := wd_iff hp
  have e0 := one_inv e
  rw [e0] at r
  obtain ⟨y, ey, r1⟩ := repBs1 r
  subst ey
  cases d with
  | int i => obtain rfl := r1.intS; exact .inl ⟨i, rfl, vres s (.int _) hp2 hQ⟩
  | bl b => obtain rfl := r1.blS; exact .inr ⟨b, rfl, vres s (.int _) hp2 hQ⟩
  | _ => exact hp2.elim⟩
def pMin2 : PN := fun ds c => wd (int2 ds) fun p => c (.v (.int (if p.2 < p.1 then p.2 else p.1)))
def pMax2 : PN := fun ds c => wd (int2 ds) fun p => c (.v (.int (if p.2 > p.1 then p.2 else p.1)))
theorem repA_atI {xs : List V} {ds : List D} {i : Int} {d : D} (h : RepA K F xs ds) (e : atI ds i = some d) : ∃ x, atI xs i = some x ∧ Rep K F x d := by
  unfold atI at e ⊢
  rw [h.length]
  cases q : ixN ds.length i with
  | none => rw [q] at e; cases e
  | some j =>
    rw [q] at e
    obtain ⟨x, hx, r⟩ := h.getD (i := j) (d := d) e
    exact ⟨x, hx, r⟩
def pIx : P2 := fun d e c => match e with
  | .int i => wd (seqD d) fun ds => wd (atI ds i) fun x => c (.v x)
  | _ => False
theorem s_ix : S2 K (rIx K) pIx := fun F H x y d e c Q s rx ry hp hQ => by
  cases e with
  | int i =>
    obtain ⟨ds, e1, hp⟩ := wd_iff hp
    obtain ⟨z, e2, hp⟩ := wd_iff hp
    obtain rfl := ry.intS
    obtain ⟨a, xs, rfl, h1, h2⟩ := rx.seqS s e1
    obtain ⟨v, e3, r3⟩ := repA_atI h2 e2
    rcases h1 with h1 | h1
    · exact .inl ⟨a, xs, i, v, rfl, rfl, h1, e3, vres s r3 hp hQ⟩
    · exact .inr (.inl ⟨a, xs, i, v, rfl, rfl, h1, e3, vres s r3 hp hQ⟩)
  | _ => exact hp.elim
theorem de_ix {W : WX} {pos : Pos} {a b : Expr} {ta tb : TE} {wa wb : WE} (ha : DE X W a ta wa) (hb : DE X W b tb wb) (hs : PlainIx b := by exact fun _ _ => rfl) : DE X W (.Subscript a b pos) (tOp (rIx X.K) ta tb) (wOp pIx wa wb) := ⟨pe_ix ix_seq ha.p hb.p hs, se_op ha.s hb.s s_ix⟩
theorem de_app (i : Nat) {W : WX} {x : Str} {p1 p2 cpos : Pos} {e : Expr} {te : TE} {we : WE} (he : DE X W e te we) (hN : X.N[i]? = some x := by rfl) (hv : Vis X.env.scope x := by first | exact Or.inl rfl | exact Or.inr (Or.inl rfl) | exact Or.inr (Or.inr rfl)) (hd : (x == ("__debug__" : Str)) = false := by decide)
    (hcd : (x == ("__classdict__" : Str)) = false := by decide) (hbase : attributeBase (.Name x p1) "append" X.env (eval (.Name x p1) X.env) = eval (.Name x p1) X.env := by rfl)
    (hfew : ((backTo cpos (starEach [e] X.env)).all (fun x => !x.1) && (backToKw cpos (keywordEach [] X.env)).all (fun x => x.1.isSome) && decide (([e] : List Expr).length + ([] : List Keyword).length + (if ([] : List Keyword).isEmpty then 0 else 1) < 30)) = true := by rfl)
    (hline : (p2.endLine == cpos.line) = true := by rfl) (hs : starEach [e] X.env = (false, eval e X.env) :: starEach [] X.env := by rfl) (hplain : (backTo cpos (starEach [] X.env)).any (·.1) = false := by rfl) :
    DE X W (.Call (.Attribute (.Name x p1) "append" p2) [e] [] cpos) (tBM X.K "list" rAppend (tVar i) (tCons te tNil)) (wMut i mApp (wCons we wNil)) :=
  ⟨pe_bm PySem.F.plainAttrs_list PySem.F.slot_list_append PySem.F.type_list_append mt_append (pe_var hN hv hd hcd) (pa_cons he.p pa_nil hs) hbase hfew hline hs hplain, se_mut (sa_cons he.s sa_nil) sm_append⟩
end
end DL

set_option Elab.async false
set_option linter.all false
set_option maxRecDepth 100000
namespace DL
open PySem L2
section
variable {K : PySem.W.Frag} {B : Base} {F F' : Hp} {om : Om} {H H' : Hp} {st : St} {r : Env} {W : WX} {X : Cx}
def wAsgH (i : Nat) (P : List D → Prop) (we : WE) : WS := fun e r om => we e.xq r om fun x r1 om1 => match x with
  | .o ds => P ds ∧ i < r1.length ∧ ∀ a, om1 a = none → e.nx (r1.set i (some (.v (.h a)))) (oset om1 a (.lstP P))
  | _ => False
def wHnd (P : List D → Prop) (we : WE) : WE := fun xq r om k => we xq r om fun x r1 om1 => match x with
  | .o ds => P ds ∧ ∀ a, om1 a = none → k (.v (.h a)) r1 (oset om1 a (.lstP P))
  | _ => False
end
end DL

set_option Elab.async false
set_option linter.all false
set_option maxRecDepth 100000
namespace DL
open PySem L2
theorem loop_inv {step : D → (Env → Om → Prop) → Env → Om → Prop} {fin : Env → Om → Prop} (I : Nat → Env → Om → Prop) : ∀ {items : List D} {j : Nat} {r : Env} {om : Om}, I j r om →
    (∀ (i : Nat) (d : D) (r : Env) (om : Om) (nx : Env → Om → Prop), items[i]? = some d → I (j + i) r om → (∀ r' om', I (j + i + 1) r' om' → nx r' om') → step d nx r om) →
    (∀ r om, I (j + items.length) r om → fin r om) → loop step items fin r om
  | [], j, r, om, h0, hs, hf => hf r om h0
  | d :: ds, j, r, om, h0, hs, hf => by
    rw [loop_cons]
    refine hs 0 d r om _ rfl h0 fun r' om' h => ?_
    refine loop_inv I (j := j + 1) h (fun i d r om nx e hi hn => hs (i + 1) d r om nx (by simpa using e) (by rw [show j + (i + 1) = j + 1 + i by omega]; exact hi) (by rw [show j + (i + 1) + 1 = j + 1 + i + 1 by omega]; exact hn)) fun r om h => hf r om (by rw [List.length_cons, show j + (ds.length + 1) = j + 1 + ds.length by omega]; exact h)
theorem loop_list {step : D → (Env → Om → Prop) → Env → Om → Prop} {fin : Env → Om → Prop} (I : Nat → Env → Om → Prop) {items : List D} {r : Env} {om : Om} (h0 : I 0 r om)
    (hs : ∀ (i : Nat) (d : D) (r : Env) (om : Om) (nx : Env → Om → Prop), items[i]? = some d → I i r om → (∀ r' om', I (i + 1) r' om' → nx r' om') → step d nx r om)
    (hf : ∀ r om, I items.length r om → fin r om) : loop step items fin r om :=
  loop_inv I (j := 0) h0 (fun i d r om nx e hi hn => hs i d r om nx e (by simpa using hi) (by simpa using hn)) fun r om h => hf r om (by simpa using h)
theorem loop_rng {step : D → (Env → Om → Prop) → Env → Om → Prop} {fin : Env → Om → Prop} (I : Nat → Env → Om → Prop) {lo : Int} {n : Nat} {r : Env} {om : Om} (h0 : I 0 r om)
    (hs : ∀ (i : Nat) (r : Env) (om : Om) (nx : Env → Om → Prop), i < n → I i r om → (∀ r' om', I (i + 1) r' om' → nx r' om') → step (.int (lo + i)) nx r om)
    (hf : ∀ r om, I n r om → fin r om) : loop step (rng lo n) fin r om :=
  loop_list I h0 (fun i d r om nx e hi hn => by obtain ⟨h, rfl⟩ := rng_get e; exact hs i r om nx h hi hn) fun r om h => hf r om (by rw [rng_len] at h; exact h)
theorem lc_inv {g : GT} {wt : WT} {we : WE} {vs : List Nat} {fin : List D → Env → Om → Prop} (I : Nat → List D → Env → Om → Prop) : ∀ {items : List D} {j : Nat} {acc : List D} {r : Env} {om : Om}, I j acc r om →
    (∀ (i : Nat) (d : D) (acc : List D) (r : Env) (om : Om) (nx : List D → Env → Om → Prop), items[i]? = some d → I (j + i) acc r om → (∀ acc' r' om', I (j + i + 1) acc' r' om' → nx acc' r' om') →
      g (.v d) r fun r2 => wt X0 r2 om fun b r3 om3 => if b = true then we X0 r3 om3 fun x r4 om4 => wd (datE x) fun y => acc.length < sizeLine ∧ nx (acc ++ [y]) (wipeE r4 vs) om4 else nx acc (wipeE r3 vs) om3) →
    (∀ acc r om, I (j + items.length) acc r om → fin acc r om) → lcGo g wt we vs items acc r om fin
  | [], j, acc, r, om, h0, _, hf => hf acc r om h0
  | d :: ds, j, acc, r, om, h0, hs, hf => by
    refine hs 0 d acc r om (fun acc r om => lcGo g wt we vs ds acc r om fin) rfl h0 fun acc' r' om' h' => ?_
    exact lc_inv I (j := j + 1) h' (fun i d acc r om nx e hi hn => hs (i + 1) d acc r om nx (by simpa using e) (by rw [show j + (i + 1) = j + 1 + i by omega]; exact hi) (by rw [show j + (i + 1) + 1 = j + 1 + i + 1 by omega]; exact hn)) (fun acc r om h => hf acc r om (by rw [List.length_cons, show j + (ds.length + 1) = j + 1 + ds.length by omega]; exact h))
theorem lc_list {g : GT} {wt : WT} {we : WE} {vs : List Nat} {fin : List D → Env → Om → Prop} (I : Nat → List D → Env → Om → Prop) {items : List D} {acc : List D} {r : Env} {om : Om} (h0 : I 0 acc r om)
    (hs : ∀ (i : Nat) (d : D) (acc : List D) (r : Env) (om : Om) (nx : List D → Env → Om → Prop), items[i]? = some d → I i acc r om → (∀ acc' r' om', I (i + 1) acc' r' om' → nx acc' r' om') →
      g (.v d) r fun r2 => wt X0 r2 om fun b r3 om3 => if b = true then we X0 r3 om3 fun x r4 om4 => wd (datE x) fun y => acc.length < sizeLine ∧ nx (acc ++ [y]) (wipeE r4 vs) om4 else nx acc (wipeE r3 vs) om3)
    (hf : ∀ acc r om, I items.length acc r om → fin acc r om) : lcGo g wt we vs items acc r om fin :=
  lc_inv I (j := 0) h0 (fun i d acc r om nx e hi hn => hs i d acc r om nx e (by simpa using hi) (by simpa using hn)) fun acc r om h => hf acc r om (by simpa using h)
end DL

set_option Elab.async false
set_option linter.all false
namespace DL
open PySem L2
section
variable (om : Om) (r : Env) (ds es : List D) (d e f g : D) (i j : Int) (b : Bool) (x y : Str) (c : RV → Prop) (n : Nat)
theorem deref_non : deref om .non = .non := rfl
theorem deref_bl : deref om (.bl b) = .bl b := rfl
theorem deref_int : deref om (.int i) = .int i := rfl
theorem deref_str : deref om (.str x) = .str x := rfl
theorem deref_tup : deref om (.tup ds) = .tup ds := rfl
theorem deref_lst : deref om (.lst ds) = .lst ds := rfl
theorem deref_frl : deref om (.frl ds) = .frl ds := rfl
theorem deref_dct (ks : List Key) : deref om (.dct ks ds) = .dct ks ds := rfl
theorem deref_raw (v : V) : deref om (.raw v) = .raw v := rfl
theorem deref_h {om : Om} {a : Addr} {ds : List D} (h : om a = some (.lst ds)) : deref om (.h a) = .lst ds := by simp only [deref, h]
theorem datB_v : datB r om (.v d) = some (deref om d) := rfl
theorem datB_o : datB r om (.o ds) = some (.lst ds) := rfl
theorem datB_b : datB r om (.b n) = (match r[n]? with
    | some (some (.o ds)) => some (.lst ds)
    | some (some (.v d)) => some (deref om d)
    | _ => none) := rfl
theorem datE_v : datE (.v d) = some d := rfl
theorem datsE_nil : datsE [] = some [] := rfl
theorem datsE_v (l : List RV) : datsE (.v d :: l) = (datsE l).map (d :: ·) := by simp only [datsE, datE]; cases datsE l <;> rfl
theorem datsB_nil : datsB r om [] = some [] := rfl
theorem datsB_cons (z : RV) (l : List RV) : datsB r om (z :: l) = (datB r om z).bind fun d => (datsB r om l).map (d :: ·) := by
  simp only [datsB]
  cases datB r om z with
  | none => rfl
  | some d => cases datsB r om l <;> rfl
theorem fz_v : fz (.v d) = .v d := rfl
theorem fz_o : fz (.o ds) = .v (.lst ds) := rfl
theorem fz_b : fz (.b n) = .b n := rfl
theorem boolD_bl : boolD (.bl b) = some b := rfl
theorem truD_bl : truD (.bl b) = some b := rfl
theorem intD_int : intD (.int i) = some i := rfl
theorem int1_int : int1 [.int i] = some i := rfl
theorem lenD_lst : lenD (.lst ds) = some ds.length := rfl
theorem lenD_frl : lenD (.frl ds) = some ds.length := rfl
theorem lenD_tup : lenD (.tup ds) = some ds.length := rfl
theorem seqD_lst : seqD (.lst ds) = some ds := rfl
theorem seqD_tup : seqD (.tup ds) = some ds := rfl
theorem tyD_non : tyD .non = some "NoneType" := rfl
theorem tyD_bl : tyD (.bl b) = some "bool" := rfl
theorem tyD_int : tyD (.int i) = some "int" := rfl
theorem tyD_str : tyD (.str x) = some "str" := rfl
theorem tyD_tup : tyD (.tup ds) = some "tuple" := rfl
theorem tyD_lst : tyD (.lst ds) = some "list" := rfl
theorem tyD_frl : tyD (.frl ds) = some "list" := rfl
theorem tyD_dct (ks : List Key) : tyD (.dct ks ds) = some "dict" := rfl
theorem pIsi_at (t : String) : pIsi [d, .raw (.ty t)] c = wd (tyD d) fun u => wd (isiD u t) fun b => c (.v (.bl b)) := rfl
theorem isi_int (t : String) : isiD t "int" = some (t == "int" || t == "bool") := rfl
theorem isi_bool (t : String) : isiD t "bool" = some (t == "bool") := rfl
theorem isi_list (t : String) : isiD t "list" = some (t == "list") := rfl
theorem isi_tuple (t : String) : isiD t "tuple" = some (t == "tuple") := rfl
theorem pLen_at : pLen [d] c = wd (lenD d) fun n => c (.v (.int n)) := rfl
theorem pList_at : pList [d] c = wd (seqD d) fun es => c (.o es) := rfl
theorem pTuple_at : pTuple [d] c = wd (seqD d) fun es => c (.v (.tup es)) := rfl
theorem pInt_bl : pInt [.bl b] c = c (.v (.int (if b then 1 else 0))) := rfl
theorem ixN_1 : ixN (n + 1 + 1) 1 = some 1 := by unfold ixN; simp; omega
theorem atI_in {ds : List D} {i : Int} (h0 : 0 ≤ i) (h1 : i < (ds.length : Int)) : ∃ d, d ∈ ds ∧ atI ds i = some d := by
  have hl : i.toNat < ds.length := by omega
  refine ⟨ds[i.toNat], List.getElem_mem hl, ?_⟩
  have := atI_nat (j := i.toNat) (List.getElem?_eq_getElem hl)
  rwa [Int.toNat_of_nonneg h0] at this
theorem atI_get {ds : List D} {i : Int} (h0 : 0 ≤ i) (h1 : i < (ds.length : Int)) : atI ds i = ds[i.toNat]? := by
  have hl : i.toNat < ds.length := by omega
  have := atI_nat (j := i.toNat) (List.getElem?_eq_getElem hl)
  rw [Int.toNat_of_nonneg h0] at this
  rw [this, List.getElem?_eq_getElem hl]
theorem mApp_at : mApp ds [d] = fun c => ds.length < sizeLine ∧ c (ds ++ [d]) .non := rfl
end
end DL

set_option Elab.async false
set_option linter.all false
set_option maxRecDepth 100000
namespace DL
open PySem L2
section
variable {X : Cx} {K : PySem.W.Frag} {F F' H H' : Hp} {W : WX} {pos : Pos}
def cutD (xs : List D) (lo hi : Option Int) : List D := (xs.drop (HT.sIx xs.length 0 lo)).take (HT.sIx xs.length xs.length hi - HT.sIx xs.length 0 lo)
theorem repA_cut {xs : List V} {ds : List D} (h : RepA K F xs ds) (lo hi : Option Int) : RepA K F (cutV xs lo hi) (cutD ds lo hi) := by
  unfold cutV cutD
  rw [h.length]
  exact (h.drop _).take _
abbrev WO := DX → Env → Om → (Option Int → Env → Om → Prop) → Prop
def SO (K : PySem.W.Frag) (W : WX) (t : TO) (w : WO) : Prop := ∀ (B : Base) (F : Hp) (om : Om) (H : Hp) (st : L2.St) (r : Env) (xq : DX) (k : Option Int → Env → Om → Prop) (Q : Option Int → Hp → Prop),
  Rel K B F om H st r → XOk K B W xq → (∀ b r' om' F' H', Rel K B F' om' H' st r' → Same F F' → k b r' om' → Q b H') → w xq r om k → t st H Q
structure DO (X : Cx) (W : WX) (e : Option Expr) (t : TO) (w : WO) : Prop where
  p : PO X e t
  s : SO X.K W t w
def wON : WO := fun _ r om k => k none r om
def wOS (we : WE) : WO := fun xq r om k => we xq r om fun x r1 om1 => wd (datB r1 om1 x) fun d => wd (intD d) fun i => k (some i) r1 om1
theorem do_none : DO X W none tNoPart wON := ⟨po_none, fun B F om H st r xq k Q R hx hQ hw => hQ _ _ _ _ _ R (Same.refl _) hw⟩
theorem do_some {e : Expr} {te : TE} {we : WE} (h : DE X W e te we) : DO X W (some e) (tPart te) (wOS we) := ⟨po_some h.p, fun B F om H st r xq k Q R hx hQ hw => by
  refine h.s B F om H st r xq _ _ R hx (fun x r1 om1 F1 H1 y R1 s1 k1 q1 hw => ?_) hw
  obtain ⟨d, e1, hw1⟩ := wd_iff hw
  obtain ⟨i, e2, hw2⟩ := wd_iff hw1
  have e3 := intD_inv e2
  subst e3
  exact ⟨i, (R1.datB q1 e1).intS, hQ _ _ _ _ _ R1 s1 hw2⟩⟩
def pSl (lo hi : Option Int) : P1 := fun d c => match d with
  | .lst ds => c (.o (cutD ds lo hi))
  | .frl ds => c (.o (cutD ds lo hi))
  | .tup ds => c (.v (.tup (cutD ds lo hi)))
  | _ => False
theorem pSl_lst (lo hi : Option Int) (ds : List D) (c : RV → Prop) : pSl lo hi (.lst ds) c = c (.o (cutD ds lo hi)) := rfl
theorem pSl_frl (lo hi : Option Int) (ds : List D) (c : RV → Prop) : pSl lo hi (.frl ds) c = c (.o (cutD ds lo hi)) := rfl
theorem pSl_tup (lo hi : Option Int) (ds : List D) (c : RV → Prop) : pSl lo hi (.tup ds) c = c (.v (.tup (cutD ds lo hi))) := rfl
abbrev rSlD (K : PySem.W.Frag) : V → Option Int → Option Int → Hp → VK → Prop := fun x lo hi H Q => rSlL K x lo hi H Q ∨ rSlA K x lo hi H Q
theorem cut_whole {ds : List D} {lo hi : Option Int} (h : HT.sIx ds.length 0 lo = 0 ∧ HT.sIx ds.length ds.length hi = ds.length) : cutD ds lo hi = ds := by
  unfold cutD
  rw [h.1, h.2]
  simp
theorem s_sl {lo hi : Option Int} {x : V} {d : D} {c : RV → Prop} {Q : VK} (s : Same F H) (r : RepB K F H x d) (hp : pSl lo hi d c) (hQ : ∀ z v F' H', Grow F H F' H' → ResP K F' H H' v z → c z → Q v H') : rSlD K x lo hi H Q := by
  cases d with
  | lst ds =>
    obtain ⟨a, xs, rfl, h1, h2⟩ := r.lstS s
    exact .inl ⟨a, xs, rfl, SqL.of h1, lres s (repA_cut h2 lo hi) hp hQ⟩
  | frl ds =>
    obtain ⟨a, xs, rfl, h1, h2⟩ := r.frlS s
    exact .inl ⟨a, xs, rfl, h1, lres s (repA_cut h2 lo hi) hp hQ⟩
  | tup ds =>
    rcases r with h | ⟨a, xs, es, e1, e2, h1, h2⟩
    · cases id h with
      | tup q rr =>
        refine .inr ⟨_, _, rfl, same_sqT s q.sq, fun hw => ?_, fun _ => tres s (repA_cut rr lo hi) hp hQ⟩
        rw [rr.length] at hw
        have hp' : c (.v (.tup (cutD ds lo hi))) := hp
        rw [cut_whole hw] at hp'
        exact vres s h hp' hQ
    · cases e2
  | _ => exact hp.elim
def wSl (we : WE) (wl wh : WO) : WE := fun xq r om k => we xq r om fun x r1 om1 => wl xq r1 om1 fun lo r2 om2 => wh xq r2 om2 fun hi r3 om3 => wd (datB r3 om3 x) fun d => pSl lo hi d fun z => k z r3 om3
theorem de_sl {e : Expr} {lo hi : Option Expr} {te : TE} {we : WE} {tl th : TO} {wl wh : WO} {p2 : Pos} (he : DE X W e te we) (hl : DO X W lo tl wl) (hh : DO X W hi th wh) : DE X W (.Subscript e (.Slice lo hi none p2) pos) (tSl (rSlD X.K) te tl th) (wSl we wl wh) :=
  ⟨pe_slice (SlR.or sl_list sl_tupA) he.p hl.p hh.p, fun B F om H st r xq k Q R hx hQ hw => by
    refine he.s B F om H st r xq _ _ R hx (fun x r1 om1 F1 H1 y R1 s1 k1 q1 hw => ?_) hw
    obtain ⟨F2, s2, R2, q2⟩ := R1.fz q1
    refine hl.s B F2 om1 H1 st r1 xq _ _ R2 hx (fun lo r3 om3 F3 H3 R3 s3 hw => ?_) hw
    refine hh.s B F3 om3 H3 st r3 xq _ _ R3 hx (fun hi r4 om4 F4 H4 R4 s4 hw => ?_) hw
    obtain ⟨d, e1, hw1⟩ := wd_iff hw
    have q4 := Res.later (om' := om4) (H' := H4) (r' := r4) q2 (s3.trans s4) trivial
    refine s_sl R4.rh.sub (R4.datB q4 (datB_fz e1)) hw1 fun z v F5 H5 g rp hc => ?_
    obtain ⟨R5, q5⟩ := R4.finish g rp
    exact hQ _ _ _ _ _ _ R5 ((((s1.trans s2).trans s3).trans s4).trans g.f) trivial q5 hc⟩
def pRev : P1 := fun d c => match d with
  | .lst ds => c (.o ds.reverse)
  | .frl ds => c (.o ds.reverse)
  | _ => False
def wLR1 (we : WE) : WE := fun xq r om k => we xq r om fun x r1 om1 => wd (datB r1 om1 x) fun d => wd (intD d) fun n => (-(2 ^ 62) ≤ n ∧ n ≤ 16777216) ∧ k (.o (rng 0 n.toNat)) r1 om1
def mPopAt : MutP := fun ds args c => match args with
  | [.int i] => (-(2 ^ 63) ≤ i ∧ i < 2 ^ 63) ∧ wd (ixN ds.length i) fun j => wd ds[j]? fun d => c (ds.eraseIdx j) d
  | _ => False
theorem mPopAt_at (ds : List D) (i : Int) : mPopAt ds [.int i] = fun c => (-(2 ^ 63) ≤ i ∧ i < 2 ^ 63) ∧ wd (ixN ds.length i) fun j => wd ds[j]? fun d => c (ds.eraseIdx j) d := rfl
theorem sm_popAt : SM K rPopAt mPopAt := by
  intro F H a xs ds ys args c Q s hH h1 h2 hp hQ
  unfold mPopAt at hp
  split at hp
  · next i =>
    obtain ⟨hb, hp⟩ := hp
    obtain ⟨j, e1, hp1⟩ := wd_iff hp
    obtain ⟨d, e2, hp2⟩ := wd_iff hp1
    cases h2 with
    | cons h h' =>
      cases h'
      cases h
      obtain ⟨y, hy, ry⟩ := h1.getD e2
      exact ⟨a, xs, i, j, y, rfl, rfl, hH, hb.1, hb.2, by rw [h1.length]; exact (ixN_seq e1).1, hy, hQ _ _ _ _ (h1.eraseIdx j) ry hp2⟩
  · exact hp.elim
def mPop : MutP := fun ds args c => match args with
  | [] => wd ds[ds.length - 1]? fun d => c ds.dropLast d
  | _ => False
theorem de_popAt (i : Nat) {x : Str} {p1 p2 cpos : Pos} {e : Expr} {te : TE} {we : WE} (he : DE X W e te we) (hN : X.N[i]? = some x := by rfl) (hv : Vis X.env.scope x := by first | exact Or.inl rfl | exact Or.inr (Or.inl rfl) | exact Or.inr (Or.inr rfl)) (hd : (x == ("__debug__" : Str)) = false := by decide)
    (hcd : (x == ("__classdict__" : Str)) = false := by decide) (hbase : attributeBase (.Name x p1) "pop" X.env (eval (.Name x p1) X.env) = eval (.Name x p1) X.env := by rfl)
    (hfew : ((backTo cpos (starEach [e] X.env)).all (fun x => !x.1) && (backToKw cpos (keywordEach [] X.env)).all (fun x => x.1.isSome) && decide (([e] : List Expr).length + ([] : List Keyword).length + (if ([] : List Keyword).isEmpty then 0 else 1) < 30)) = true := by rfl)
    (hline : (p2.endLine == cpos.line) = true := by rfl) (hs : starEach [e] X.env = (false, eval e X.env) :: starEach [] X.env := by rfl) (hplain : (backTo cpos (starEach [] X.env)).any (·.1) = false := by rfl) :
    DE X W (.Call (.Attribute (.Name x p1) "pop" p2) [e] [] cpos) (tBM X.K "list" rPopAt (tVar i) (tCons te tNil)) (wMut i mPopAt (wCons we wNil)) :=
  ⟨pe_bm PySem.F.plainAttrs_list PySem.F.slot_list_pop PySem.F.type_list_pop mt_popAt (pe_var hN hv hd hcd) (pa_cons he.p pa_nil hs) hbase hfew hline hs hplain, se_mut (sa_cons he.s sa_nil) sm_popAt⟩
def pNeg : P1 := fun d c => match d with
  | .int i => c (.v (.int (-i)))
  | _ => False
theorem pNeg_int (i : Int) (c : RV → Prop) : pNeg (.int i) c = c (.v (.int (-i))) := rfl
theorem s_neg : S1 K (rU fun i => .int (-i)) pNeg := fun F H x d c Q s r hp hQ => by
  cases d with
  | int i => exact ⟨i, r.intS, vres s (.int _) hp hQ⟩
  | _ => exact hp.elim
def pIsN : P2 := fun d e c => match d, e with
  | .non, .non => c (.v (.bl true))
  | .raw _, _ => False
  | _, .non => c (.v (.bl false))
  | _, _ => False
def bools : List D → Option (List Bool)
  | [] => some []
  | .bl b :: ds => (bools ds).map (b :: ·)
  | _ => none
theorem bools_rep : ∀ {xs : List V} {ds : List D} {bs : List Bool}, RepA K F xs ds → bools ds = some bs → xs = bs.map V.bl
  | _, _, bs, .nil, e => by cases e; rfl
  | _, _, bs, .cons (d := d) r t, e => by
    cases d with
    | bl b =>
      simp only [bools] at e
      cases q : bools _ with
      | none => rw [q] at e; cases e
      | some l =>
        rw [q] at e
        cases e
        cases r
        rw [bools_rep t q]
        rfl
    | _ => simp [bools] at e
def nums : List D → Option (List Int)
  | [] => some []
  | .int b :: ds => (nums ds).map (b :: ·)
  | _ => none
theorem nums_map (l : List Int) : nums (l.map D.int) = some l := by
  induction l with
  | nil => rfl
  | cons b l ih => simp [nums, ih]
def lstO (d : D) : Option (List D) := match d with
  | .lst ds => some ds
  | .frl ds => some ds
  | _ => none
theorem lstO_lst (ds : List D) : lstO (.lst ds) = some ds := rfl
theorem RepB.lstO (s : Same F H) {y : V} {d : D} {ds : List D} (r : RepB K F H y d) (e : lstO d = some ds) : ∃ a xs, y = .ref a ∧ SqL K H a xs ∧ RepA K F xs ds := by
  cases d with
  | lst ds => cases e; obtain ⟨a, xs, rfl, h1, h2⟩ := r.lstS s; exact ⟨a, xs, rfl, SqL.of h1, h2⟩
  | frl ds => cases e; obtain ⟨a, xs, rfl, h1, h2⟩ := r.frlS s; exact ⟨a, xs, rfl, h1, h2⟩
  | _ => cases e
def pAll : PN := fun ds c => wd (one ds) fun d => wd (lstO d) fun es => wd (bools es) fun bs => c (.v (.bl (bs.all id)))
def pAny : PN := fun ds c => wd (one ds) fun d => wd (lstO d) fun es => wd (bools es) fun bs => c (.v (.bl (bs.any id)))
theorem pAll_at (d : D) (c : RV → Prop) : pAll [d] c = wd (lstO d) fun es => wd (bools es) fun bs => c (.v (.bl (bs.all id))) := rfl
theorem n_all (hc : X.calm = true) : ON X (.builtin "all") (rAll X.K) pAll := ⟨cr_all hc, fun F H xs ds c Q s r hp hQ => by
  obtain ⟨d, e, hp1⟩ := wd_iff hp
  obtain ⟨es, e2, hp2⟩ := wd_iff hp1
  obtain ⟨bs, e3, hp3⟩ := wd_iff hp2
  rw [one_inv e] at r
  obtain ⟨y, ey, r1⟩ := repBs1 r
  subst ey
  obtain ⟨a, xs, rfl, h1, h2⟩ := r1.lstO s e2
  rw [bools_rep h2 e3] at h1
  exact ⟨a, bs, rfl, h1, vres s (.bl _) hp3 hQ⟩⟩
def pSum : PN := fun ds c => wd (one ds) fun d => wd (lstO d) fun es => wd (nums es) fun ns => c (.v (.int ns.sum))
def pMax1 : PN := fun ds c => wd (one ds) fun d => wd (lstO d) fun es => wd (nums es) fun ns => 0 < ns.length ∧ ∀ m, m ∈ ns → (∀ y, y ∈ ns → y ≤ m) → c (.v (.int m))
def pMin1 : PN := fun ds c => wd (one ds) fun d => wd (lstO d) fun es => wd (nums es) fun ns => 0 < ns.length ∧ ∀ m, m ∈ ns → (∀ y, y ∈ ns → m ≤ y) → c (.v (.int m))
def zipD : List D → List D → List D
  | x :: xs, y :: ys => .tup [x, y] :: zipD xs ys
  | _, _ => []
theorem zipD_get : ∀ {xs ys : List D} {i : Nat} {d : D}, (zipD xs ys)[i]? = some d → ∃ x y, d = .tup [x, y] ∧ xs[i]? = some x ∧ ys[i]? = some y
  | [], _, i, d, h => by simp [zipD] at h
  | _ :: _, [], i, d, h => by simp [zipD] at h
  | x :: xs, y :: ys, 0, d, h => by simp [zipD] at h; exact ⟨x, y, h.symm, rfl, rfl⟩
  | x :: xs, y :: ys, i + 1, d, h => by
    obtain ⟨a, b, h1, h2, h3⟩ := zipD_get (xs := xs) (ys := ys) (i := i) (d := d) (by simpa [zipD] using h)
    exact ⟨a, b, h1, by simpa using h2, by simpa using h3⟩
theorem zipD_len : ∀ (xs ys : List D), (zipD xs ys).length = min xs.length ys.length
  | [], ys => by simp [zipD]
  | _ :: _, [] => by simp [zipD]
  | x :: xs, y :: ys => by simp only [zipD, List.length_cons, zipD_len xs ys]; omega
theorem itok_zip {a b : Addr} {xs ys : List V} {ds es : List D} (q1 : SqL K F a xs) (r1 : RepA K F xs ds) (q2 : SqL K F b ys) (r2 : RepA K F ys es) : ItOk K (Itz K a b) F (zipD ds es) := by
  refine ⟨fun i F' H s s' hi => ⟨xs, ys, s'.seq (s.seq q1), s'.seq (s.seq q2), ?_⟩, fun i d F' H s s' hd => ?_⟩
  · rw [zipD_len] at hi
    rw [r1.length, r2.length]
    omega
  · obtain ⟨x, y, rfl, h1, h2⟩ := zipD_get hd
    obtain ⟨u, hu, ru⟩ := r1.getD h1
    obtain ⟨v, hv, rv⟩ := r2.getD h2
    refine ⟨⟨xs, ys, u, v, s'.seq (s.seq q1), s'.seq (s.seq q2), hu, hv⟩, fun z H' hy => ?_⟩
    obtain ⟨T, u', v', rfl, hT, rfl, e1, e2⟩ := hy
    have e3 := e1 xs (s'.seq (s.seq q1))
    have e4 := e2 ys (s'.seq (s.seq q2))
    rw [hu] at e3
    rw [hv] at e4
    cases e3
    cases e4
    exact ⟨_, Grow.alloc s' hT, ResP.newT s' hT (.cons (ru.mono s) (.cons (rv.mono s) .nil))⟩
def two : List RV → Option (List D × List D)
  | [.v d, .v e] => match lstO d, lstO e with
    | some ds, some es => some (ds, es)
    | _, _ => none
  | _ => none
def wiZip (wa : WA) : WI := fun xq r om k => wa xq r om fun xs r1 om1 => wd (two xs) fun p => k (zipD p.1 p.2) r1 om1
theorem Rep.lstO {y : V} {d : D} {ds : List D} (r : Rep K F y d) (e : DL.lstO d = some ds) : ∃ a xs, y = .ref a ∧ SqL K F a xs ∧ RepA K F xs ds := by
  cases d with
  | lst ds => cases e; cases r with | lst h1 h2 => exact ⟨_, _, rfl, SqL.of h1, h2⟩
  | frl ds => cases e; cases r with | frl h1 h2 => exact ⟨_, _, rfl, h1, h2⟩
  | _ => cases e
def enumD : Nat → List D → List D
  | _, [] => []
  | n, x :: xs => .tup [.int (n : Nat), x] :: enumD (n + 1) xs
def oneL : List RV → Option (List D)
  | [.v d] => lstO d
  | _ => none
def wiEnumerate (wa : WA) : WI := fun xq r om k => wa xq r om fun xs r1 om1 => wd (oneL xs) fun p => k (enumD 0 p) r1 om1
end
end DL

set_option Elab.async false
set_option linter.all false
set_option maxRecDepth 100000
set_option maxHeartbeats 1000000
namespace DL
open PySem L2 PySem.W
variable {X : Cx} {K : PySem.W.Frag} {F H : Hp}
def rLtD (K : PySem.W.Frag) (f : PyData → PyData → Bool) : R2 := fun x y H Q => ∃ d e, Dp K H x d ∧ Dp K H y e ∧ alike d e = true ∧ d ≠ .none ∧ d.depth ≤ 40 ∧ Q (.bl (f d e)) H
theorem op_ltD (hu : X.A.units + 64 < cLine) : OpR X (compareOp .Lt) (rLtD X.K fun d e => dataLt d e) := by
  intro pins s σ H x y v u Q I rx ry h
  obtain ⟨d, e, hd, he, sd, se, sz, q⟩ := h
  obtain ⟨as, r1⟩ := Dp.reads I d x v hd rx
  obtain ⟨bs, r2⟩ := Dp.reads I e y u he ry
  exact lt_data r1 r2 sd se (by omega) ⟨.bl _, H, I, rfl, q⟩
theorem op_gtD (hu : X.A.units + 64 < cLine) : OpR X (compareOp .Gt) (rLtD X.K fun d e => dataLt e d) := by
  intro pins s σ H x y v u Q I rx ry h
  obtain ⟨d, e, hd, he, sd, se, sz, q⟩ := h
  obtain ⟨as, r1⟩ := Dp.reads I d x v hd rx
  obtain ⟨bs, r2⟩ := Dp.reads I e y u he ry
  exact gt_data r1 r2 sd se (by omega) ⟨.bl _, H, I, rfl, q⟩
theorem op_leD (hu : X.A.units + 64 < cLine) : OpR X (compareOp .LtE) (rLtD X.K fun d e => !dataLt e d) := by
  intro pins s σ H x y v u Q I rx ry h
  obtain ⟨d, e, hd, he, sd, se, sz, q⟩ := h
  obtain ⟨as, r1⟩ := Dp.reads I d x v hd rx
  obtain ⟨bs, r2⟩ := Dp.reads I e y u he ry
  exact le_data r1 r2 sd se (by omega) ⟨.bl _, H, I, rfl, q⟩
theorem op_geD (hu : X.A.units + 64 < cLine) : OpR X (compareOp .GtE) (rLtD X.K fun d e => !dataLt d e) := by
  intro pins s σ H x y v u Q I rx ry h
  obtain ⟨d, e, hd, he, sd, se, sz, q⟩ := h
  obtain ⟨as, r1⟩ := Dp.reads I d x v hd rx
  obtain ⟨bs, r2⟩ := Dp.reads I e y u he ry
  exact ge_data r1 r2 sd se (by omega) ⟨.bl _, H, I, rfl, q⟩
def ltD (d e : D) : Bool := dataLt (py d) (py e)
def okL (d e : D) : Prop := okPy d = true ∧ okPy e = true ∧ alike (py d) (py e) = true ∧ py d ≠ .none ∧ (py d).depth ≤ 40
def pC (g : Int → Int → Bool) (f : D → D → Bool) : P2 := fun d e c => match d, e with
  | .int i, .int j => c (.v (.bl (g i j)))
  | d, e => okL d e ∧ c (.v (.bl (f d e)))
def pLtA : P2 := pC (fun i j => decide (i < j)) fun d e => ltD d e
def pGtA : P2 := pC (fun i j => decide (j < i)) fun d e => ltD e d
def pLeA : P2 := pC (fun i j => decide (i ≤ j)) fun d e => !ltD e d
def pGeA : P2 := pC (fun i j => decide (j ≤ i)) fun d e => !ltD d e
theorem pLtA_i (i j : Int) (c : RV → Prop) : pLtA (.int i) (.int j) c = c (.v (.bl (decide (i < j)))) := rfl
theorem pLtA_tup (i j : List D) (c : RV → Prop) : pLtA (.tup i) (.tup j) c = (okL (.tup i) (.tup j) ∧ c (.v (.bl (ltD (.tup i) (.tup j))))) := rfl
theorem pGtA_i (i j : Int) (c : RV → Prop) : pGtA (.int i) (.int j) c = c (.v (.bl (decide (j < i)))) := rfl
theorem pLeA_i (i j : Int) (c : RV → Prop) : pLeA (.int i) (.int j) c = c (.v (.bl (decide (i ≤ j)))) := rfl
theorem pGeA_i (i j : Int) (c : RV → Prop) : pGeA (.int i) (.int j) c = c (.v (.bl (decide (j ≤ i)))) := rfl
theorem s_pC {op : Value → Value → Sem Value} {r0 : Int → Int → V} {g : Int → Int → Bool} {f : D → D → Bool} {k : PyData → PyData → Bool} (h1 : OpR X op (rI0 r0)) (h0 : ∀ i j, r0 i j = .bl (g i j)) (h2 : OpR X op (rLtD X.K k)) (hk : ∀ d e, f d e = k (py d) (py e)) :
    O2 X op (fun x y H Q => rI0 r0 x y H Q ∨ rLtD X.K k x y H Q) (pC g f) := ⟨OpR.or h1 h2, fun F H x y d e c Q s rx ry hp hQ => by
  unfold pC at hp
  split at hp
  · next i j =>
    obtain rfl := rx.intS
    obtain rfl := ry.intS
    refine .inl ⟨i, j, rfl, rfl, ?_⟩
    rw [h0]
    exact vres s (.bl _) hp hQ
  · refine .inr ⟨py d, py e, rx.dp s hp.1.1, ry.dp s hp.1.2.1, hp.1.2.2.1, hp.1.2.2.2.1, hp.1.2.2.2.2, ?_⟩
    rw [← hk]
    exact vres s (.bl _) hp.2 hQ⟩
theorem o_ltA {k : Nat} (hr : GRoom k X.A) : O2 X (compareOp .Lt) (fun x y H Q => rI0 (fun i j => .bl (decide (i < j))) x y H Q ∨ rLtD X.K (fun d e => dataLt d e) x y H Q) pLtA := s_pC op_lt (fun _ _ => rfl) (op_ltD hr.units) fun _ _ => rfl
theorem o_gtA {k : Nat} (hr : GRoom k X.A) : O2 X (compareOp .Gt) (fun x y H Q => rI0 (fun i j => .bl (decide (j < i))) x y H Q ∨ rLtD X.K (fun d e => dataLt e d) x y H Q) pGtA := s_pC op_gt (fun _ _ => rfl) (op_gtD hr.units) fun _ _ => rfl
theorem o_leA {k : Nat} (hr : GRoom k X.A) : O2 X (compareOp .LtE) (fun x y H Q => rI0 (fun i j => .bl (decide (i ≤ j))) x y H Q ∨ rLtD X.K (fun d e => !dataLt e d) x y H Q) pLeA := s_pC op_le (fun _ _ => rfl) (op_leD hr.units) fun _ _ => rfl
theorem o_geA {k : Nat} (hr : GRoom k X.A) : O2 X (compareOp .GtE) (fun x y H Q => rI0 (fun i j => .bl (decide (j ≤ i))) x y H Q ∨ rLtD X.K (fun d e => !dataLt d e) x y H Q) pGeA := s_pC op_ge (fun _ _ => rfl) (op_geD hr.units) fun _ _ => rfl
def rSortD (K : PySem.W.Frag) : List V → Hp → VK → Prop := fun vs H Q => ∃ (a : Addr) (bs : List (V × PyData)), vs = [V.ref a] ∧ SqL K H a (bs.map (·.1)) ∧ (∀ b ∈ bs, Dp K H b.1 b.2) ∧ AllAlike (bs.map (·.2)) ∧ Sortable (bs.map (·.2)) ∧ (∀ b ∈ bs, b.2.depth ≤ 40) ∧
  ∀ p, H p = none → Q (.ref p) (upd H p (.lst ((bs.mergeSort (dataLe false (·.2))).map (·.1))))
theorem vals_each : ∀ {bs : List (V × PyData)} {us : List Value}, Vals (bs.map (·.1)) us → EachIs (fun u b => RelV b.1 u) us bs
  | [], _, r => by cases r; exact .nil
  | b :: bs, _, r => by cases r with | cons h t => exact .cons h (vals_each t)
theorem each_vals : ∀ {bs : List (V × PyData)} {us : List Value}, EachIs (fun u b => RelV b.1 u) us bs → Vals (bs.map (·.1)) us
  | _, _, .nil => .nil
  | _, _, .cons h t => .cons h (each_vals t)
theorem each_mem {α β : Type} {R R' : α → β → Prop} : ∀ {as : List α} {bs : List β}, EachIs R as bs → (∀ a, ∀ b ∈ bs, R a b → R' a b) → EachIs R' as bs
  | _, _, .nil, _ => .nil
  | _, _, .cons h t, f => .cons (f _ _ List.mem_cons_self h) (each_mem t fun a b m => f a b (List.mem_cons_of_mem _ m))
theorem cr_sortD (hu : X.A.units + 64 < cLine) : CallR X (.builtin "sorted") (rSortD X.K) := by
  intro pins s σ H vs us Q I r h
  obtain ⟨a, bs, rfl, hs, hd, hal, hso, hdp, q⟩ := h
  obtain ⟨its, rv, hl, hz⟩ := I.list hs
  obtain ⟨u, rfl, ru⟩ := vals1 r
  obtain rfl : u = Value.ref a := ru
  have e := vals_each rv
  rw [List.length_map] at hz
  refine sorted_data (R := fun u b => RelV b.1 u) (enc := fun b : V × PyData => b.2) (bs := bs) (vs := its) hl.isList e (each_mem e fun u b m ru => Dp.reads I b.2 b.1 u (hd b m) ru) hal hso hz (fun b m => by have := hdp b m; omega) fun out ho ee => ?_
  obtain ⟨n, hn⟩ := PyProof.Rows.sortedAll_at s.heap its out.toArray
  refine ⟨.ref (s.heap.objs.size + 1), upd H (s.heap.objs.size + 1) (.lst ((bs.mergeSort (dataLe false (·.2))).map (·.1))), I.laid (t' := s.toks) (fun b o hb => PyProof.Rows.sortedAll_old hb) (by omega) ⟨?_, out, n, each_vals ee, hn⟩, rfl, q _ (I.hok.fresh (by omega))⟩
  rw [List.length_map, List.length_mergeSort]; exact hz
def sortD (es : List D) : List D := es.mergeSort fun a b => !ltD b a
def okSort (es : List D) : Prop := okPys es = true ∧ AllAlike (pys es) ∧ Sortable (pys es) ∧ ∀ e ∈ pys es, e.depth ≤ 40
def pSorted : PN := fun ds c => wd (one ds) fun d => wd (lstO d) fun es => okSort es ∧ c (.o (sortD es))
theorem repA_zip : ∀ {xs : List V} {ds : List D}, RepA K F xs ds → ∃ ws : List (V × D), xs = ws.map (·.1) ∧ ds = ws.map (·.2) ∧ ∀ w ∈ ws, Rep K F w.1 w.2
  | _, _, .nil => ⟨[], rfl, rfl, fun _ m => absurd m (by simp)⟩
  | _, _, .cons (v := v) (d := d) r t => by
    obtain ⟨ws, e1, e2, h⟩ := repA_zip t
    refine ⟨(v, d) :: ws, by simp [e1], by simp [e2], fun w m => ?_⟩
    rcases List.mem_cons.mp m with rfl | m
    · exact r
    · exact h w m
theorem repA_unzip : ∀ {ws : List (V × D)}, (∀ w ∈ ws, Rep K F w.1 w.2) → RepA K F (ws.map (·.1)) (ws.map (·.2))
  | [], _ => .nil
  | w :: ws, h => .cons (h w List.mem_cons_self) (repA_unzip fun x m => h x (List.mem_cons_of_mem _ m))
theorem pys_map : ∀ ds : List D, pys ds = ds.map py
  | [] => rfl
  | d :: ds => by simp only [pys, List.map_cons, pys_map ds]
theorem okPys_mem : ∀ {ds : List D}, okPys ds = true → ∀ d ∈ ds, okPy d = true
  | [], _, _, m => absurd m (by simp)
  | d :: ds, h, x, m => by
    simp only [okPys, Bool.and_eq_true] at h
    rcases List.mem_cons.mp m with rfl | m
    · exact h.1
    · exact okPys_mem h.2 x m
theorem n_sorted {k : Nat} (hr : GRoom k X.A) : ON X (.builtin "sorted") (rSortD X.K) pSorted := ⟨cr_sortD hr.units, fun F H xs ds c Q s r hp hQ => by
  obtain ⟨d, e, hp1⟩ := wd_iff hp
  obtain ⟨es, e2, hk, hp2⟩ := wd_iff hp1
  have e0 := one_inv e
  rw [e0] at r
  obtain ⟨y, ey, r1⟩ := repBs1 r
  subst ey
  obtain ⟨a, xs, rfl, h1, h2⟩ := r1.lstO s e2
  obtain ⟨ws, ex, ed, hw⟩ := repA_zip h2
  subst ex ed
  obtain ⟨k1, k2, k3, k4⟩ := hk
  rw [pys_map] at k2 k3 k4
  refine ⟨a, ws.map fun w => (w.1, py w.2), rfl, ?_, ?_, ?_, ?_, ?_, ?_⟩
  · rw [List.map_map]; exact h1
  · intro b m
    obtain ⟨w, m1, rfl⟩ := List.mem_map.mp m
    exact (hw w m1).dp s (okPys_mem k1 _ (List.mem_map.mpr ⟨w, m1, rfl⟩))
  · rw [List.map_map]; rw [List.map_map] at k2; exact k2
  · rw [List.map_map]; rw [List.map_map] at k3; exact k3
  · intro b m
    obtain ⟨w, m1, rfl⟩ := List.mem_map.mp m
    exact k4 _ (List.mem_map.mpr ⟨_, List.mem_map.mpr ⟨w, m1, rfl⟩, rfl⟩)
  · have e1 : (List.mergeSort (ws.map fun w => (w.1, py w.2)) (dataLe false (·.2))).map (·.1) = (ws.mergeSort fun a b => !ltD b.2 a.2).map (·.1) := by
      rw [← List.map_mergeSort (r := fun a b => !ltD b.2 a.2) (s := dataLe false (·.2)) (f := fun w : V × D => (w.1, py w.2)) (l := ws) (fun a _ b _ => rfl), List.map_map]
      rfl
    have e3 : sortD (ws.map (·.2)) = (ws.mergeSort fun a b => !ltD b.2 a.2).map (·.2) := by
      unfold sortD
      rw [← List.map_mergeSort (r := fun a b : V × D => !ltD b.2 a.2) (s := fun a b => !ltD b a) (f := fun w : V × D => w.2) (l := ws) (fun a _ b _ => rfl)]
    rw [e1]
    rw [e3] at hp2
    exact lres s (repA_unzip fun w m => hw w (List.mem_mergeSort.mp m)) hp2 hQ⟩
theorem pSorted_at (d : D) (c : RV → Prop) : pSorted [d] c = wd (lstO d) fun es => okSort es ∧ c (.o (sortD es)) := rfl
end DL

set_option Elab.async false
set_option linter.all false
set_option maxRecDepth 100000
namespace DL
open PySem L2
theorem lc_map (f : D → D) {g : GT} {wt : WT} {we : WE} {vs : List Nat} {fin : List D → Env → Om → Prop} {items : List D} {r : Env} {om : Om} (hz : items.length ≤ sizeLine)
    (hs : ∀ (i : Nat) (d : D) (acc : List D) (nx : List D → Env → Om → Prop), items[i]? = some d → acc.length < sizeLine → nx (acc ++ [f d]) r om →
      g (.v d) r fun r2 => wt X0 r2 om fun b r3 om3 => if b = true then we X0 r3 om3 fun x r4 om4 => wd (datE x) fun y => acc.length < sizeLine ∧ nx (acc ++ [y]) (wipeE r4 vs) om4 else nx acc (wipeE r3 vs) om3)
    (hf : fin (items.map f) r om) : lcGo g wt we vs items [] r om fin := by
  refine lc_list (fun i acc r' om' => acc = (items.take i).map f ∧ r' = r ∧ om' = om) ⟨by simp, rfl, rfl⟩ ?_ ?_
  · rintro i d acc r' om' nx e ⟨rfl, rfl, rfl⟩ hn
    have hi := (List.getElem?_eq_some_iff.mp e).1
    refine hs i d _ nx e (by rw [List.length_map, List.length_take]; omega) (hn _ _ _ ⟨?_, rfl, rfl⟩)
    rw [List.take_add_one, e, List.map_append]; rfl
  · rintro acc r' om' ⟨rfl, rfl, rfl⟩
    rw [List.take_length]; exact hf
theorem bools_mapf {α : Type} (g : α → Bool) : ∀ l : List α, bools (l.map fun d => D.bl (g d)) = some (l.map g)
  | [] => rfl
  | d :: l => by simp only [List.map_cons, bools, bools_mapf g l]; rfl
def plainD : D → Bool
  | .h _ => false
  | .exc _ _ _ => false
  | .fn _ => false
  | .raw _ => false
  | _ => true
def isNum : D → Bool
  | .int _ => true
  | _ => false
def isRow : D → Bool
  | .tup ds => decide (1 ≤ ds.length) && decide (ds.length ≤ 24) && ds.all isNum
  | _ => false
def widD : D → Nat
  | .tup ds => ds.length
  | _ => 0
def goodRow (w : Nat) (d : D) : Bool := isRow d && decide (widD d = w)
def rowsL (ds : List D) : Bool := ds.all (goodRow (widD (ds.headD .non)))
def isRows : D → Bool
  | .lst ds => rowsL ds
  | .frl ds => rowsL ds
  | _ => false
def plains : D → Bool
  | .lst ds => ds.all plainD
  | .frl ds => ds.all plainD
  | .tup ds => ds.all plainD
  | d => plainD d
theorem isNum_iff {d : D} : isNum d = true ↔ ∃ i, d = .int i := by cases d <;> simp [isNum]
theorem isRow_iff {d : D} : isRow d = true ↔ ∃ ns : List Int, d = .tup (ns.map D.int) ∧ 1 ≤ ns.length ∧ ns.length ≤ 24 := by
  constructor
  · intro h
    cases d with
    | tup ds =>
      simp only [isRow, Bool.and_eq_true, decide_eq_true_eq, List.all_eq_true] at h
      have : ∀ l : List D, (∀ x ∈ l, isNum x = true) → ∃ ns : List Int, l = ns.map D.int := by
        intro l
        induction l with
        | nil => exact fun _ => ⟨[], rfl⟩
        | cons x l ih =>
          intro hx
          obtain ⟨i, rfl⟩ := isNum_iff.mp (hx x List.mem_cons_self)
          obtain ⟨ns, rfl⟩ := ih fun y m => hx y (List.mem_cons_of_mem _ m)
          exact ⟨i :: ns, rfl⟩
      obtain ⟨ns, rfl⟩ := this ds h.2
      simp only [List.length_map] at h
      exact ⟨ns, rfl, h.1.1, h.1.2⟩
    | _ => simp [isRow] at h
  · rintro ⟨ns, rfl, h1, h2⟩
    simp only [isRow, List.length_map, h1, h2, decide_true, Bool.and_true, Bool.true_and, List.all_eq_true]
    intro x m
    obtain ⟨i, _, rfl⟩ := List.mem_map.mp m
    rfl
mutual
def okc : D → Bool
  | .non => true
  | .bl _ => true
  | .int _ => true
  | .str x => PyData.strOk x
  | .tup ds => okcs ds
  | .lst ds => okcs ds
  | .frl ds => okcs ds
  | _ => false
def okcs : List D → Bool
  | [] => true
  | d :: ds => okc d && okcs ds
end
mutual
def dep : D → Nat
  | .tup ds => deps ds + 1
  | .lst ds => deps ds + 1
  | .frl ds => deps ds + 1
  | _ => 0
def deps : List D → Nat
  | [] => 0
  | d :: ds => max (dep d) (deps ds)
end
mutual
theorem okc_py : ∀ (d : D), okc d = true → okPy d = true ∧ (py d).canLay0 = true ∧ PySem.W.alike (py d) (py d) = true ∧ (py d).depth = dep d
  | .non, _ => by simp [okPy, py, PyData.canLay0, PySem.W.alike, PyData.depth, dep]
  | .bl _, _ => by simp [okPy, py, PyData.canLay0, PySem.W.alike, PyData.depth, dep]
  | .int _, _ => by simp [okPy, py, PyData.canLay0, PySem.W.alike, PyData.depth, dep]
  | .str x, h => by simp only [okc] at h; simp [okPy, py, PyData.canLay0, PySem.W.alike, PyData.depth, dep, h]
  | .tup ds, h => by obtain ⟨a, b, c, e⟩ := okcs_py ds (by simpa [okc] using h); simp [okPy, py, PyData.canLay0, PySem.W.alike, PyData.depth, dep, a, b, c, e]
  | .lst ds, h => by obtain ⟨a, b, c, e⟩ := okcs_py ds (by simpa [okc] using h); simp [okPy, py, PyData.canLay0, PySem.W.alike, PyData.depth, dep, a, b, c, e]
  | .frl ds, h => by obtain ⟨a, b, c, e⟩ := okcs_py ds (by simpa [okc] using h); simp [okPy, py, PyData.canLay0, PySem.W.alike, PyData.depth, dep, a, b, c, e]
  | .dct _ _, h => by simp [okc] at h
  | .raw _, h => by simp [okc] at h
  | .h _, h => by simp [okc] at h
  | .exc _ _ _, h => by simp [okc] at h
  | .fn _, h => by simp [okc] at h
theorem okcs_py : ∀ (ds : List D), okcs ds = true → okPys ds = true ∧ PyData.canLayAll0 (pys ds) = true ∧ PySem.W.alikeAll (pys ds) (pys ds) = true ∧ PyData.depthAll (pys ds) = deps ds
  | [], _ => by simp [okPys, pys, PyData.canLayAll0, PySem.W.alikeAll, PyData.depthAll, deps]
  | d :: ds, h => by
    simp only [okcs, Bool.and_eq_true] at h
    obtain ⟨a, b, c, e⟩ := okc_py d h.1
    obtain ⟨a', b', c', e'⟩ := okcs_py ds h.2
    simp [okPys, pys, PyData.canLayAll0, PySem.W.alikeAll, PyData.depthAll, deps, a, b, c, e, a', b', c', e']
end
theorem okE_of {d : D} (h : okc d = true) (hd : dep d ≤ 64) : okE d := by
  obtain ⟨a, b, c, e⟩ := okc_py d h
  exact ⟨a, by unfold SeqAt.shaped; rw [b, e]; simpa using hd⟩
theorem eqD_self {d : D} (h : okc d = true) : eqD d d = true := PySem.W.eqv_refl_alike _ (okc_py d h).2.2.1
theorem okcs_all {ds : List D} (h : ∀ d ∈ ds, okc d = true) : okcs ds = true := by
  induction ds with
  | nil => rfl
  | cons x ds ih => simp only [okcs, h x List.mem_cons_self, ih fun d m => h d (List.mem_cons_of_mem _ m), Bool.and_self]
theorem deps_le {ds : List D} {n : Nat} (h : ∀ d ∈ ds, dep d ≤ n) : deps ds ≤ n := by
  induction ds with
  | nil => simp [deps]
  | cons x ds ih =>
    simp only [deps]
    have := h x List.mem_cons_self
    have := ih fun d m => h d (List.mem_cons_of_mem _ m)
    omega
theorem okcs_ints (ns : List Int) : okcs (ns.map D.int) = true := okcs_all fun d m => by obtain ⟨i, _, rfl⟩ := List.mem_map.mp m; rfl
theorem deps_ints (ns : List Int) : deps (ns.map D.int) = 0 := Nat.le_zero.mp (deps_le fun d m => by obtain ⟨i, _, rfl⟩ := List.mem_map.mp m; simp [dep])
theorem pys_ints : ∀ ns : List Int, pys (ns.map D.int) = ns.map PyData.int
  | [] => rfl
  | n :: ns => by simp only [List.map_cons, pys, py, pys_ints ns]
def rowD (r : List Int) : D := .tup (r.map D.int)
def rowsD (rs : List (List Int)) : List D := rs.map rowD
def Wide (w : Nat) (rs : List (List Int)) : Prop := 1 ≤ w ∧ w ≤ 24 ∧ ∀ r ∈ rs, r.length = w
theorem Wide.rows {w : Nat} {rs : List (List Int)} (h : Wide w rs) : rowsL (rowsD rs) = true := by
  have h0 : ∀ w' : Nat, (∀ q ∈ rs, widD (rowD q) = w') → w' = widD ((rowsD rs).headD .non) ∨ rs = [] → rowsL (rowsD rs) = true := fun w' hw e => by
    unfold rowsL
    rw [List.all_eq_true]
    intro d m
    obtain ⟨r, mr, rfl⟩ := List.mem_map.mp m
    have hl := h.2.2 r mr
    have e1 : isRow (rowD r) = true := isRow_iff.mpr ⟨r, rfl, by rw [hl]; exact h.1, by rw [hl]; exact h.2.1⟩
    rcases e with e | e
    · unfold goodRow; rw [e1, Bool.true_and, decide_eq_true_eq, hw r mr]; exact e
    · subst e; cases mr
  refine h0 w (fun q m => by simp only [rowD, widD, List.length_map]; exact h.2.2 q m) ?_
  cases rs with
  | nil => exact .inr rfl
  | cons q rs => left; show w = widD (rowD q); simp only [rowD, widD, List.length_map]; exact (h.2.2 q List.mem_cons_self).symm
theorem okc_row (r : List Int) : okc (rowD r) = true := by simp only [rowD, okc, okcs_ints]
theorem dep_row (r : List Int) : dep (rowD r) = 1 := by simp only [rowD, dep, deps_ints]
theorem okcs_rows (rs : List (List Int)) : okcs (rowsD rs) = true := okcs_all fun d m => by obtain ⟨r, _, rfl⟩ := List.mem_map.mp m; exact okc_row r
def keyD (c : Nat) (r : List Int) : D := .tup [.int (r.getD c 0), rowD r]
def lessR (c : Nat) (r q : List Int) : Bool := ltD (keyD c r) (keyD c q)
theorem alike_key (c : Nat) (r q : List Int) : PySem.W.alike (py (keyD c r)) (py (keyD c q)) = true := by
  simp only [keyD, rowD, py, pys, PySem.W.alike, PySem.W.alikeAll, pys_ints, PySem.W.alike_ints, Bool.and_self]
theorem okc_key (c : Nat) (r : List Int) : okc (keyD c r) = true := by simp only [keyD, okc, okcs, okc_row, Bool.and_self]
theorem dep_key (c : Nat) (r : List Int) : dep (keyD c r) = 2 := by simp only [keyD, dep, deps, dep_row]; rfl
theorem okL_key (c : Nat) (r q : List Int) : okL (keyD c r) (keyD c q) := by
  obtain ⟨a, b, _, e⟩ := okc_py _ (okc_key c r)
  obtain ⟨a', b', _, e'⟩ := okc_py _ (okc_key c q)
  exact ⟨a, a', alike_key c r q, by simp [keyD, py], by rw [e, dep_key]; decide⟩
theorem row_at {r : List Int} {c : Int} (h0 : 0 ≤ c) (h1 : c < (r.length : Int)) : atI (r.map D.int) c = some (.int (r.getD c.toNat 0)) := by
  have hl : c.toNat < r.length := by omega
  rw [atI_get h0 (by rw [List.length_map]; exact h1), List.getElem?_map, List.getElem?_eq_getElem hl, List.getD_eq_getElem?_getD, List.getElem?_eq_getElem hl]
  rfl
theorem ixN_in {n : Nat} {i : Int} (h0 : 0 ≤ i) (h1 : i < (n : Int)) : ixN n i = some i.toNat := by unfold ixN; simp [h0]; omega
end DL

set_option Elab.async false
set_option linter.all false
set_option maxRecDepth 100000
namespace DL
open PySem L2 PySem.W
section
variable {X : Cx} {W : WX} {pos : Pos}
theorem dt_tru' {e : Expr} {t : TE} {w : WE} (h : DE X W e t w) (he : ∀ whole, isTrue e X.env whole = (do let v ← whole; standAt e.pos; holding [v] (truthy v)) := by intro _; rfl) {K' : PySem.W.Frag} (hK : X.K = K' := by rfl) : DT X W e (fun σ H Q => t σ H fun x H' => ∃ k, TruV K' x H' k ∧ Q k H') (wTru w) := by
  subst hK
  first | exact dt_tru | (apply dt_tru <;> assumption)
theorem de_call' {x : Str} {c : Con} {k : Nat} {e : Expr} {es : List Expr} {p' : Pos} {t : TA} {w : WA} (F : Def X.prog X.w X.K X.mg X.base x c k) (hr : GRoom k X.A) (tk : Takes X W) (ha : DA X W (e :: es) t w) (hg : Gl X x := by rfl) (hdb : (x == ("__debug__" : Str)) = false := by decide)
    (he : starEach (e :: es) X.env = (false, eval e X.env) :: starEach es X.env := by rfl) (hpl : (backTo pos (starEach es X.env)).any (·.1) = false := by rfl) {K' : PySem.W.Frag} (hK : X.K = K' := by rfl) :
    DE X W (.Call (.Name x p') (e :: es) [] pos) (tCallSD (toSp K' c) [] (L2.WE W) t) (wCall c.df [] w) := by
  subst hK
  first | exact de_call | (apply de_call <;> assumption)
theorem o_add' {K' : PySem.W.Frag} (hK : X.K = K' := by rfl) : O2 X (binaryOp .Add) (rAddD K') pAdd := by
  subst hK
  first | exact o_add | (apply o_add <;> assumption)
theorem o_mul' {K' : PySem.W.Frag} (hK : X.K = K' := by rfl) : O2 X (binaryOp .Mult) (rMulD K') pMul := by
  subst hK
  first | exact o_mul | (apply o_mul <;> assumption)
theorem o_eq' {k : Nat} (hr : GRoom k X.A) {K' : PySem.W.Frag} (hK : X.K = K' := by rfl) : O2 X (compareOp .Eq) (rEqA K') pEq := by
  subst hK
  first | exact o_eq | (apply o_eq <;> assumption)
theorem n_isi' {K' : PySem.W.Frag} (hK : X.K = K' := by rfl) : ON X (.builtin "isinstance") (rIsi K') pIsi := by
  subst hK
  first | exact n_isi | (apply n_isi <;> assumption)
theorem n_tuple' {K' : PySem.W.Frag} (hK : X.K = K' := by rfl) : ON X (.type "tuple") (fun xs H Q => ∃ p ys, xs = [.ref p] ∧ ((SqL K' H p ys ∧ ∀ l, H l = none → Q (.ref l) (upd H l (.tup ys))) ∨ (SqT K' H p ys ∧ Q (.ref p) H))) pTuple := by
  subst hK
  first | exact n_tuple | (apply n_tuple <;> assumption)
theorem o_geA' {k : Nat} (hr : GRoom k X.A) {K' : PySem.W.Frag} (hK : X.K = K' := by rfl) : O2 X (compareOp .GtE) (fun x y H Q => rI0 (fun i j => .bl (decide (j ≤ i))) x y H Q ∨ rLtD K' (fun d e => !dataLt d e) x y H Q) pGeA := by
  subst hK
  first | exact o_geA | (apply o_geA <;> assumption)
end
end DL

set_option Elab.async false
set_option linter.all false
set_option maxRecDepth 100000
namespace DL
open PySem L2
mutual
def lf : D → Bool
  | .lst _ => false
  | .frl _ => false
  | .tup ds => lfs ds
  | .dct _ ds => lfs ds
  | .exc _ _ ds => lfs ds
  | _ => true
def lfs : List D → Bool
  | [] => true
  | d :: ds => lf d && lfs ds
end
def lfR : RV → Prop
  | .v d => lf d = true
  | .o ds => lfs ds = true
  | .b _ => False
def lfX (ex : Exn) : Prop := match ex.fs with
  | none => True
  | some fs => lfs (fs.map (·.2)) = true
section
variable {X : Cx} {K : PySem.W.Frag} {B : Base} {F F' H H' : Hp} {om : Om} {st : L2.St} {r : Env} {W : WX} {pos : Pos}
def NoL (F F' : Hp) : Prop := ∀ a o, F a = some o → (∀ xs, o ≠ .lst xs) → F' a = some o
theorem NoL.tup {a : Addr} {xs : List V} (h : NoL F F') (q : SqT K F a xs) : SqT K F' a xs := by
  rcases q with (q | ⟨o, q⟩) | q
  · exact .inl (.inl (h _ _ q fun _ e => nomatch e))
  · exact .inl (.inr ⟨o, h _ _ q fun _ e => nomatch e⟩)
  · exact .inr q
theorem NoL.tupR {a : Addr} {xs : List V} (n : NoL F F') (h : TupR K F a xs) : TupR K F' a xs := h.imp (fun h => n _ _ h fun _ e => nomatch e) fun h => ⟨h.1, n.tup h.2⟩
mutual
theorem Rep.lf (n : NoL F F') : ∀ {v : V} {d : D}, Rep K F v d → lf d = true → Rep K F' v d
  | _, _, .non, _ => .non
  | _, _, .bl b, _ => .bl b
  | _, _, .int i, _ => .int i
  | _, _, .str x, _ => .str x
  | _, _, .tup h r, e => .tup (n.tupR h) (RepA.lf n r e)
  | _, _, .lst h r, e => by simp [DL.lf] at e
  | _, _, .frl h r, e => by simp [DL.lf] at e
  | _, _, .dct h l r, e => .dct (n _ _ h fun _ e => nomatch e) l (RepA.lf n r e)
  | _, _, .raw v, _ => .raw v
  | _, _, .h a, _ => .h a
  | _, _, .exc0 h, _ => .exc0 (n _ _ h fun _ e => nomatch e)
  | _, _, .exc1 h h' r, e => .exc1 (n _ _ h fun _ e => nomatch e) (n _ _ h' fun _ e => nomatch e) (RepA.lf n r e)
  | _, _, .fn x, _ => .fn x
theorem RepA.lf (n : NoL F F') : ∀ {vs : List V} {ds : List D}, RepA K F vs ds → lfs ds = true → RepA K F' vs ds
  | _, _, .nil, _ => .nil
  | _, _, .cons r t, e => by
    simp only [lfs, Bool.and_eq_true] at e
    exact .cons (Rep.lf n r e.1) (RepA.lf n t e.2)
end
def lendF (F H : Hp) : Hp := fun a => match F a with
  | some o => some o
  | none => match H a with
    | some (.lst xs) => some (.lst xs)
    | _ => none
def backF (F H F1 : Hp) : Hp := fun a => match F a with
  | some o => some o
  | none => match H a with
    | some (.lst _) => none
    | _ => F1 a
theorem lend_same : Same F (lendF F H) := fun a o e => by simp only [lendF, e]
theorem lend_sub (s : Same F H) : Same (lendF F H) H := fun a o e => by
  unfold lendF at e
  cases q : F a with
  | some u => rw [q] at e; cases e; exact s a _ q
  | none =>
    rw [q] at e
    cases q2 : H a with
    | none => rw [q2] at e; cases e
    | some u =>
      rw [q2] at e
      cases u <;> first | cases e; rfl | cases e
theorem lend_lst {a : Addr} {xs : List V} (s : Same F H) (h : H a = some (.lst xs)) : lendF F H a = some (.lst xs) := by
  unfold lendF
  cases q : F a with
  | some u => have := s a u q; rw [h] at this; rw [← this]
  | none => simp only [h]
theorem RepB.lend {y : V} {d : D} (s : Same F H) (h : RepB K F H y d) : Rep K (lendF F H) y d := by
  rcases h with h | ⟨a, xs, ds, rfl, rfl, h1, h2⟩
  · exact h.mono lend_same
  · exact .lst (lend_lst s h1) (h2.mono lend_same)
theorem repBs_lend (s : Same F H) : ∀ {ys : List V} {ds : List D}, RepBs K F H ys ds → RepA K (lendF F H) ys ds
  | [], [], _ => .nil
  | [], _ :: _, h => h.elim
  | _ :: _, [], h => h.elim
  | y :: ys, d :: ds, h => .cons (RepB.lend s h.1) (repBs_lend s h.2)
theorem lend_tab {P : Addr} {q : Str} (h : TabOk F H P q) : TabOk (lendF F H) H P q := by
  obtain ⟨h0, ps, h1, h2, h3⟩ := id h
  exact h.grow lend_same (fun _ e => e) (by simp only [lendF, h0, h1])
theorem back_nol (s : Same F H) (s1 : Same (lendF F H) F') : NoL F' (backF F H F') := fun a o e n => by
  unfold backF
  cases q : F a with
  | some u =>
    have := s1 a u (lend_same a u q)
    rw [e] at this; exact this.symm
  | none =>
    cases q2 : H a with
    | none => exact e
    | some u =>
      cases u with
      | lst xs =>
        have := s1 a _ (lend_lst s q2)
        rw [e] at this
        exact absurd (Option.some.inj this) (n xs)
      | _ => exact e
theorem callL_core {c : Con} {ys : List V} {ds : List D} {k : RV → Prop} {xk : Exn → Prop} {Q : VK} {E : XK} (R : Rel K B F om H st r) (rp : RepA K (lendF F H) ys ds)
    (hQ : ∀ x F' H' y, Rel K B F' om H' st r → Same F F' → Res K B F' om H' st r y x → k x → Q y H') (hX : ∀ ex F' H' cls d, Rel K B F' om H' st r → ExOk K F' cls d ex → xk ex → E cls d H')
    (hw : c.df ds (fun _ => none) (fun x _ => lfR x ∧ k x) (fun ex _ => lfX ex ∧ xk ex)) : toSp K c ys H Q E := by
  have s := R.rh.sub
  have key : ∀ {om' : Om} {F' H' : Hp}, RelH K F' om' H' → Ext ⟨lendF F H, fun _ => none, H⟩ F' om' H' → Rel K B (backF F H F') om H' st r ∧ Same F (backF F H F') ∧ NoL F' (backF F H F') := fun {om' F' H'} rh ex => by
    have hh : ∀ b o, H b = some o → NoTab o → H' b = some o := fun b o e t => ex.keep b o e rfl t
    have hs : Same F (backF F H F') := fun a o e => by simp only [backF, e]
    have hle : ∀ a o, backF F H F' a = some o → F' a = some o := fun a o e => by
      unfold backF at e
      cases q : F a with
      | some u => rw [q] at e; cases e; exact ex.f a _ (lend_same a _ q)
      | none =>
        rw [q] at e
        cases q2 : H a with
        | none => rw [q2] at e; exact e
        | some u => rw [q2] at e; cases u <;> first | exact e | cases e
    refine ⟨R.growT hs hh ex.dom (fun b o e n => ?_) (fun b o e => rh.sub b o (hle b o e)) (fun p m => ?_), hs, back_nol s ex.f⟩
    · have e1 := hle b o e
      have l0 : lendF F H b = none := by
        unfold backF at e
        unfold lendF
        rw [n] at e ⊢
        cases q2 : H b with
        | none => rfl
        | some u => rw [q2] at e; cases u <;> first | rfl | cases e
      exact ex.new b o e1 l0
    · obtain ⟨t1, ps, t2, t3, t4⟩ := rh.tab p m
      have f0 : F p.1 = none := (R.rh.tab p m).1
      refine ⟨?_, ps, t2, t3, fun pos cv hc => ?_⟩
      · cases q : backF F H F' p.1 with
        | none => rfl
        | some u => rw [hle _ _ q] at t1; cases t1
      · obtain ⟨c, e1, e2⟩ := t4 pos cv hc
        exact ⟨c, e1, back_nol s ex.f c _ e2 fun xs z => by unfold LamX.CodeO at z; cases z⟩
  refine ⟨lendF F H, fun _ => none, ds, ⟨lend_sub s, fun a ob e => (by cases e), fun p m => lend_tab (R.rh.tab p m)⟩, rp, c.mono ds _ _ _ _ _ (fun x om' hk F' H' y rh ex s => ?_) (fun e om' hk F' H' cls d rh ex he => ?_) hw⟩
  · obtain ⟨R', s', n'⟩ := key rh ex
    refine hQ x _ H' y R' s' ?_ hk.2
    cases x with
    | v d => exact Rep.lf n' (show Rep K F' y d from s) hk.1
    | b _ => exact s.elim
    | o ds =>
      obtain ⟨a, rfl, o1, o2, o3, xs, o4, o5⟩ := s
      have o3' : H a = none := o3
      have f0 : F a = none := R.rh.sub.free o3'
      have m0 : om a = none := by
        cases q : om a with
        | none => rfl
        | some ob =>
          obtain ⟨u, hu⟩ := (R.rh.obj a ob q).2.some
          rw [o3'] at hu; cases hu
      refine ⟨a, rfl, ⟨?_, m0, R.ext.dom a o3', xs, o4, o5.lf n' hk.1⟩, fun j es e z => ?_⟩
      · simp only [backF, f0, o3']; exact o1
      obtain ⟨y, e1, a', e2, _, _, _, ys, e3, _⟩ := R.slot j (.o es) e
      rw [z] at e1
      cases e1
      cases e2
      rw [o3'] at e3; cases e3
  · obtain ⟨R', s', n'⟩ := key rh ex
    refine hX e _ H' cls d R' ?_ hk.2
    obtain ⟨h1, h2⟩ := he
    refine ⟨h1, ?_⟩
    obtain ⟨hl, _⟩ := hk
    unfold lfX at hl
    cases q : e.fs with
    | none => rw [q] at h2; exact h2
    | some fs =>
      rw [q] at h2 hl
      obtain ⟨a, xs, e1, e2, e3⟩ := h2
      exact ⟨a, xs, e1, n' _ _ e2 (fun _ z => nomatch z), e3.lf n' hl⟩
def flatD : D → Bool
  | .non => true
  | .bl _ => true
  | .int _ => true
  | .str _ => true
  | _ => false
def flatR : RV → Prop
  | .v d => flatD d = true
  | .o ds => ds.all flatD = true
  | .b _ => False
def wCallB (df : DF) (dds : List D) (wa : WA) : WE := fun xq r om k => wa xq r om fun xs r1 om1 => wd (datsB r1 om1 xs) fun ds => df (ds ++ dds) (fun _ => none) (fun x _ => flatR x ∧ k x r1 om1) (fun _ _ => False)
end
end DL

set_option Elab.async false
set_option linter.all false
set_option maxRecDepth 100000
namespace DL
open PySem L2
section
variable {X : Cx} {K : PySem.W.Frag} {B : Base} {F F' H H' : Hp} {om : Om} {st : L2.St} {r : Env} {W : WX} {pos : Pos}
def wIsi2 (n m : String) (we : WE) : WE := fun xq r om k => we xq r om fun x r1 om1 => wd (datB r1 om1 x) fun d => wd (tyD d) fun t => wd (isiD t n) fun b1 => wd (isiD t m) fun b2 => k (.v (.bl (b1 || b2))) r1 om1
def isNon : D → Bool
  | .non => true
  | _ => false
def pIsNo : P2 := fun d e c => match d, e with
  | .raw _, _ => False
  | d, .non => c (.v (.bl (isNon d)))
  | _, _ => False
def pNotNo : P2 := fun d e c => match d, e with
  | .raw _, _ => False
  | d, .non => c (.v (.bl (!isNon d)))
  | _, _ => False
def inD (d : D) (es : List D) : Bool := es.any fun e => eqD e d
def pIn : P2 := fun d e c => wd (lstO e) fun es => okE d ∧ okE (.lst es) ∧ c (.v (.bl (inD d es)))
def pNotIn : P2 := fun d e c => wd (lstO e) fun es => okE d ∧ okE (.lst es) ∧ c (.v (.bl (!inD d es)))
theorem any_pys (d : D) : ∀ es : List D, (pys es).any (fun z => PyData.eqv z (py d)) = inD d es
  | [] => rfl
  | e :: es => by simp only [pys, List.any_cons, any_pys d es]; rfl
theorem RepB.lstDp (s : Same F H) {y : V} {e : D} {es : List D} (h : RepB K F H y e) (he : DL.lstO e = some es) (ho : okPy (.lst es) = true) : Dp K H y (.list (pys es)) := by
  obtain ⟨a, xs, rfl, h1, h2⟩ := h.lstO s he
  exact .lst h1 (h2.dp s (by simpa [okPy] using ho))
theorem o_in {k : Nat} (hr : GRoom k X.A) : O2 X (compareOp .In) (rInD X.K) pIn := ⟨op_inD (by have := hr.un; omega), fun F H x y d e c Q s rx ry hp hQ => by
  obtain ⟨es, e1, h1, h2, hp⟩ := wd_iff hp
  refine ⟨py d, pys es, rx.dp s h1.1, ry.lstDp s e1 h2.1, h1.2, by simpa [py] using h2.2, ?_⟩
  rw [any_pys]
  exact vres s (.bl _) hp hQ⟩
theorem o_notin {k : Nat} (hr : GRoom k X.A) : O2 X (compareOp .NotIn) (rNotInD X.K) pNotIn := ⟨op_notInD (by have := hr.un; omega), fun F H x y d e c Q s rx ry hp hQ => by
  obtain ⟨es, e1, h1, h2, hp⟩ := wd_iff hp
  refine ⟨py d, pys es, rx.dp s h1.1, ry.lstDp s e1 h2.1, h1.2, by simpa [py] using h2.2, ?_⟩
  rw [any_pys]
  exact vres s (.bl _) hp hQ⟩
end
end DL

set_option Elab.async false
set_option linter.all false
set_option maxRecDepth 100000
namespace DL
open PySem L2 PyProof.Rows
section
variable {X : Cx} {CX : CXT} {k n : Nat} {f : Addr} {fd : FuncData} {ps ks : List Str} {sp : Sp} {E : L2.St → XK} {x : Str} {p pos : Pos} {e : Expr} {es : List Expr} {kws : List Keyword} {t tk : TA} {g : List Value → List Value → List Value} {gV : List V → List V → List V}
def tCallKw (n m : Nat) (sp : Sp) (gV : List V → List V → List V) (E : L2.St → XK) (t tk : TA) : TE := fun σ H Q => t σ H fun vs H1 => tk σ H1 fun zs H2 => vs.length = n ∧ zs.length = m ∧ sp (gV vs zs) H2 Q (E σ)
end
section
variable {X : Cx} {K : PySem.W.Frag} {W : WX} {pos : Pos}
structure DK (X : Cx) (W : WX) (kws : List Keyword) (t : TA) (w : WA) : Prop where
  p : PK X kws t
  s : SA X.K W t w
def wCallK (df : DF) (n m : Nat) (gD : List D → List D → List D) (wa wk : WA) : WE := fun xq r om k => wa xq r om fun xs r1 om1 => wd (datsE xs) fun ds => wk xq r1 om1 fun zs r2 om2 => wd (datsE zs) fun es =>
  (ds.length = n ∧ es.length = m) ∧ df (gD ds es) om2 (fun x om' => k x r2 om') (fun ex om' => xq ex r2 om')
def GRep (K : PySem.W.Frag) (gV : List V → List V → List V) (gD : List D → List D → List D) : Prop := ∀ (F : Hp) (vs zs : List V) (ds es : List D), RepA K F vs ds → RepA K F zs es → RepA K F (gV vs zs) (gD ds es)
def DefK (P : Program) (w : World) (K : PySem.W.Frag) (mg : Str → Option Value) (base : Heap) (x : Str) (c : Con) (k n : Nat) (ks : List Str) (gV : List V → List V → List V) : Prop :=
  ∃ (a : Addr) (fd : FuncData) (ps : List Str) (g : List Value → List Value → List Value), GFn P w K mg base (L2.CX P w) k a fd ps (toSp K c) ∧ mg x = some (.ref a) ∧ PySem.W.keepIn K (.ref a) = true ∧ KBn K fd ps n ks g gV
end
section
variable {K : PySem.W.Frag} {x qual : Str} {params : Arguments} {body : List Stmt} {scope : Scope} {dvs : List V} {kws : List (Str × V)} {f : Addr} {fd : FuncData} {ps : List Str}
end
end DL

set_option Elab.async false
set_option linter.all false
set_option maxRecDepth 100000
namespace DL
open PySem L2 PyProof.Rows
section
variable {X : Cx} {K : PySem.W.Frag} {F H : Hp} {W : WX} {pos : Pos}
structure Exc0 (K : PySem.W.Frag) (mg : Str → Option Value) (x : Str) : Prop where
  g : mg x = some (.ref (He.ga K x))
  e : PySem.W.excIn K (He.ga K x) He.veBase "ValueError.__new__" = true
  k : PySem.W.keepIn K (.ref (He.ga K x)) = true
  b : PySem.W.subIn K (.ref (He.ga K x)) (.type "BaseException") = some true
  t : PySem.W.typeIn K (.ref (He.ga K x)) = some (.type "type")
def wRaise (x : Str) : WS := fun e r om => e.xq ⟨x, none⟩ r om
theorem ds_raise {x m : Str} {j : Nat} {p p2 p3 : Pos} (T : Exc0 X.K X.mg x) (tk : Takes X W) (hc : X.calm = true := by rfl) (hg : Gl X x := by rfl) (hdb : (x == ("__debug__" : Str)) = false := by decide) :
    DS X W (.Raise (some (.Call (.Name x p) [.Constant (.str m) j p2] [] p3)) none pos) (fun _ σ H => W (.ref (He.ga X.K x)) none σ H) (wRaise x) :=
  ⟨ps_raise hc tk (pmk_own PySem.F.excBase_ValueError T.e T.g T.k (raises_own T.b T.t) hg (hdb := hdb)), fun B F om H st r D e R hx hE hw => hx _ _ _ _ _ _ _ _ R ⟨rfl, rfl⟩ hw⟩
def spInit (C : Addr) (fs : List Str) : Sp := fun vs H Q _ => ∃ (a : Addr) (ws : List V), vs = .ref a :: ws ∧ ws.length = fs.length ∧ H a = some (exo a C none) ∧
  ∀ (dx : Addr) (H' : Hp), H dx = none → dx ≠ a → H' a = some (exo a C (some dx)) → H' dx = some (exd dx (fs.reverse.zip ws.reverse)) → (∀ b, b ≠ a → b ≠ dx → H' b = H b) → Q .non H'
structure ExcF (P : Program) (w : World) (K : PySem.W.Frag) (mg : Str → Option Value) (base : Heap) (x : Str) (fs : List Str) : Prop where
  g : mg x = some (.ref (He.ga K x))
  o : OexC K (He.ga K x)
  fn : ∃ (fI : Addr) (fd : FuncData) (ps : List Str), PySem.W.findIn K (.ref (He.ga K x)) "__init__" = some (some (.ref fI)) ∧ PySem.W.typeIn K (.ref fI) = some (.type "function") ∧
    L2.FnOk P w K mg base (L2.CX P w) 1 fI fd ps (spInit (He.ga K x) fs) ∧ Binds K fd ps []
def wRaiseF (x : Str) (fs : List Str) (wa : WA) : WS := fun e r om => wa e.xq r om fun xs r1 om1 => wd (datsE xs) fun ds => (ds.length = fs.length ∧ ds.length ≤ 1000) ∧ e.xq ⟨x, some (fs.reverse.zip ds.reverse)⟩ r1 om1
end
section
variable {K : PySem.W.Frag} {a C dx : Addr}
def tInit (K : PySem.W.Frag) : Nat → List Str → TS
  | _, [] => tNext
  | j, [f] => tOst K f (tVar 0) (tVar j)
  | j, f :: g :: r => tSeq (tOst K f (tVar 0) (tVar j)) (tInit K (j + 1) (g :: r))
end
end DL

set_option Elab.async false
set_option linter.all false
set_option maxRecDepth 100000
namespace DL
open PySem L2 PyProof.Rows PySem.Spec
section
variable {X : Cx} {pins : List (Addr × Obj)} {σ : L2.St} {H : Hp} {s : Shared}
theorem eox_ok {P : Program} {w : World} {H : Hp} {h : Heap} {a : Addr} {cls : Value} {d : Option Addr} {oe : Obj} {vs : Array Value} (e : h.get? a = some oe) (z : Zc cls d oe) (hd : oe.data = .fields vs) : ObjOk P w H h a (EOx a cls d) :=
  ⟨⟨oe, vs, e, z, hd⟩, ⟨oe, e⟩, fun _ _ ⟨o, v, q, r⟩ k => ⟨o, v, k o q, r⟩⟩
theorem Inv.track {a : Addr} {o : HO} (I : Inv X pins σ H s) (na : H a = none) (h0 : X.s_0.heap.get? a = none) (nL : a ≠ X.env.locals) (nC : ∀ v, ¬ s.heap.IsCell a v) (nP : ∀ p ∈ X.pn ++ pins, p.1 ≠ a) (new : ObjOk X.prog X.w (upd H a o) s.heap a o) : Inv X pins σ (upd H a o) s := by
  have ne0 : ∀ b u, X.s_0.heap.get? b = some u → b ≠ a := fun b u e z => by rw [z, h0] at e; cases e
  have neC : ∀ x c, X.env.cells.lookup x = some c → c ≠ a := fun x c e z => by
    obtain ⟨v, q⟩ := I.cell x c e
    rw [z] at q
    exact nC v q
  refine ⟨I.ok, I.os, I.bare, ⟨I.base.keep, I.base.slot, fun b u e n hx => ?_, I.base.there, fun b xs e => ?_, fun b u v e => ?_, fun b ps e => ?_⟩, I.loc, I.cell, ?_, fun x c e => ?_, fun p hp => ?_, fun b u e => ?_, I.len⟩
  · rw [upd_ne (ne0 b u e)]; exact I.base.free b u e n hx
  · have q := I.base.tups b xs e
    rw [upd_ne (ne_of_none q na)]; exact q
  · have q := I.base.frzs b u v e
    rw [upd_ne (ne_of_none q na)]; exact q
  · obtain ⟨m, q⟩ := I.base.tbls b ps e
    exact ⟨m, by rw [upd_ne (ne_of_none q na)]; exact q⟩
  · rw [upd_ne (Ne.symm nL)]; exact I.free
  · rw [upd_ne (neC x c e)]; exact I.freeC x c e
  · obtain ⟨e, n, r⟩ := I.pin p hp
    exact ⟨e, by rw [upd_ne (nP p hp)]; exact n, r⟩
  · by_cases hb : b = a
    · subst hb
      rw [upd_same] at e
      cases e
      exact new
    · rw [upd_ne hb] at e
      exact (I.hok b u e).stay (fun c v _ q => q) (fun c q => by rw [upd_ne (ne_of_none q na)]; exact q) fun c xs q => by rw [upd_ne (ne_of_none q na)]; exact q
theorem Inv.suiteT (I : Inv X pins σ H s) (a : Addr) : Inv (X.suite a (X.pn ++ pins)) [] σ H s :=
  ⟨I.ok.suite _ _, I.os, I.bare, I.base, I.loc, I.cell, I.free, I.freeC, fun p hp => I.pin p (by rw [List.append_nil] at hp; exact hp), I.hok, I.len⟩
theorem Inv.unsuiteT {a : Addr} {pn' : List (Addr × Obj)} (I : Inv (X.suite a (X.pn ++ pins)) pn' σ H s) (ok : X.Ok) : Inv X pins σ H s :=
  ⟨ok, I.os, I.bare, I.base, I.loc, I.cell, I.free, I.freeC, fun p hp => I.pin p (List.mem_append_left _ hp), I.hok, I.len⟩
end
def wAsT (K : PySem.W.Frag) (c : Value) (i : Nat) (ts : TS) (Wout : WX) (D : Ends) : WX := fun cls d σ H =>
  ∃ b, PySem.W.exmOne K cls c = some b ∧ (b = true → ∀ a, H a = none → ts { nx := fun σ' H' => D.nx (σ'.set i none) H', rt := D.rt, bk := fun σ' H' => D.bk (σ'.set i none) H', ct := fun σ' H' => D.ct (σ'.set i none) H' } (σ.set i (some (.ref a))) (upd H a (EOx a cls d))) ∧
    (b = false → Wout cls d σ H)
section
variable {X : Cx} {x n : Str} {c : Value} {i : Nat} {body suite : List Stmt} {b₀ : Stmt} {np pos pos' : Pos} {tb : WX → TS} {ts : TS} {Wout : WX}
theorem ps_try_asT (hs : X.stack = X.env :: X.outer) (hf : X.env.frame = some X.env.locals) (hex : X.ex = []) (hN : X.N.Nodup) (hi : X.N[i]? = some n) (hln : X.env.kindOf n = some .local) (hc : Names X x c) (tk : Takes X Wout)
    (hb : ∀ (W : WX) (pn : List (Addr × Obj)) (xe : Value → Shared → Prop), Takes (X.tr pn xe) W → PassesOwn (model X.prog X.w) X.A X.env xe → PSs (X.tr pn xe) body (tb W))
    (hsu : ∀ (a : Addr) (pn : List (Addr × Obj)), PSs (X.suite a pn) (b₀ :: suite) ts) :
    PS X (.Try body [.ExceptHandler (some (.Name x np)) (some n) (b₀ :: suite) pos'] [] [] pos) (fun D σ H => tb (wAsT X.K c i ts Wout D) D σ H) := by
  refine ⟨fun pins s σ H D I h => ?_⟩
  have ok := I.ok
  have hfr : X.A.frames = some (X.env :: X.outer) := by rw [ok.frames, hs]
  have hloc : Loc X.env.scope n := .inl hln
  refine wpAny_Try_except ?_
  refine wpAny_mono ((hb (wAsT X.K c i ts Wout D) (X.pn ++ pins) (fun e s₁ => wpAny (model X.prog X.w) X.A (noteFrame e X.env) (fun _ s₂ => wpAny (model X.prog X.w) X.A (setFlight e none) (fun _ s₃ =>
    wpAny (model X.prog X.w) X.A (handleBy e X.env [.ExceptHandler (some (.Name x np)) (some n) (b₀ :: suite) pos']) (SP X pins D) X.xe s₃) X.xe s₂) X.xe s₁) (fun u s' xx => ?_) PassesOwn.looking).run [] s σ H D (I.toTry _) h) (fun f s1 hsp => ?_) (fun e s1 he => he)
  · -- the catch
    obtain ⟨a, B, sI, pins', σ', H', cls, d, rfl, J', nb, up, sky, na, os, ag, b, hb1, hyes, hno⟩ := xx
    have J : Inv X pins σ' H' sI := J'.ofTry ok
    have sky' : Sky B (X.env :: X.outer) a (Zc cls d) X.env.locals s'.heap := by rw [← hs]; exact sky
    show wpAny (model X.prog X.w) X.A (noteFrame (.ref a) X.env) _ _ _
    refine Sky.land Zc.steady hfr hf sky' fun h3 fl3 up3 => ?_
    have J3 : Inv X pins σ' H' { s' with heap := h3 } := J.landed nb fl3.1 (up.trans up3) os ag
    obtain ⟨oe3, vs3, he3, hz3, hd3⟩ := fl3.there
    have notFr : ∀ {h : Heap} {o : Obj} {vs : Array Value}, h.FunFrames B (X.env :: X.outer) → h.get? a = some o → o.data = .fields vs → a ∉ frs (X.env :: X.outer) := fun {h o vs} ff e dd hm => by
      obtain ⟨_, o', e', hnf⟩ := ff.mem hm
      rw [e] at e'; cases e'
      exact hnf _ dd
    have nfr := notFr fl3.2.2.1 he3 hd3
    have nL : a ≠ X.env.locals := fun z => nfr (List.mem_filterMap.mpr ⟨X.env, List.mem_cons_self, by rw [hf, z]⟩)
    have nF : a ∉ X.fs := fun hm => by
      obtain ⟨e, he, q⟩ := List.mem_filterMap.mp hm
      exact nfr (List.mem_filterMap.mpr ⟨e, List.mem_cons_of_mem _ he, q⟩)
    have S3 := J3.suite he3 hd3 na nL nF
    have nI : sI.heap.get? a = none := by
      cases q : sI.heap.get? a with
      | none => rfl
      | some o =>
        have z := nb a o q (by rw [hs]; exact nfr)
        rw [fl3.2.1] at z; cases z
    have n0 : X.s_0.heap.get? a = none := by
      cases q : X.s_0.heap.get? a with
      | none => rfl
      | some o =>
        obtain ⟨o', z⟩ := J.base.there a o q (by rw [hex]; exact fun z => nomatch z)
        rw [nI] at z; cases z
    have nP : ∀ p ∈ X.pn ++ pins, p.1 ≠ a := fun p hp z => by
      have q := (J.pin p hp).1
      rw [z, nI] at q; cases q
    refine wpAny_handleBy_cons (codeAny_handlers_test ?_) (by intro q; cases q)
    have LT : PySem.W.Looks (model X.prog X.w) h3 (typeOf (.ref a)) cls := fun A Q E s k q => wpAny_typeOf_ref (k _ _ he3) (by rw [hz3.1]; exact q)
    have LM := PySem.W.exm_one (M := model X.prog X.w) (J3.kIn) LT hb1
    have test : ∀ {Q : Value → Shared → Prop} {E : Value → Shared → Prop}, Q c { s' with heap := h3 } → wpAny (model X.prog X.w) (X.A.mark (some (.ref a))) (eval (.Name x np) X.env) Q E { s' with heap := h3 } := fun {Q E} q => by
      obtain ⟨hg, hdbg, hm | ⟨hm, hv, hnn⟩⟩ := hc
      · exact ld_glob (X := X.suite a ((a, oe3) :: (X.pn ++ pins))) S3 hg hm q hdbg
      · exact ld_blt (X := X.suite a ((a, oe3) :: (X.pn ++ pins))) S3 hg hm hv q hnn hdbg
    refine test (LM.here ?_)
    cases b with
    | true =>
      refine codeAny_handlers_suite_as ?_
      refine HandSPX.lands_againZ fl3 fun h4 fl4 up4 => ?_
      have J4 : Inv X pins σ' H' { s' with heap := h4 } := J.landed nb fl4.1 ((up.trans up3).trans up4) os ag
      obtain ⟨oe4, vs4, he4, hz4, hd4⟩ := fl4.there
      have J5 : Inv X pins σ' (upd H' a (EOx a cls d)) { s' with heap := h4 } := Inv.track J4 na n0 nL (fun v ⟨o, q1, q2⟩ => by rw [he4] at q1; cases q1; rw [hd4] at q2; cases q2) nP (eox_ok he4 hz4 hd4)
      have S4 := Inv.suiteT J5 a
      refine store_ok (X := X.suite a (X.pn ++ pins)) (v := .ref a) S4 hN hi hloc rfl (fun s5 S5 => ?_) (.inr hln)
      refine wpAny_mono ((hsu a (X.pn ++ pins)).run [] s5 _ _ _ S5 (hyes rfl a na)) (fun f s6 hsp => ?_) (fun _ _ z => False.elim z)
      have end_ : ∀ {σ6 : L2.St} {H6 : Hp} {Q : Shared → Prop}, Inv (X.suite a (X.pn ++ pins)) [] σ6 H6 s6 → (∀ s7, Inv X pins (σ6.set i none) H6 s7 → Q s7) →
          wpAny (model X.prog X.w) X.A (do bindName X.env n .none; unbindBehindTheSuite X.env n pos') (fun _ s7 => Q s7) X.xe s6 := fun {σ6 H6 Q} S6 hq => gone_ok (Inv.unsuiteT S6 ok) hN hi hln hq
      cases f with
      | next =>
        obtain ⟨σ6, H6, S6, q6⟩ := hsp
        exact end_ S6 fun s7 J7 => ⟨_, _, J7, q6⟩
      | brk =>
        obtain ⟨σ6, H6, S6, q6⟩ := hsp
        exact end_ S6 fun s7 J7 => ⟨_, _, J7, q6⟩
      | cont =>
        obtain ⟨σ6, H6, S6, q6⟩ := hsp
        exact end_ S6 fun s7 J7 => ⟨_, _, J7, q6⟩
      | ret u =>
        obtain ⟨v6, σ6, H6, S6, r6, q6⟩ := hsp
        exact end_ S6 fun s7 J7 => ⟨_, _, _, J7, r6, q6⟩
    | false =>
      show wpAny _ X.A (handleBy (.ref a) X.env []) _ _ _
      refine wpAny_handleBy_nil ?_
      obtain ⟨k1, k2, k3, oe, vs, T, oT, ts', he, hz, hd, h1, hr⟩ := id fl3
      unfold PySem.passOn
      refine wpAny_bind (wpAny_field he hd h1 ?_)
      rw [if_neg (show ¬ ((Value.ref T == Value.none) = true) from by simp)]
      have fin : wpAny (model X.prog X.w) X.A (setFlight (.ref a) X.env.frame) (fun _ s4 => wpAny (model X.prog X.w) X.A (throw (.ref a) : Sem Flow) (SP X pins D) X.xe s4) X.xe { s' with heap := h3 } := by
        rw [hf]
        refine HandSPX.setFlight_upZ fl3 fun h4 hh4 up4 => wpAny_throw (tk _ _ ?_)
        exact ⟨a, B, sI, pins, σ', H', cls, d, rfl, J, nb, (up.trans up3).trans up4, .inr (.inr (by rw [hs]; exact hh4)), na, os, ag, hno rfl⟩
      first
        | exact wpAny_bind (wpAny_pure (wpAny_bind fin))
        | exact wpAny_bind fin
  · cases f with
    | next =>
      obtain ⟨σ', H', J', q⟩ := hsp
      exact wpAny_execs_nil ⟨σ', H', J'.ofTry ok, q⟩
    | brk =>
      obtain ⟨σ', H', J', q⟩ := hsp
      exact ⟨σ', H', J'.ofTry ok, q⟩
    | cont =>
      obtain ⟨σ', H', J', q⟩ := hsp
      exact ⟨σ', H', J'.ofTry ok, q⟩
    | ret u =>
      obtain ⟨v, σ', H', J', r, q⟩ := hsp
      exact ⟨v, σ', H', J'.ofTry ok, r, q⟩
end
section
variable {X : Cx} {K : PySem.W.Frag} {F H : Hp} {W : WX} {pos : Pos}
def exD (ex : Exn) : D := match ex.fs with
  | none => .exc ex.cls [] []
  | some fs => .exc ex.cls (fs.map (·.1)) (fs.map (·.2))
def endTry (i : Nat) (e : DEnds) : DEnds := { nx := fun r om => e.nx (r.set i none) om, rt := e.rt, bk := fun r om => e.bk (r.set i none) om, ct := fun r om => e.ct (r.set i none) om }
def xTry (i : Nat) (sub : Str → Option Bool) (ws : WS) (e : DEnds) : DX := fun ex r om => wd (sub ex.cls) fun b => if b = true then i < r.length ∧ ws (endTry i e) (r.set i (some (.v (exD ex)))) om else e.xq ex r om
def wTryAs (i : Nat) (sub : Str → Option Bool) (wb : WS) (ws : WS) : WS := fun e r om => wb { nx := e.nx, rt := e.rt, bk := e.bk, ct := e.ct, xq := xTry i sub ws e } r om
theorem Rel.clear {B : Base} {om : Om} {st : L2.St} {r : Env} (R : Rel K B F om H st r) (i : Nat) : Rel K B F om H (st.set i none) (r.set i none) := by
  refine ⟨R.rh, R.ext, by simp [R.len], fun j x e => ?_, fun j k a ds es e1 e2 e3 e4 => ?_⟩
  · by_cases h : i = j
    · subst h
      by_cases hl : i < r.length
      · rw [List.getElem?_set_self hl] at e; cases e
      · rw [List.getElem?_eq_none (by simpa using hl)] at e; cases e
    · rw [List.getElem?_set_ne h] at e ⊢; exact R.slot j x e
  · have f : ∀ {l : Nat} {x : RV}, (r.set i none)[l]? = some (some x) → i ≠ l := fun {l x} e h => by
      subst h
      by_cases hl : i < r.length
      · rw [List.getElem?_set_self hl] at e; cases e
      · rw [List.getElem?_eq_none (by simpa using hl)] at e; cases e
    have n1 := f e1
    have n2 := f e2
    rw [List.getElem?_set_ne n1] at e1 e3
    rw [List.getElem?_set_ne n2] at e2 e4
    exact R.dis j k a ds es e1 e2 e3 e4
def xe0 (X : Cx) : Value → Shared → Prop := fun e s₁ => wpAny (model X.prog X.w) X.A (noteFrame e X.env) (fun _ s₂ => wpAny (model X.prog X.w) X.A (setFlight e none) (fun _ _ => True) X.xe s₂) X.xe s₁
theorem ds_tryAs (i : Nat) {x n : Str} {hv : Value} {sub : Str → Option Bool} {body suite : List Stmt} {b₀ : Stmt} {np pos' : Pos} {tb : WX → TS} {wb : WS} {ts : TS} {ws : WS}
    (hN : X.N.Nodup) (hc : Names X x hv) (tk : Takes X W) (hsub : ∀ c b, sub c = some b → PySem.W.exmOne X.K (.ref (He.ga X.K c)) hv = some b)
    (hb : ∀ (W : WX) (pn : List (Addr × Obj)) (xe : Value → Shared → Prop), Takes (X.tr pn xe) W → PassesOwn (model X.prog X.w) X.A X.env xe → DSs (X.tr pn xe) W body (tb W) wb)
    (hsu : ∀ (a : Addr) (pn : List (Addr × Obj)), DSs (X.suite a pn) W0 (b₀ :: suite) ts ws)
    (hs : X.stack = X.env :: X.outer := by rfl) (hf : X.env.frame = some X.env.locals := by rfl) (hex : X.ex = [] := by rfl) (hi : X.N[i]? = some n := by rfl) (hln : X.env.kindOf n = some .local := by rfl) :
    DS X W (.Try body [.ExceptHandler (some (.Name x np)) (some n) (b₀ :: suite) pos'] [] [] pos) (fun D σ H => tb (wAsT X.K hv i ts W D) D σ H) (wTryAs i sub wb ws) := by
  refine ⟨ps_try_asT hs hf hex hN hi hln hc tk (fun W pn xe tk hp => (hb W pn xe tk hp).p) fun a pn => (hsu a pn).p, fun B F om H st r D e R hx hE hw => ?_⟩
  have tk0 : ∀ W : WX, Takes (X.tr [] (xe0 X)) W := fun W u s' xx => by
    obtain ⟨a, B, sI, pins', σ', H', cls, d, rfl, J', nb, up, sky, na, os, ag, _⟩ := xx
    have hfr : X.A.frames = some (X.env :: X.outer) := by rw [← hs]; exact J'.ok.frames
    have sky' : Sky B (X.env :: X.outer) a (Zc cls d) X.env.locals s'.heap := by rw [← hs]; exact sky
    show wpAny (model X.prog X.w) X.A (noteFrame (.ref a) X.env) _ _ _
    exact Sky.land Zc.steady hfr hf sky' fun h3 fl3 up3 => trivial
  refine (hb _ [] (xe0 X) (tk0 _) PassesOwn.looking).s B F om H st r D { nx := e.nx, rt := e.rt, bk := e.bk, ct := e.ct, xq := xTry i sub ws e } R ?_ ⟨hE.nx, hE.rt, hE.bk, hE.ct⟩ hw
  intro ex r1 om1 F1 H1 st1 cls d R1 he hw
  obtain ⟨b, eb, hw⟩ := wd_iff hw
  obtain ⟨ec, he2⟩ := he
  refine ⟨b, by rw [ec]; exact hsub _ _ eb, fun hbt a ha => ?_, fun hbf => hx ex r1 om1 F1 H1 st1 cls d R1 ⟨ec, he2⟩ ?_⟩
  · rw [if_pos hbt] at hw
    obtain ⟨hl, hw⟩ := hw
    obtain ⟨s2, R2⟩ := R1.alloc (o := EOx a cls d) ha
    have rp : Rep X.K (upd F1 a (EOx a cls d)) (.ref a) (exD ex) := by
      unfold exD
      cases hfs : ex.fs with
      | none =>
        rw [hfs] at he2
        have he3 : d = none := he2
        subst he3
        exact .exc0 (by rw [upd_same, ec])
      | some fs =>
        rw [hfs] at he2
        obtain ⟨dd, xs, e1, e2, e3⟩ := he2
        subst e1
        exact .exc1 (by rw [upd_same, ec]) (s2 _ _ e2) (e3.mono s2)
    have R3 := R2.put (i := i) (y := .ref a) (x := .v (exD ex)) rp (fun j z => nomatch z) hl
    exact (hsu a []).s B _ om1 _ _ _ _ (endTry i e) R3 (fun _ _ _ _ _ _ _ _ _ _ z => z.elim) ⟨fun r om F H st R q => hE.nx _ _ _ _ _ (R.clear i) q, hE.rt, fun r om F H st R q => hE.bk _ _ _ _ _ (R.clear i) q, fun r om F H st R q => hE.ct _ _ _ _ _ (R.clear i) q⟩ hw
  · rw [hbf] at hw; exact hw
end
end DL

set_option Elab.async false
set_option linter.all false
set_option maxRecDepth 100000
namespace DL
open PySem L2 PyProof.Rows
section
variable {X : Cx} {K : PySem.W.Frag} {F H : Hp} {W : WX} {pos : Pos}
structure ExcI (K : PySem.W.Frag) (C : Addr) : Prop where
  cl : (PySem.W.clsIn K C).isSome = true
  ga : PySem.W.findIn K (.ref C) "__getattribute__" = some (some (.builtin "BaseException.__getattribute__"))
  gg : PySem.W.findIn K (.ref C) "__getattr__" = some none
  sb : PySem.W.subIn K (.ref C) (.type "BaseException") = some true
  hd : PySem.W.hasDictIn K C = true
  ca : PySem.W.findIn K (.ref C) "__class__" = some (some (.builtin "object.__class__"))
  cg : PySem.W.specialIn K (.builtin "object.__class__") "__get__" = some (some (.builtin "getset_descriptor.__get__"))
  tk : PySem.W.takesIn K (.builtin "object.__class__") = some true
  mo : PySem.W.mroIn K C (.type "object") = some true
theorem excI_ok {C : Addr} (h : excI K C = true) : ExcI K C := by
  simp only [excI, Bool.and_eq_true, decide_eq_true_eq] at h
  obtain ⟨h1, h2, h3, h4, h5, h6, h7, h8, h9⟩ := h
  exact ⟨h1, h2, h3, h4, h5, h6, h7, h8, h9⟩
theorem ExcI.xf {C : Addr} (h : ExcI K C) : XfC K C := ⟨h.ga, h.gg, h.sb, h.hd⟩
def XdAt (H : Hp) (d : Option Addr) : Prop := d = none ∨ ∃ dd fs, d = some dd ∧ H dd = some (.xd fs)
theorem kit_ex {pins : List (Addr × Obj)} {σ : L2.St} {s : Shared} {a C : Addr} {d : Option Addr} (I : Inv X pins σ H s) (T : ExcI X.K C) (ha : H a = some (EOx a (.ref C) d)) (hx : XdAt H d) :
    ∃ P : Heap → Prop, PySem.W.KitX X.K (.ref a) (.ref C) P ∧ P s.heap := by
  obtain ⟨⟨oe, vs, hget, hz, hv⟩, _, _⟩ := (show ObjOk X.prog X.w H s.heap a (EOx a (.ref C) d) from I.hok a _ ha)
  have hnc : PySem.W.notCls oe = true := by unfold PySem.W.notCls; rw [hv] <;> rfl
  rcases hx with rfl | ⟨dd, fs, rfl, hd⟩
  · exact ⟨_, PySem.W.kitx_exc (gt := none) (ox := oe) (od := none) T.cl T.ga T.gg T.sb T.ca T.cg T.tk T.mo, ⟨hget, hz.1, hnc, by rw [hz.2]; trivial⟩⟩
  · obtain ⟨mA, hns, hr⟩ := (show ObjOk X.prog X.w H s.heap dd (.xd fs) from I.hok dd _ hd)
    obtain ⟨od, ho, hl⟩ := lookIn_ns hns
    exact ⟨_, PySem.W.kitx_exc (gt := none) (ox := oe) (od := some od) T.cl T.ga T.gg T.sb T.ca T.cg T.tk T.mo, ⟨hget, hz.1, hnc, by rw [hz.2]; exact ho⟩⟩
def rIsX (K : PySem.W.Frag) : List V → Hp → VK → Prop := fun xs H Q => ∃ (a C : Addr) (d : Option Addr) (c : V) (u : Value) (b : Bool), xs = [.ref a, c] ∧ H a = some (EOx a (.ref C) d) ∧ XdAt H d ∧ ExcI K C ∧ ClsV c u ∧ PySem.W.kitOne K (.ref C) u = some b ∧ Q (.bl b) H
theorem call_isX : CallR X (.builtin "isinstance") (rIsX X.K) := by
  intro pins s σ H xs us Q I r h
  obtain ⟨a, C, d, c, u, b, rfl, ha, hx, T, k, e, q⟩ := h
  obtain ⟨u1, u2, rfl, r1, r2⟩ := vals2 r
  cases (show u1 = Value.ref a from r1)
  have e2 := k.eq r2
  subst e2
  obtain ⟨P, Z, p⟩ := kit_ex I T ha hx
  exact PySem.W.kia_one Z I.kIn p e (fun z => nomatch z) fun tk => ⟨.bl b, H, I.tok tk, rfl, q⟩
def rIsXT (K : PySem.W.Frag) : List V → Hp → VK → Prop := fun xs H Q => ∃ (a C : Addr) (d : Option Addr) (tp : Addr) (cs : List V) (us : List Value) (b : Bool), xs = [.ref a, .ref tp] ∧ H a = some (EOx a (.ref C) d) ∧ XdAt H d ∧ ExcI K C ∧ SqT K H tp cs ∧ Paired ClsV cs us ∧ PySem.W.kitAny K (.ref C) us = some b ∧ Q (.bl b) H
theorem call_isXT : CallR X (.builtin "isinstance") (rIsXT X.K) := by
  intro pins s σ H xs us Q I r h
  obtain ⟨a, C, d, tp, cs, ws, b, rfl, ha, hx, T, hT, k, e, q⟩ := h
  obtain ⟨u1, u2, rfl, r1, r2⟩ := vals2 r
  cases (show u1 = Value.ref a from r1)
  cases (show u2 = Value.ref tp from r2)
  obtain ⟨P, Z, p⟩ := kit_ex I T ha hx
  obtain ⟨its, rv, ⟨o, h1, h2, n, h3⟩, _⟩ := I.tuple hT
  have e3 := ClsV.all k rv
  subst e3
  obtain ⟨oc, od, dt, sl⟩ := o
  simp only at h2 h3
  subst h2 h3
  exact PySem.W.kia_tup Z I.kIn p h1 e (fun z => nomatch z) fun tk => ⟨.bl b, H, I.tok tk, rfl, q⟩
structure ExTab (K : PySem.W.Frag) (tab : Str → D → Option Bool) : Prop where
  i : ∀ c x b, tab c x = some b → ExcI K (He.ga K c)
  o : ∀ c x b, tab c (.fn x) = some b → PySem.W.kitOne K (.ref (He.ga K c)) (.ref (He.ga K x)) = some b
  t : ∀ c n b, tab c (.raw (.ty n)) = some b → PySem.W.kitOne K (.ref (He.ga K c)) (.type n) = some b
def pIsX (tab : Str → D → Option Bool) : PN := fun ds k => match ds with
  | [.exc c _ _, .fn x] => wd (tab c (.fn x)) fun b => k (.v (.bl b))
  | [.exc c _ _, .raw (.ty n)] => wd (tab c (.raw (.ty n))) fun b => k (.v (.bl b))
  | _ => False
theorem RepB.excS {y : V} {c : Str} {ns : List Str} {vs : List D} (s : Same F H) (h : RepB K F H y (.exc c ns vs)) : ∃ a d, y = .ref a ∧ H a = some (EOx a (.ref (He.ga K c)) d) ∧ XdAt H d := by
  rcases h with h | ⟨a, xs, es, e1, e2, h1, h2⟩
  · cases h with
    | exc0 q => exact ⟨_, none, rfl, s _ _ q, .inl rfl⟩
    | exc1 q q' r => exact ⟨_, _, rfl, s _ _ q, .inr ⟨_, _, rfl, s _ _ q'⟩⟩
  · cases e2
theorem RepB.fnS {y : V} {x : Str} (h : RepB K F H y (.fn x)) : y = .ref (He.ga K x) := by
  rcases h with h | ⟨a, xs, es, e1, e2, h1, h2⟩
  · cases h; rfl
  · cases e2
theorem n_isX {tab : Str → D → Option Bool} (T : ExTab X.K tab) : ON X (.builtin "isinstance") (rIsX X.K) (pIsX tab) := ⟨call_isX, fun F H xs ds c Q s r hp hQ => by
  unfold pIsX at hp
  split at hp
  · next c' ns vs x =>
    obtain ⟨b, e1, hp⟩ := wd_iff hp
    obtain ⟨y, z, rfl, r1, r2⟩ := repBs2 r
    obtain rfl := r2.fnS
    obtain ⟨a, d, rfl, ha, hx⟩ := r1.excS s
    exact ⟨a, _, d, _, _, b, rfl, ha, hx, T.i _ _ _ e1, .own _, T.o _ _ _ e1, vres s (.bl _) hp hQ⟩
  · next c' ns vs n =>
    obtain ⟨b, e1, hp⟩ := wd_iff hp
    obtain ⟨y, z, rfl, r1, r2⟩ := repBs2 r
    obtain rfl := r2.rawS
    obtain ⟨a, d, rfl, ha, hx⟩ := r1.excS s
    exact ⟨a, _, d, _, _, b, rfl, ha, hx, T.i _ _ _ e1, .ty n, T.t _ _ _ e1, vres s (.bl _) hp hQ⟩
  · exact hp.elim⟩
def clsTab (tab : Str → D → Option Bool) (c : Str) (d : D) : Option Bool := match d with
  | .fn x => tab c (.fn x)
  | .raw (.ty n) => tab c (.raw (.ty n))
  | _ => none
def anyTab (tab : Str → D → Option Bool) (c : Str) : List D → Option Bool
  | [] => some false
  | d :: ds => match clsTab tab c d, anyTab tab c ds with
    | some true, some _ => some true
    | some false, some b => some b
    | _, _ => none
theorem kitAny_cons {K : PySem.W.Frag} {t u : Value} {us : List Value} {b : Bool} (h1 : PySem.W.kitOne K t u = some b) : PySem.W.kitAny K t (u :: us) = if b then some true else PySem.W.kitAny K t us := by
  simp only [PySem.W.kitAny, h1]
  cases b <;> rfl
theorem clsTab_ok {tab : Str → D → Option Bool} (T : ExTab K tab) {c : Str} {d : D} {v : V} {b : Bool} (r : Rep K F v d) (e : clsTab tab c d = some b) : ∃ u, ClsV v u ∧ PySem.W.kitOne K (.ref (He.ga K c)) u = some b := by
  unfold clsTab at e
  split at e
  · cases r; exact ⟨_, .own _, T.o _ _ _ e⟩
  · cases r; exact ⟨_, .ty _, T.t _ _ _ e⟩
  · cases e
theorem anyTab_ok {tab : Str → D → Option Bool} (T : ExTab K tab) {c : Str} : ∀ {ds : List D} {cs : List V} {b : Bool}, RepA K F cs ds → anyTab tab c ds = some b → ∃ us, Paired ClsV cs us ∧ PySem.W.kitAny K (.ref (He.ga K c)) us = some b
  | [], [], b, .nil, e => by cases e; exact ⟨[], .nil, rfl⟩
  | d :: ds, v :: vs, b, .cons r t, e => by
    unfold anyTab at e
    cases e1 : clsTab tab c d with
    | none => rw [e1] at e; cases e
    | some b1 =>
      cases e2 : anyTab tab c ds with
      | none => rw [e1, e2] at e; cases b1 <;> cases e
      | some b2 =>
        obtain ⟨us, hp, hk⟩ := anyTab_ok T t e2
        obtain ⟨u, k1, k2⟩ := clsTab_ok T r e1
        refine ⟨u :: us, .cons k1 hp, ?_⟩
        rw [kitAny_cons k2]
        rw [e1, e2] at e
        cases b1 with
        | true => simpa using e
        | false => rw [hk]; simpa using e
def pIsXT (tab : Str → D → Option Bool) : PN := fun ds k => match ds with
  | [.exc c _ _, .tup (e :: es)] => wd (clsTab tab c e) fun _ => wd (anyTab tab c (e :: es)) fun b => k (.v (.bl b))
  | _ => False
theorem clsTab_i {tab : Str → D → Option Bool} (T : ExTab K tab) {c : Str} {d : D} {b : Bool} (e : clsTab tab c d = some b) : ExcI K (He.ga K c) := by
  unfold clsTab at e
  split at e
  · exact T.i _ _ _ e
  · exact T.i _ _ _ e
  · cases e
theorem n_isXT {tab : Str → D → Option Bool} (T : ExTab X.K tab) : ON X (.builtin "isinstance") (rIsXT X.K) (pIsXT tab) := ⟨call_isXT, fun F H xs ds c Q s r hp hQ => by
  unfold pIsXT at hp
  split at hp
  · next c' ns vs e es =>
    obtain ⟨b0, e0, hp⟩ := wd_iff hp
    obtain ⟨b, e1, hp⟩ := wd_iff hp
    obtain ⟨y, z, rfl, r1, r2⟩ := repBs2 r
    obtain ⟨tp, cs, rfl, hT, hr⟩ := r2.tupS s
    obtain ⟨a, d, rfl, ha, hx⟩ := r1.excS s
    obtain ⟨us, hp', hk⟩ := anyTab_ok T hr e1
    exact ⟨a, _, d, tp, cs, us, b, rfl, ha, hx, clsTab_i T e0, hT, hp', hk, vres s (.bl _) hp hQ⟩
  · exact hp.elim⟩
def tXfT (K : PySem.W.Frag) (n : Str) (te : TE) : TE := fun σ H Q => te σ H fun x H1 => ∃ (a C dd : Addr) (fs : List (Str × V)) (v : V), x = .ref a ∧ H1 a = some (EOx a (.ref C) (some dd)) ∧ H1 dd = some (.xd fs) ∧ XfC K C ∧ PySem.W.findIn K (.ref C) n = some none ∧ fs.lookup n = some v ∧ Q v H1
structure FlTab (K : PySem.W.Frag) (fld : Str → Str → Bool) : Prop where
  f : ∀ c n, fld c n = true → XfC K (He.ga K c) ∧ PySem.W.findIn K (.ref (He.ga K c)) n = some none
def lookD (n : Str) : List Str → List D → Option D
  | m :: ms, d :: ds => if n == m then some d else lookD n ms ds
  | _, _ => none
def wXf (fld : Str → Str → Bool) (n : Str) (we : WE) : WE := fun xq r om k => we xq r om fun x r1 om1 => match x with
  | .v (.exc c ns vs) => fld c n = true ∧ wd (lookD n ns vs) fun d => k (.v d) r1 om1
  | _ => False
theorem n_isX' {tab : Str → D → Option Bool} {K' : PySem.W.Frag} (T : ExTab K' tab) (hK : X.K = K' := by rfl) : ON X (.builtin "isinstance") (rIsX K') (pIsX tab) := by
  subst hK; exact n_isX T
theorem n_isXT' {tab : Str → D → Option Bool} {K' : PySem.W.Frag} (T : ExTab K' tab) (hK : X.K = K' := by rfl) : ON X (.builtin "isinstance") (rIsXT K') (pIsXT tab) := by
  subst hK; exact n_isXT T
theorem de_fn {x : Str} (g : X.mg x = some (.ref (He.ga X.K x))) (hg : Gl X x := by rfl) (hd : (x == ("__debug__" : Str)) = false := by decide) {K' : PySem.W.Frag} (hK : X.K = K' := by rfl) : DE X W (.Name x pos) (tC (.ref (He.ga K' x))) (wC (.fn x)) := by
  subst hK
  exact ⟨pe_glob hg g rfl hd, se_c fun _ => .fn x⟩
def tCallT (K : PySem.W.Frag) (i : Nat) (x : Str) (sp : Sp) (E : L2.St → XK) (t : TA) : TE := fun σ H Q => σ[i]? = some (some (.ref (He.ga K x))) ∧ t σ H fun vs H1 => sp vs H1 Q (E σ)
abbrev FTab := List (Str × Con)
def wCallT (l : FTab) (i : Nat) (wa : WA) : WE := fun xq r om k => match r[i]? with
  | some (some (.v (.fn x))) => wd (l.lookup x) fun c => wa xq r om fun xs r1 om1 => wd (datsE xs) fun ds => c.df ds om1 (fun x om' => k x r1 om') (fun ex om' => xq ex r1 om')
  | _ => False
theorem lookup_mem {α β : Type} [BEq α] [LawfulBEq α] {a : α} {b : β} : ∀ {l : List (α × β)}, l.lookup a = some b → (a, b) ∈ l
  | [], h => by cases h
  | (c, d) :: l, h => by
    simp only [List.lookup] at h
    by_cases hc : (a == c) = true
    · rw [hc] at h; cases h; rw [eq_of_beq hc]; exact List.mem_cons_self
    · have hc' : (a == c) = false := by simpa using hc
      rw [hc'] at h; exact List.mem_cons_of_mem _ (lookup_mem h)
end
end DL

set_option Elab.async false
set_option linter.all false
set_option maxRecDepth 100000
namespace DL
open PySem L2 PyProof.Rows PySem.Spec
section
variable {X : Cx} {K : PySem.W.Frag} {F H : Hp} {W : WX} {pos : Pos}
def wRaiseA (x : Str) (wa : WA) : WS := fun e r om => wa e.xq r om fun xs r1 om1 => xs.length ≤ sizeLine ∧ e.xq ⟨x, none⟩ r1 om1
def pStr : PN := fun ds c => match ds with
  | [.int i] => i.natAbs.log2 < 1920 ∧ c (.v (.str (toString i)))
  | [.str a] => c (.v (.str a))
  | _ => False
def wDic0 : WE := fun _ r om k => k (.v (.dct [] [])) r om
theorem de_dic0 : DE X W (.Dict [] [] pos) tDNewK wDic0 := ⟨pe_dnewK, fun B F om H st r xq k Q R hx hQ hw p hp => by
  obtain ⟨s2, R2⟩ := R.alloc (o := .dK []) hp
  exact hQ (.v (.dct [] [])) _ _ _ _ _ R2 s2 trivial (Rep.dct (ks := []) (xs := []) upd_same rfl .nil) hw⟩
end
def XS.tab (S : XS) (c : Str) (d : D) : Option Bool := if (S.cs.lookup c).isSome then (match d with
  | .fn x => if S.own.contains x then some (isSub c x) else none
  | .raw (.ty n) => S.blt.lookup n
  | _ => none) else none
def XS.fld (S : XS) (c n : Str) : Bool := match S.cs.lookup c with
  | some (some fs) => fs.contains n
  | _ => false
def XS.sub (S : XS) (x c : Str) : Option Bool := if (S.cs.lookup c).isSome then some (isSub c x) else none
section
variable {K : PySem.W.Frag} {S : XS}
theorem lookup_mem2 {α β : Type} [BEq α] [LawfulBEq α] {a : α} {l : List (α × β)} (h : (l.lookup a).isSome = true) : ∃ b, (a, b) ∈ l := by
  obtain ⟨b, e⟩ := Option.isSome_iff_exists.mp h
  exact ⟨b, lookup_mem e⟩
theorem xTab_ok (h : xAll S K = true) : ExTab K S.tab := by
  have key : ∀ {c : Str}, (S.cs.lookup c).isSome = true → ∃ fs, xOne K S (c, fs) = true := fun {c} hc => by
    obtain ⟨fs, m⟩ := lookup_mem2 hc
    exact ⟨fs, List.all_eq_true.mp h _ m⟩
  refine ⟨fun c d b e => ?_, fun c x b e => ?_, fun c n b e => ?_⟩
  · unfold XS.tab at e
    split at e
    · next hc =>
      obtain ⟨fs, q⟩ := key hc
      simp only [xOne, Bool.and_eq_true] at q
      exact excI_ok q.1
    · cases e
  · unfold XS.tab at e
    split at e
    · next hc =>
      obtain ⟨fs, q⟩ := key hc
      simp only [xOne, Bool.and_eq_true] at q
      simp only at e
      split at e
      · next hx =>
        cases e
        have := List.all_eq_true.mp q.2.1 x (List.contains_iff_mem.mp hx)
        simp only [Bool.and_eq_true, decide_eq_true_eq] at this
        exact this.1
      · cases e
    · cases e
  · unfold XS.tab at e
    split at e
    · next hc =>
      obtain ⟨fs, q⟩ := key hc
      simp only [xOne, Bool.and_eq_true] at q
      have := List.all_eq_true.mp q.2.2.1 _ (lookup_mem (show S.blt.lookup n = some b from e))
      simpa using this
    · cases e
theorem xFl_ok (h : xAll S K = true) : FlTab K S.fld := ⟨fun c n e => by
  unfold XS.fld at e
  split at e
  · next fs hc =>
    have q := List.all_eq_true.mp h _ (lookup_mem hc)
    simp only [xOne, Bool.and_eq_true] at q
    have := List.all_eq_true.mp q.2.2.2 n (List.contains_iff_mem.mp e)
    exact ⟨(excI_ok q.1).xf, by simpa using this⟩
  · cases e⟩
theorem xSub_ok (h : xAll S K = true) {x : Str} (hx : S.own.contains x = true) : ∀ c b, S.sub x c = some b → PySem.W.exmOne K (.ref (He.ga K c)) (.ref (He.ga K x)) = some b := fun c b e => by
  unfold XS.sub at e
  split at e
  · next hc =>
    cases e
    obtain ⟨fs, m⟩ := lookup_mem2 hc
    have q := List.all_eq_true.mp h _ m
    simp only [xOne, Bool.and_eq_true] at q
    have := List.all_eq_true.mp q.2.1 x (List.contains_iff_mem.mp hx)
    simp only [Bool.and_eq_true, decide_eq_true_eq] at this
    exact this.2
  · cases e
end
def oexB (K : PySem.W.Frag) (C : Addr) : Bool := (match K.lookup C with
  | some ⟨.type "type", _, .cls cd, sl⟩ => (match cd.mro, sl.toList with
    | .ref C' :: bm, [_, _, _, _, some (.builtin n), _] => C' == C && n == "ValueError.__new__" && !cd.hasDel && cd.hasDict && PySem.HandSPX.refsVE bm
    | _, _ => false)
  | _ => false) && (decide (PySem.W.findIn K (.ref C) "__setattr__" = some (some (.builtin "object.__setattr__"))) && (decide (PySem.W.subIn K (.ref C) (.type "BaseException") = some true) && (decide (PySem.W.typeIn K (.ref C) = some (.type "type")) && PySem.W.keepIn K (.ref C))))
def initB (K : PySem.W.Frag) (x : Str) : Bool := oexB K (He.ga K x) && (decide (PySem.W.findIn K (.ref (He.ga K x)) "__init__" = some (some (.ref (He.fAd K (x, some "__init__"))))) && decide (PySem.W.typeIn K (.ref (He.fAd K (x, some "__init__"))) = some (.type "function")))
def clsAt (s : Stmt) (i : Nat) : Stmt := match s with
  | .ClassDef _ _ _ b _ _ _ _ _ _ _ => b.getD i (.Pass ⟨0, 0, 0, 0⟩)
  | _ => .Pass ⟨0, 0, 0, 0⟩
def obsYG (n : Nat) (fa : List He.Fa) (fn : List He.DefD) (ex : PySem.W.Frag → Bool) (g : Addr → Option Obj) : He.AlD × Bool := (He.obsDG n fa fn g, ex (He.frG g (He.asD g n)))
def hookY (n : Nat) (fa : List He.Fa) (fn : List He.DefD) (ex : PySem.W.Frag → Bool) : PySem.W.Hook where
  α := He.AlD × Bool
  obs := fun s => obsYG n fa fn ex s.heap.get?
  val := fun _ => (He.valD fn, true)
  says := fun _ h => ∃ K : PySem.W.Frag, K.In h ∧ He.SaysD fa fn K ∧ ex K = true
  of := fun _ _ e => ⟨_, He.frG_in, congrArg Prod.fst e, congrArg Prod.snd e⟩
  keeps := fun _ _ _ ⟨K, hK, c⟩ k => ⟨K, PySem.W.Frag.In.keeps hK k, c⟩
end DL

set_option Elab.async false
set_option linter.all false
set_option maxRecDepth 100000
namespace DL
open PySem L2 PyProof.Rows PySem.Spec
section
variable {X : Cx} {K : PySem.W.Frag} {F H : Hp} {W : WX} {pos : Pos} {tg : Expr}
def iAny (K : PySem.W.Frag) (tl : TE) : TI := fun σ H R => tl σ H fun x H1 => (∃ a, x = .ref a ∧ (∃ xs, SqL K H1 a xs) ∧ R (Itl K a) H1) ∨ (∃ a, x = .ref a ∧ (∃ xs, SqT K H1 a xs) ∧ R (Itt K a) H1)
theorem pi_any {l : Expr} {tl : TE} (hl : PE X l tl) : PI X tg l (iAny X.K tl) := by
  refine ⟨fun pins s σ H R I h => ?_⟩
  refine thn (hl.run pins s σ H _ I h) fun v s1 ⟨x, H1, I1, r1, q1⟩ => ?_
  rcases q1 with ⟨a, e, ⟨xs, hq⟩, q⟩ | ⟨a, e, ⟨xs, hq⟩, q⟩
  · subst e
    cases r1
    obtain ⟨its, rv, p, hz⟩ := I1.list hq
    refine wpAny_pyIter_list p.isList ?_
    refine ⟨s1.heap.objs.size, [s1.heap.objs.size], _, _, H1, rfl, I1.kept (t' := s1.toks) fun b o e => Heap.get?_push_of_some _ e, turn_list a _, ⟨_, Heap.get?_push_size _ rfl, rfl, rfl⟩, fun b hb => ?_, q⟩
    have e : b = s1.heap.objs.size := by simpa using hb
    subst e
    exact I1.fpOk (Nat.le_refl _) (I1.hok.fresh (Nat.le_refl _))
  · subst e
    cases r1
    obtain ⟨its, rv, p, hz⟩ := I1.tuple hq
    refine wpAny_pyIter_tuple (show s1.heap.IsTuple a its.toArray from p) ?_
    refine ⟨s1.heap.objs.size, [s1.heap.objs.size], _, _, H1, rfl, I1.kept (t' := s1.toks) fun b o e => Heap.get?_push_of_some _ e, turn_tuple a _, ⟨_, Heap.get?_push_size _ rfl, rfl, rfl⟩, fun b hb => ?_, q⟩
    have e : b = s1.heap.objs.size := by simpa using hb
    subst e
    exact I1.fpOk (Nat.le_refl _) (I1.hok.fresh (Nat.le_refl _))
def wiA (w : WE) : WI := fun xq r om k => w xq r om fun x r1 om1 => match fz x with
  | .v (.lst ds) => k ds r1 om1
  | .v (.frl ds) => k ds r1 om1
  | .v (.tup ds) => k ds r1 om1
  | _ => False
theorem si_any {ta : TE} {wa : WE} (ha : SE K W ta wa) : SI K W (iAny K ta) (wiA wa) := by
  intro B F om H st r xq k Q R hx hQ hw
  refine ha B F om H st r xq _ _ R hx (fun x r1 om1 F1 H1 y R1 s1 k1 q1 hw => ?_) hw
  obtain ⟨F2, s2, R2, q2⟩ := R1.fz q1
  cases hz : fz x with
  | v d =>
    rw [hz] at hw q2
    cases d with
    | lst ds =>
      cases q2 with
      | lst q rr => exact .inl ⟨_, rfl, ⟨_, SqL.of (R2.rh.sub _ _ q)⟩, hQ _ _ _ _ _ _ R2 (s1.trans s2) k1 (itok_list (SqL.of q) rr) hw⟩
    | frl ds =>
      cases q2 with
      | frl q rr => exact .inl ⟨_, rfl, ⟨_, R2.rh.sub.seq q⟩, hQ _ _ _ _ _ _ R2 (s1.trans s2) k1 (itok_list q rr) hw⟩
    | tup ds =>
      cases q2 with
      | tup q rr => exact .inr ⟨_, rfl, ⟨_, same_sqT R2.rh.sub q.sq⟩, hQ _ _ _ _ _ _ R2 (s1.trans s2) k1 (itok_tup q.sq rr) hw⟩
    | _ => exact hw.elim
  | o ds => rw [hz] at hw; exact hw.elim
  | b i => rw [hz] at hw; exact hw.elim
theorem di_any {l : Expr} {t : TE} {w : WE} (h : DE X W l t w) {K' : PySem.W.Frag} (hK : X.K = K' := by rfl) : DI X W tg l (iAny K' t) (wiA w) := by
  subst hK
  exact ⟨pi_any h.p, si_any h.s⟩
end
theorem wd_pick {ds : List D} {z : Int} {k : D → Prop} (h0 : 0 ≤ z) (h1 : z < (ds.length : Int)) (h : ∀ d ∈ ds, k d) : wd (atI ds z) k := by
  obtain ⟨d, hd, e⟩ := atI_in h0 h1
  rw [e]; exact h d hd
theorem okE_bl (i : Bool) : okE (.bl i) := by cases i <;> exact ⟨by simp [okPy], by simp only [py]; decide +kernel⟩
theorem eqD_bl (i j : Bool) : eqD (.bl i) (.bl j) = decide (i = j) := by cases i <;> cases j <;> (simp only [eqD, py]; decide +kernel)
theorem pEq_blb (i j : Bool) (c : RV → Prop) : pEq (.bl i) (.bl j) c = c (.v (.bl (decide (i = j)))) := by
  show (okE (.bl i) ∧ okE (.bl j) ∧ c (.v (.bl (eqD (.bl i) (.bl j))))) = _
  rw [eqD_bl]; simp only [okE_bl, true_and]
theorem pNe_blb (i j : Bool) (c : RV → Prop) : pNe (.bl i) (.bl j) c = c (.v (.bl (!decide (i = j)))) := by
  show (okE (.bl i) ∧ okE (.bl j) ∧ c (.v (.bl (!eqD (.bl i) (.bl j))))) = _
  rw [eqD_bl]; simp only [okE_bl, true_and]
theorem sz_big : 100000 ≤ sizeLine := by decide
theorem sz_le {n : Nat} (h : n ≤ 100000) : n ≤ sizeLine := Nat.le_trans h sz_big
end DL

set_option Elab.async false
set_option linter.all false
set_option maxRecDepth 100000
namespace DL
open PySem L2
inductive Tg {α : Type} (x : α) : Type where
  | mk : Tg x
def wdK {α : Type} (o : Option α) (k : α → Prop) (_ : Tg k := .mk) : Prop := wd o k
theorem wd_q {α : Type} {o : Option α} {k : α → Prop} : wd o k = wdK o k := rfl
theorem wdK_some {α : Type} {a : α} {k : α → Prop} {t : Tg k} : wdK (some a) k t = k a := rfl
def cnd (c : Bool) (a b : Prop) (_ : Tg (a, b) := .mk) : Prop := if c = true then a else b
section
variable {c c' : Bool} {a b : Prop} {t : Tg (a, b)}
theorem cnd_t : cnd true a b t = a := rfl
theorem cnd_f : cnd false a b t = b := rfl
theorem cnd_of (h1 : c = true → a) (h2 : c = false → b) : cnd c a b t := by
  cases c with
  | true => exact h1 rfl
  | false => exact h2 rfl
theorem cnd_dec {p : Prop} [Decidable p] (h1 : p → a) (h2 : ¬ p → b) : cnd (decide p) a b t := cnd_of (fun h => h1 (of_decide_eq_true h)) fun h => h2 (of_decide_eq_false h)
theorem cnd_yes {p : Prop} [Decidable p] (h : p) (h1 : a) : cnd (decide p) a b t := by rw [decide_eq_true h]; exact h1
theorem cnd_no {p : Prop} [Decidable p] (h : ¬ p) (h1 : b) : cnd (decide p) a b t := by rw [decide_eq_false h]; exact h1
theorem cnd_T (h : c = true) (h1 : a) : cnd c a b t := by rw [h]; exact h1
theorem cnd_F (h : c = false) (h1 : b) : cnd c a b t := by rw [h]; exact h1
theorem cnd_not : cnd (!c) a b t = cnd c b a := by cases c <;> rfl
end
def lcK (g : GT) (wt : WT) (we : WE) (vs : List Nat) (l acc : List D) (r : DL.Env) (om : Om) (fin : List D → DL.Env → Om → Prop) (_ : Tg (g, wt, we, fin) := .mk) : Prop := lcGo g wt we vs l acc r om fin
def loopK (step : D → (DL.Env → Om → Prop) → DL.Env → Om → Prop) (l : List D) (fin : DL.Env → Om → Prop) (r : DL.Env) (om : Om) (_ : Tg (step, fin) := .mk) : Prop := loop step l fin r om
def callK (df : DF) (ds : List D) (om : Om) (k : RV → Om → Prop) (xk : Exn → Om → Prop) (_ : Tg (df, k, xk) := .mk) : Prop := df ds om k xk
theorem wLc_q {wi : WI} {g : GT} {wt : WT} {we : WE} {vs : List Nat} {xq : DX} {r : DL.Env} {om : Om} {k : RV → DL.Env → Om → Prop} : wLc wi g wt we vs xq r om k = wi xq r om fun items r1 om1 => lcK g wt we vs items [] (wipeE r1 vs) om1 fun acc r2 om2 => k (.o acc) r2 om2 := rfl
theorem wCall_q {df : DF} {dds : List D} {wa : WA} {xq : DX} {r : DL.Env} {om : Om} {k : RV → DL.Env → Om → Prop} : wCall df dds wa xq r om k = wa xq r om fun xs r1 om1 => wd (datsE xs) fun ds => callK df (ds ++ dds) om1 (fun x om' => k x r1 om') (fun ex om' => xq ex r1 om') := rfl
def rdB (o : Option (Option RV)) (i : Nat) (r : DL.Env) (om : Om) (k : RV → DL.Env → Om → Prop) (_ : Tg k := .mk) : Prop := match o with
  | some (some (.v d)) => k (.v d) r om
  | some (some (.o _)) => k (.b i) r om
  | _ => False
def rdV (o : Option (Option RV)) (i : Nat) (r : DL.Env) (om : Om) (k : RV → DL.Env → Om → Prop) (_ : Tg k := .mk) : Prop := match o with
  | some (some (.v d)) => k (.v d) r om
  | some (some (.o ds)) => k (.v (.lst ds)) (r.set i (some (.v (.lst ds)))) om
  | _ => False
def rdM (o : Option (Option RV)) (r : DL.Env) (om : Om) (k : RV → DL.Env → Om → Prop) (_ : Tg k := .mk) : Prop := match o with
  | some (some (.v d)) => k (.v d) r om
  | some (some (.o ds)) => k (.o ds) r om
  | _ => False
def rdEh (o : Option Ob) (a : Addr) (p : (List D → (List D → D → Prop) → Prop)) (r : DL.Env) (om : Om) (k : RV → DL.Env → Om → Prop) (_ : Tg (p, k) := .mk) : Prop := match o with
  | some (.lst ds) => p ds fun ds' z => k (.v z) r (oset om a (.lst ds'))
  | _ => False
def rdE (o : Option (Option RV)) (i : Nat) (p : (List D → (List D → D → Prop) → Prop)) (r : DL.Env) (om : Om) (k : RV → DL.Env → Om → Prop) (_ : Tg (p, k) := .mk) : Prop := match o with
  | some (some (.o ds)) => p ds fun ds' z => k (.v z) (r.set i (some (.o ds'))) om
  | some (some (.v (.h a))) => rdEh (om a) a p r om k
  | _ => False
def rdT (o : Option (Option RV)) (l : FTab) (wa : WA) (xq : DX) (r : DL.Env) (om : Om) (k : RV → DL.Env → Om → Prop) (_ : Tg (wa, xq, k) := .mk) : Prop := match o with
  | some (some (.v (.fn x))) => wd (l.lookup x) fun c => wa xq r om fun xs r1 om1 => wd (datsE xs) fun ds => callK c.df ds om1 (fun x om' => k x r1 om') (fun ex om' => xq ex r1 om')
  | _ => False
def rdI (x : RV) (r : DL.Env) (om : Om) (k : List D → DL.Env → Om → Prop) (_ : Tg k := .mk) : Prop := match x with
  | .v (.lst ds) => k ds r om
  | .v (.frl ds) => k ds r om
  | .v (.tup ds) => k ds r om
  | _ => False
section
variable {o o' : Option (Option RV)} {i : Nat} {r : DL.Env} {om : Om} {k : RV → DL.Env → Om → Prop} {kl : List D → DL.Env → Om → Prop} {d : D} {ds : List D} {p : (List D → (List D → D → Prop) → Prop)} {xq : DX} {a : Addr} {l : FTab} {wa : WA} {x : RV} {e : DEnds}
theorem rdB_v {t : Tg k} : rdB (some (some (.v d))) i r om k t = k (.v d) r om := rfl
theorem rdB_o {t : Tg k} : rdB (some (some (.o ds))) i r om k t = k (.b i) r om := rfl
theorem rdV_v {t : Tg k} : rdV (some (some (.v d))) i r om k t = k (.v d) r om := rfl
theorem rdV_o {t : Tg k} : rdV (some (some (.o ds))) i r om k t = k (.v (.lst ds)) (r.set i (some (.v (.lst ds)))) om := rfl
theorem rdM_v {t : Tg k} : rdM (some (some (.v d))) r om k t = k (.v d) r om := rfl
theorem rdM_o {t : Tg k} : rdM (some (some (.o ds))) r om k t = k (.o ds) r om := rfl
theorem rdE_o {t : Tg (p, k)} : rdE (some (some (.o ds))) i p r om k t = p ds fun ds' z => k (.v z) (r.set i (some (.o ds'))) om := rfl
theorem rdE_h {t : Tg (p, k)} : rdE (some (some (.v (.h a)))) i p r om k t = rdEh (om a) a p r om k := rfl
theorem rdEh_l {t : Tg (p, k)} : rdEh (some (.lst ds)) a p r om k t = p ds fun ds' z => k (.v z) r (oset om a (.lst ds')) := rfl
theorem rdI_l {t : Tg kl} : rdI (.v (.lst ds)) r om kl t = kl ds r om := rfl
theorem rdI_f {t : Tg kl} : rdI (.v (.frl ds)) r om kl t = kl ds r om := rfl
theorem rdI_t {t : Tg kl} : rdI (.v (.tup ds)) r om kl t = kl ds r om := rfl
theorem wVar_q : wVar i xq r om k = rdV r[i]? i r om k := rfl
theorem wBor_q : wBor i xq r om k = rdB r[i]? i r om k := rfl
theorem wMov_q : wMov i xq r om k = rdM r[i]? r om k := rfl
theorem wMutE_q : wMutE i p r om k = rdE r[i]? i p r om k := by
  unfold wMutE
  generalize r[i]? = o
  rcases o with _ | _ | x
  · rfl
  · rfl
  · cases x with
    | v d => cases d <;> rfl
    | o ds => rfl
    | b j => rfl
theorem wiA_q {w : WE} : wiA w xq r om kl = w xq r om fun x r1 om1 => rdI (fz x) r1 om1 kl := rfl
theorem wAnd_q {wa wb : WT} {k : Bool → DL.Env → Om → Prop} : wAnd wa wb xq r om k = wa xq r om fun b r1 om1 => cnd b (wb xq r1 om1 k) (k false r1 om1) := rfl
theorem wOr_q {wa wb : WT} {k : Bool → DL.Env → Om → Prop} : wOr wa wb xq r om k = wa xq r om fun b r1 om1 => cnd b (k true r1 om1) (wb xq r1 om1 k) := rfl
theorem wAndV_q {wa wb : WE} : wAndV wa wb xq r om k = wa xq r om fun x r1 om1 => wd (datB r1 om1 x) fun d => wd (boolD d) fun b => cnd b (wb xq r1 om1 k) (k (.v (.bl false)) r1 om1) := rfl
theorem wOrV_q {wa wb : WE} : wOrV wa wb xq r om k = wa xq r om fun x r1 om1 => wd (datB r1 om1 x) fun d => wd (boolD d) fun b => cnd b (k (.v (.bl true)) r1 om1) (wb xq r1 om1 k) := rfl
theorem wChain_q {p p' : P2} {wa wb wc : WE} : wChain p p' wa wb wc xq r om k = wa xq r om fun x r1 om1 => wb xq r1 om1 fun y r2 om2 => wd (datB r2 om2 x) fun d => wd (datB r2 om2 y) fun e =>
  p d e fun z => wd (datB r2 om2 z) fun f => wd (boolD f) fun b => cnd b (wc xq r2 om2 fun u r3 om3 => wd (datB r3 om3 y) fun e' => wd (datB r3 om3 u) fun g => p' e' g fun z => k z r3 om3) (k (.v (.bl false)) r2 om2) := rfl
end
section
variable {X : Cx} {K : PySem.W.Frag} {W : WX} {pos : Pos}
def wFz (we : WE) : WE := fun xq r om k => we xq r om fun x r1 om1 => k (fz x) r1 om1
theorem se_fz {te : TE} {we : WE} (he : SE K W te we) : SE K W te (wFz we) := by
  intro B F om H st r xq k Q R hx hQ hw
  refine he B F om H st r xq _ _ R hx (fun x r1 om1 F1 H1 y R1 s1 k1 q1 hw => ?_) hw
  obtain ⟨F2, s2, R2, q2⟩ := R1.fz q1
  exact hQ _ _ _ _ _ _ R2 (s1.trans s2) k1 q2 hw
theorem de_fz {e : Expr} {te : TE} {we : WE} (he : DE X W e te we) : DE X W e te (wFz we) := ⟨he.p, se_fz he.s⟩
end
end DL

set_option Elab.async false
set_option linter.all false
set_option maxRecDepth 100000
namespace DL
open PySem L2 RZ
section
variable {X : Cx} {K : PySem.W.Frag} {F H : Hp} {W : WX} {pos : Pos}
theorem itok_zipT {a b : Addr} {xs ys : List V} {ds es : List D} (q1 : SqT K F a xs) (r1 : RepA K F xs ds) (q2 : SqT K F b ys) (r2 : RepA K F ys es) : ItOk K (ItzT K a b) F (zipD ds es) := by
  refine ⟨fun i F' H s s' hi => ⟨xs, ys, same_sqT s' (same_sqT s q1), same_sqT s' (same_sqT s q2), ?_⟩, fun i d F' H s s' hd => ?_⟩
  · rw [zipD_len] at hi
    rw [r1.length, r2.length]
    omega
  · obtain ⟨x, y, rfl, h1, h2⟩ := zipD_get hd
    obtain ⟨u, hu, ru⟩ := r1.getD h1
    obtain ⟨v, hv, rv⟩ := r2.getD h2
    refine ⟨⟨xs, ys, u, v, same_sqT s' (same_sqT s q1), same_sqT s' (same_sqT s q2), hu, hv⟩, fun z H' hy => ?_⟩
    obtain ⟨T, u', v', rfl, hT, rfl, e1, e2⟩ := hy
    have e3 := e1 xs (same_sqT s' (same_sqT s q1))
    have e4 := e2 ys (same_sqT s' (same_sqT s q2))
    rw [hu] at e3
    rw [hv] at e4
    cases e3
    cases e4
    exact ⟨_, Grow.alloc s' hT, ResP.newT s' hT (.cons (ru.mono s) (.cons (rv.mono s) .nil))⟩
def zipA : List RV → Option (List D)
  | [.v (.tup ds), .v (.tup es)] => some (zipD ds es)
  | [.v (.lst ds), .v (.lst es)] => some (zipD ds es)
  | [.v (.lst ds), .v (.frl es)] => some (zipD ds es)
  | [.v (.frl ds), .v (.lst es)] => some (zipD ds es)
  | [.v (.frl ds), .v (.frl es)] => some (zipD ds es)
  | _ => none
theorem zipA_l (ds es : List D) : zipA [.v (.lst ds), .v (.lst es)] = some (zipD ds es) := rfl
def wiZipA (wa : WA) : WI := fun xq r om k => wa xq r om fun xs r1 om1 => wd (zipA xs) fun l => k l r1 om1
theorem di_zipA {e e2 : Expr} {ta : TA} {wa : WA} {p tpos : Pos} {elts : List Expr} {kk : Nat} (hm : X.mg "zip" = none) (ha : DA X W [e, e2] ta wa) (hg : Gl X "zip" := by rfl) (hs : starEach [e, e2] X.env = (false, eval e X.env) :: starEach [e2] X.env := by rfl) (hpl : (backTo pos (starEach [e2] X.env)).any (·.1) = false := by rfl) {K' : PySem.W.Frag} (hK : X.K = K' := by rfl) :
    DI X W (.Tuple elts kk tpos) (.Call (.Name "zip" p) [e, e2] [] pos) (iZipA K' ta) (wiZipA wa) := by
  subst hK
  refine ⟨pi_zipA hg hm ha.p hs hpl, fun B F om H st r xq k Q R hx hQ hw => ?_⟩
  refine ha.s B F om H st r xq _ _ R hx (fun xs r1 om1 F1 H1 ys R1 s1 k1 q1 hw => ?_) hw
  obtain ⟨l, e1, hw1⟩ := wd_iff hw
  have key : ∀ {y z : V} {d e : D} {ds es : List D}, Rep X.K F1 y d → Rep X.K F1 z e → lstO d = some ds → lstO e = some es → l = zipD ds es → ∃ a b xs ys', [y, z] = [.ref a, .ref b] ∧ ((SqL X.K H1 a xs ∧ SqL X.K H1 b ys' ∧ Q (Itz X.K a b) H1) ∨ (SqT X.K H1 a xs ∧ SqT X.K H1 b ys' ∧ Q (ItzT X.K a b) H1)) := fun {y z d e ds es} r1' r2' e1' e2' el => by
    obtain ⟨a, xs, rfl, h1, h2⟩ := Rep.lstO r1' e1'
    obtain ⟨b, zs, rfl, h3, h4⟩ := Rep.lstO r2' e2'
    subst el
    exact ⟨a, b, xs, zs, rfl, .inl ⟨R1.rh.sub.seq h1, R1.rh.sub.seq h3, hQ _ _ _ _ _ _ R1 s1 k1 (itok_zip h1 h2 h3 h4) hw1⟩⟩
  unfold zipA at e1
  split at e1
  · next ds es =>
    cases e1
    match ys, q1 with
    | [y, z], q1 =>
      cases q1.1 with
      | tup h1 h2 =>
        cases q1.2.1 with
        | tup h3 h4 => exact ⟨_, _, _, _, rfl, .inr ⟨same_sqT R1.rh.sub h1.sq, same_sqT R1.rh.sub h3.sq, hQ _ _ _ _ _ _ R1 s1 k1 (itok_zipT h1.sq h2 h3.sq h4) hw1⟩⟩
    | [], q1 => exact q1.elim
    | [_], q1 => exact q1.2.elim
    | _ :: _ :: _ :: _, q1 => exact q1.2.2.elim
  all_goals first
    | (cases e1; done)
    | (cases e1
       match ys, q1 with
       | [y, z], q1 => exact key q1.1 q1.2.1 rfl rfl rfl
       | [], q1 => exact q1.elim
       | [_], q1 => exact q1.2.elim
       | _ :: _ :: _ :: _, q1 => exact q1.2.2.elim)
end
theorem deref_exc {om : Om} {c : Str} {ns : List Str} {vs : List D} : deref om (.exc c ns vs) = .exc c ns vs := rfl
theorem deref_fn {om : Om} {x : Str} : deref om (.fn x) = .fn x := rfl
theorem pIsX_f {tab : Str → D → Option Bool} {c x : Str} {ns : List Str} {vs : List D} {k : RV → Prop} : pIsX tab [.exc c ns vs, .fn x] k = wd (tab c (.fn x)) fun b => k (.v (.bl b)) := rfl
theorem pIsX_t {tab : Str → D → Option Bool} {c : Str} {n : String} {ns : List Str} {vs : List D} {k : RV → Prop} : pIsX tab [.exc c ns vs, .raw (.ty n)] k = wd (tab c (.raw (.ty n))) fun b => k (.v (.bl b)) := rfl
theorem pIsXT_at {tab : Str → D → Option Bool} {c : Str} {ns : List Str} {vs : List D} {e : D} {es : List D} {k : RV → Prop} : pIsXT tab [.exc c ns vs, .tup (e :: es)] k = wd (clsTab tab c e) fun _ => wd (anyTab tab c (e :: es)) fun b => k (.v (.bl b)) := rfl
theorem clsTab_f {tab : Str → D → Option Bool} {c x : Str} : clsTab tab c (.fn x) = tab c (.fn x) := rfl
def orT : Option Bool → Option Bool → Option Bool
  | some true, some _ => some true
  | some false, some b => some b
  | _, _ => none
theorem anyTab_nil {tab : Str → D → Option Bool} {c : Str} : anyTab tab c [] = some false := rfl
theorem anyTab_cons {tab : Str → D → Option Bool} {c : Str} {d : D} {ds : List D} : anyTab tab c (d :: ds) = orT (clsTab tab c d) (anyTab tab c ds) := rfl
theorem orT_f {b : Bool} : orT (some false) (some b) = some b := rfl
theorem lcK_nil {g : GT} {wt : WT} {we : WE} {vs : List Nat} {acc : List D} {r : DL.Env} {om : Om} {fin : List D → DL.Env → Om → Prop} {t : Tg (g, wt, we, fin)} : lcK g wt we vs [] acc r om fin t = fin acc r om := rfl
theorem lcK_cons {g : GT} {wt : WT} {we : WE} {vs : List Nat} {d : D} {ds acc : List D} {r : DL.Env} {om : Om} {fin : List D → DL.Env → Om → Prop} {t : Tg (g, wt, we, fin)} : lcK g wt we vs (d :: ds) acc r om fin t = g (.v d) r fun r2 => wt X0 r2 om fun b r3 om3 =>
      cnd b (we X0 r3 om3 fun x r4 om4 => wd (datE x) fun y => acc.length < sizeLine ∧ lcK g wt we vs ds (acc ++ [y]) (wipeE r4 vs) om4 fin) (lcK g wt we vs ds acc (wipeE r3 vs) om3 fin) := rfl
theorem loopK_nil {step : D → (DL.Env → Om → Prop) → DL.Env → Om → Prop} {fin : DL.Env → Om → Prop} {r : DL.Env} {om : Om} {t : Tg (step, fin)} : loopK step [] fin r om t = fin r om := rfl
theorem zipD_cons (x y : D) (xs ys : List D) : zipD (x :: xs) (y :: ys) = .tup [x, y] :: zipD xs ys := rfl
theorem zipD_nil (ys : List D) : zipD [] ys = [] := by cases ys <;> rfl
theorem zipD_nilr (xs : List D) : zipD xs [] = [] := by cases xs <;> rfl
def ixK (ds : List D) (i : Int) (c : RV → Prop) (_ : Tg c := .mk) : Prop := wd (atI ds i) fun x => c (.v x)
section
variable {ds : List D} {d : D} {i : Int} {c : RV → Prop} {t : Tg c}
theorem pIx_l : pIx (.lst ds) (.int i) c = ixK ds i c := rfl
theorem pIx_f : pIx (.frl ds) (.int i) c = ixK ds i c := rfl
theorem pIx_t : pIx (.tup ds) (.int i) c = ixK ds i c := rfl
theorem atI_ge {ds : List D} {i : Int} (h0 : 0 ≤ i) (h1 : i < (ds.length : Int)) : atI ds i = ds[i.toNat]? := by
  have e : ixN ds.length i = some i.toNat := ixN_in h0 h1
  unfold atI
  rw [e]; rfl
theorem ixK_0 : ixK (d :: ds) 0 c t = c (.v d) := by unfold ixK; rw [atI_ge (by omega) (by simp)]; rfl
theorem ixK_1 {a : D} : ixK (a :: d :: ds) 1 c t = c (.v d) := by unfold ixK; rw [atI_ge (by omega) (by simp; omega)]; rfl
theorem ixK_2 {a1 a2 : D} : ixK (a1 :: a2 :: d :: ds) 2 c t = c (.v d) := by unfold ixK; rw [atI_ge (by omega) (by simp; omega)]; rfl
theorem ixK_3 {a1 a2 a3 : D} : ixK (a1 :: a2 :: a3 :: d :: ds) 3 c t = c (.v d) := by unfold ixK; rw [atI_ge (by omega) (by simp; omega)]; rfl
theorem ixK_pick (h0 : 0 ≤ i) (h1 : i < (ds.length : Int)) (h : ∀ d ∈ ds, c (.v d)) : ixK ds i c t := wd_pick h0 h1 h
theorem ixK_ints {ns : List Int} (h0 : 0 ≤ i) (h1 : i < (ns.length : Int)) (h : c (.v (.int (ns.getD i.toNat 0)))) : ixK (ns.map D.int) i c t := by
  unfold ixK
  rw [atI_ge h0 (by rw [List.length_map]; exact h1), List.getElem?_map, List.getElem?_eq_getElem (by omega)]
  rw [List.getD_eq_getElem?_getD, List.getElem?_eq_getElem (by omega)] at h
  exact h
theorem ixK_rows {ns : List (List Int)} (h0 : 0 ≤ i) (h1 : i < (ns.length : Int)) (h : c (.v (rowD (ns.getD i.toNat [])))) : ixK (rowsD ns) i c t := by
  unfold ixK rowsD
  rw [atI_ge h0 (by rw [List.length_map]; exact h1), List.getElem?_map, List.getElem?_eq_getElem (by omega)]
  rw [List.getD_eq_getElem?_getD, List.getElem?_eq_getElem (by omega)] at h
  exact h
theorem ixK_last {x : D} (h : c (.v x)) : ixK (ds ++ [x]) (-1) c t := by
  unfold ixK
  have : ixN (ds ++ [x]).length (-1) = some ds.length := by
    simp only [ixN, List.length_append, List.length_cons, List.length_nil]
    simp; omega
  unfold atI
  rw [this]
  show wd ((ds ++ [x])[ds.length]?) _
  rw [List.getElem?_append_right (Nat.le_refl _)]
  simpa using h
theorem len_rows (ns : List (List Int)) : (rowsD ns).length = ns.length := by simp [rowsD]
end
theorem gT_t {n : Nat} {g : GTs} {ds : List D} {r : DL.Env} {k : DL.Env → Prop} : gT n g (.v (.tup ds)) r k = (ds.length = n ∧ g ds r k) := rfl
theorem gsCons_c {i : Nat} {g : GTs} {d : D} {ds : List D} {r : DL.Env} {k : DL.Env → Prop} : gsCons i g (d :: ds) r k = (i < r.length ∧ g ds (r.set i (some (.v d))) k) := rfl
def rdLh : Option Ob → Prop
  | some (.lst _) => True
  | _ => False
def rdL (om : Om) : Option (Option RV) → Prop
  | some (some (.o _)) => True
  | some (some (.v (.h a))) => rdLh (om a)
  | _ => False
theorem lstS_q {om : Om} {r : DL.Env} {i : Nat} : lstS om r i = rdL om r[i]? := by
  unfold lstS
  generalize r[i]? = o
  rcases o with _ | _ | x
  · rfl
  · rfl
  · cases x with
    | v d =>
      cases d with
      | h a =>
        simp only [isL, rdL]
        cases om a with
        | none => simp [rdLh]
        | some ob => cases ob <;> simp [rdLh]
      | _ => simp [isL, rdL]
    | o ds => simp [isL, rdL]
    | b j => simp [isL, rdL]
theorem rdL_o {om : Om} {ds : List D} : rdL om (some (some (.o ds))) = True := rfl
theorem rdL_h {om : Om} {a : Addr} : rdL om (some (some (.v (.h a)))) = rdLh (om a) := rfl
theorem rdLh_l {ds : List D} : rdLh (some (.lst ds)) = True := rfl
def rdH (x : RV) (i : Nat) (P : List D → Prop) (r : DL.Env) (om : Om) (nx : DL.Env → Om → Prop) : Prop := match x with
  | .o ds => P ds ∧ i < r.length ∧ ∀ a, om a = none → nx (r.set i (some (.v (.h a)))) (oset om a (.lstP P))
  | _ => False
def rdG (x : RV) (P : List D → Prop) (r : DL.Env) (om : Om) (k : RV → DL.Env → Om → Prop) : Prop := match x with
  | .o ds => P ds ∧ ∀ a, om a = none → k (.v (.h a)) r (oset om a (.lstP P))
  | _ => False
def rdX (x : RV) (fld : Str → Str → Bool) (n : Str) (r : DL.Env) (om : Om) (k : RV → DL.Env → Om → Prop) : Prop := match x with
  | .v (.exc c ns vs) => fld c n = true ∧ wd (lookD n ns vs) fun d => k (.v d) r om
  | _ => False
section
variable {om : Om} {q : List Int} {rs : List (List Int)} {c : RV → Prop} {i : Int} {r : DL.Env} {kl : List D → DL.Env → Om → Prop}
theorem deref_row : deref om (rowD q) = rowD q := rfl
theorem lenD_row : lenD (rowD q) = some q.length := by simp [rowD, lenD]
theorem pIx_row : pIx (rowD q) (.int i) c = ixK (q.map D.int) i c := rfl
end
section
variable {nx : DL.Env → Om → Prop} {rt : RV → Om → Prop} {bk ct : DL.Env → Om → Prop} {xq : DX} {r : DL.Env} {om : Om} {a b : WS} {wt : WT} {w : WE} {wi : WI} {g : GT} {i : Nat} {x : Str} {wa : WA}
theorem wSeq_e : wSeq a b ⟨nx, rt, bk, ct, xq⟩ r om = a ⟨b ⟨nx, rt, bk, ct, xq⟩, rt, bk, ct, xq⟩ r om := rfl
theorem wIfS_e : wIfS wt a b ⟨nx, rt, bk, ct, xq⟩ r om = wt xq r om fun c r1 om1 => cnd c (a ⟨nx, rt, bk, ct, xq⟩ r1 om1) (b ⟨nx, rt, bk, ct, xq⟩ r1 om1) := rfl
theorem wAsg_e : wAsg w g ⟨nx, rt, bk, ct, xq⟩ r om = w xq r om fun x r1 om1 => g x r1 fun r2 => nx r2 om1 := rfl
theorem wRet_e : wRet w ⟨nx, rt, bk, ct, xq⟩ r om = w xq r om fun x _ om1 => noB x ∧ rt x om1 := rfl
theorem wDrop_e : wDrop w ⟨nx, rt, bk, ct, xq⟩ r om = w xq r om fun _ r1 om1 => nx r1 om1 := rfl
theorem wNext_e : wNext ⟨nx, rt, bk, ct, xq⟩ r om = nx r om := rfl
theorem wFor_e : wFor wi g a ⟨nx, rt, bk, ct, xq⟩ r om = wi xq r om fun items r1 om1 => loopK (stepOf g a ⟨nx, rt, bk, ct, xq⟩) items nx r1 om1 := rfl
theorem loopK_e {d : D} {ds : List D} {fin : DL.Env → Om → Prop} {t : Tg (stepOf g a ⟨nx, rt, bk, ct, xq⟩, fin)} : loopK (stepOf g a ⟨nx, rt, bk, ct, xq⟩) (d :: ds) fin r om t = g (.v d) r fun r' => a ⟨fun r om => loopK (stepOf g a ⟨nx, rt, bk, ct, xq⟩) ds fin r om, rt, nx, fun r om => loopK (stepOf g a ⟨nx, rt, bk, ct, xq⟩) ds fin r om, xq⟩ r' om := rfl
theorem wTryAs_e {sub : Str → Option Bool} : wTryAs i sub a b ⟨nx, rt, bk, ct, xq⟩ r om = a ⟨nx, rt, bk, ct, xTry i sub b ⟨nx, rt, bk, ct, xq⟩⟩ r om := rfl
theorem xTry_e {sub : Str → Option Bool} {ex : Exn} : xTry i sub b ⟨nx, rt, bk, ct, xq⟩ ex r om = wd (sub ex.cls) fun c => cnd c (i < r.length ∧ b ⟨fun r om => nx (r.set i none) om, rt, fun r om => bk (r.set i none) om, fun r om => ct (r.set i none) om, fun _ _ _ => False⟩ (r.set i (some (.v (exD ex)))) om) (xq ex r om) := rfl
theorem wRaise_e : wRaise x ⟨nx, rt, bk, ct, xq⟩ r om = xq ⟨x, none⟩ r om := rfl
theorem wSet_e {w2 : WE} : wSet i w w2 ⟨nx, rt, bk, ct, xq⟩ r om = w2 xq r om fun x r1 om1 => lstS om1 r1 i ∧ w xq r1 om1 fun y r2 om2 => wd (datE x) fun d => wd (datB r2 om2 y) fun j => wd (intD j) fun n =>
  wMutE i (fun ds c => wd (ixN ds.length n) fun m => c (ds.set m d) .non) r2 om2 fun _ r3 om3 => nx r3 om3 := rfl
end
def stK (r : DL.Env) (k : DL.Env → Prop) (_ : Tg k := .mk) : Prop := k r
theorem stK_c {x : Option RV} {l : DL.Env} {k : DL.Env → Prop} {t : Tg k} : stK (x :: l) k t = k (x :: l) := rfl
theorem gN_e {i : Nat} {x : RV} {r : DL.Env} {k : DL.Env → Prop} : gN i x r k = (noB x ∧ i < r.length ∧ stK (r.set i (some x)) k) := rfl
theorem gsNil_e {r : DL.Env} {k : DL.Env → Prop} : gsNil [] r k = stK r k := by simp [gsNil, stK]
theorem plainD_int {i : Int} : plainD (.int i) = true := rfl
theorem plainD_lst {i : List D} : plainD (.lst i) = true := rfl
section
variable {X : Cx} {K : PySem.W.Frag} {W : WX} {pos : Pos}
def putP : List Nat → List D → DL.Env → (DL.Env → Prop) → Prop
  | i :: is, d :: ds, r, k => i < r.length ∧ putP is ds (r.set i (some (.v d))) k
  | [], [], r, k => k r
  | _, _, _, _ => False
def wPar (is : List Nat) (wa : WA) : WS := fun e r om => wa e.xq r om fun xs r1 om1 => wd (datsE xs) fun ds => putP is ds r1 fun r2 => e.nx r2 om1
def enumZ : Int → List D → List D
  | _, [] => []
  | i, x :: xs => .tup [.int i, x] :: enumZ (i + 1) xs
theorem enumD_zz : ∀ (n : Nat) (xs : List D), enumD n xs = enumZ n xs
  | _, [] => rfl
  | n, x :: xs => by simp only [enumD, enumZ, enumD_zz (n + 1) xs, Int.natCast_add, Int.natCast_one]
theorem enumD_z (xs : List D) : enumD 0 xs = enumZ 0 xs := enumD_zz 0 xs
theorem enumZ_nil (i : Int) : enumZ i [] = [] := by simp only [enumZ]
theorem enumZ_cons (i : Int) (x : D) (xs : List D) : enumZ i (x :: xs) = .tup [.int i, x] :: enumZ (i + 1) xs := by simp only [enumZ]
theorem bools_nil : bools [] = some [] := by simp only [bools]
theorem bools_cons (b : Bool) (ds : List D) : bools (.bl b :: ds) = (bools ds).map (b :: ·) := by simp only [bools]
theorem nums_nil : nums [] = some [] := by simp only [nums]
theorem nums_cons (b : Int) (ds : List D) : nums (.int b :: ds) = (nums ds).map (b :: ·) := by simp only [nums]
theorem isNum_i (i : Int) : isNum (.int i) = true := by simp only [isNum]
theorem ixK_pickP {ds : List D} {i : Int} {f : RV → Prop} {t : Tg f} (P : D → Prop) (h0 : 0 ≤ i) (h1 : i < (ds.length : Int)) (hp : ∀ d ∈ ds, P d) (hf : ∀ d, P d → f (.v d)) : ixK ds i f t := ixK_pick h0 h1 fun d m => hf d (hp d m)
end
end DL

set_option Elab.async false
set_option linter.all false
set_option maxRecDepth 100000
set_option maxHeartbeats 1000000
namespace DL
open PySem L2 PySem.W
section
variable {X : Cx} {K : PySem.W.Frag} {B : Base} {F H : Hp} {om : Om} {st : St} {r : Env} {W : WX} {pos : Pos}
def getP (ps : List (Int × D)) (n : Int) : Option D := (ps.find? fun q => decide (q.1 = n)).map (·.2)
def hasP (ps : List (Int × D)) (n : Int) : Bool := ps.any fun q => decide (q.1 = n)
def putP' (ps : List (Int × D)) (n : Int) (d : D) : List (Int × D) := if hasP ps n = true then ps.map (fun q => if q.1 = n then (q.1, d) else q) else ps ++ [(n, d)]
def rdDh (o : Option Ob) (a : Addr) (f : Addr → List (Int × D) → Prop) : Prop := match o with
  | some (.dct ps) => f a ps
  | _ => False
def rdDct (o : Option (Option RV)) (om : Om) (f : Addr → List (Int × D) → Prop) : Prop := match o with
  | some (some (.v (.h a))) => rdDh (om a) a f
  | _ => False
def wDNew (i : Nat) : WS := fun e r om => i < r.length ∧ ∀ a, om a = none → e.nx (r.set i (some (.v (.h a)))) (oset om a (.dct []))
def wDIn (neg : Bool) (we : WE) (i : Nat) : WE := fun xq r om k => we xq r om fun x r1 om1 => wd (datB r1 om1 x) fun d => wd (intD d) fun n => rdDct r1[i]? om1 fun _ ps => k (.v (.bl (neg != hasP ps n))) r1 om1
def wDGet (i : Nat) (we : WE) : WE := fun xq r om k => rdDct r[i]? om fun _ _ => we xq r om fun x r1 om1 => wd (datB r1 om1 x) fun d => wd (intD d) fun n => rdDct r1[i]? om1 fun _ ps => wd (getP ps n) fun e => k (.v e) r1 om1
def wDPut (i : Nat) (wk wv : WE) : WS := fun e r om => wv e.xq r om fun x r1 om1 => wd (datE x) fun d => rdDct r1[i]? om1 fun _ _ => wk e.xq r1 om1 fun y r2 om2 => wd (datB r2 om2 y) fun kd => wd (intD kd) fun n => rdDct r2[i]? om2 fun a ps => ps.length ≤ 100000 ∧ e.nx r2 (oset om2 a (.dct (putP' ps n d)))
def wDKeys (i : Nat) : WE := fun _ r om k => rdDct r[i]? om fun _ ps => k (.o (ps.map fun q => .int q.1)) r om
def rKeys : List V → Hp → VK → Prop := fun xs H Q => ∃ (a : Addr) (kvs : List (Key × V)), xs = [.ref a] ∧ Rd H a (.dK kvs) ∧ ∀ p, H p = none → Q (.ref p) (upd H p (.lst (kvs.map fun kv => kV kv.1)))
def lcGoO (j : Nat) (all : List D) (g : GT) (wt : WT) (we : WE) (vs : List Nat) : List D → List D → Env → Om → (List D → Env → Om → Prop) → Prop
  | [], acc, r, om, fin => r[j]? = some (some (.o all)) ∧ fin acc r om
  | d :: ds, acc, r, om, fin => r[j]? = some (some (.o all)) ∧ g (.v d) r fun r2 => wt X0 r2 om fun b r3 om3 =>
      if b = true then we X0 r3 om3 fun x r4 om4 => wd (datE x) fun y => acc.length < sizeLine ∧ lcGoO j all g wt we vs ds (acc ++ [y]) (wipeE r4 vs) om4 fin
      else lcGoO j all g wt we vs ds acc (wipeE r3 vs) om3 fin
def rdLc (o : Option (Option RV)) (f : List D → Prop) : Prop := match o with
  | some (some (.o ds)) => f ds
  | _ => False
def wLcO (j : Nat) (g : GT) (wt : WT) (we : WE) (vs : List Nat) : WE := fun xq r om k => rdLc r[j]? fun ds => lcGoO j ds g wt we vs ds [] (wipeE r vs) om fun acc r2 om2 => k (.o acc) r2 om2
theorem lcO_inv {j : Nat} {all : List D} {g : GT} {wt : WT} {we : WE} {vs : List Nat} {fin : List D → Env → Om → Prop} (I : Nat → List D → Env → Om → Prop) (hI : ∀ i acc r om, I i acc r om → r[j]? = some (some (.o all))) : ∀ {items acc : List D} {r : Env} {om : Om} (n : Nat), I n acc r om →
    (∀ (i : Nat) (d : D) (acc : List D) (r : Env) (om : Om) (nx : List D → Env → Om → Prop), items[i]? = some d → I (n + i) acc r om → (∀ acc' r' om', I (n + i + 1) acc' r' om' → nx acc' r' om') →
      g (.v d) r fun r2 => wt X0 r2 om fun b r3 om3 => if b = true then we X0 r3 om3 fun x r4 om4 => wd (datE x) fun y => acc.length < sizeLine ∧ nx (acc ++ [y]) (wipeE r4 vs) om4 else nx acc (wipeE r3 vs) om3) →
    (∀ acc r om, I (n + items.length) acc r om → fin acc r om) → lcGoO j all g wt we vs items acc r om fin
  | [], acc, r, om, n, h0, hs, hf => ⟨hI _ _ _ _ h0, hf _ _ _ (by simpa using h0)⟩
  | d :: ds, acc, r, om, n, h0, hs, hf => by
    refine ⟨hI _ _ _ _ h0, ?_⟩
    exact hs 0 d acc r om (fun acc' r' om' => lcGoO j all g wt we vs ds acc' r' om' fin) rfl (by simpa using h0) fun acc' r' om' h1 => by
      refine lcO_inv I hI (n + 1) (by simpa using h1) (fun i d' acc r om nx e hi hn => ?_) fun acc r om h => hf acc r om (by simpa [Nat.add_assoc, Nat.add_comm, Nat.add_left_comm] using h)
      exact hs (i + 1) d' acc r om nx (by simpa using e) (by rw [show n + (i + 1) = n + 1 + i by omega]; exact hi) (fun acc' r' om' h2 => hn acc' r' om' (by rw [show n + 1 + i + 1 = n + (i + 1) + 1 by omega]; exact h2))
theorem lcO_list {j : Nat} {all : List D} {g : GT} {wt : WT} {we : WE} {vs : List Nat} {fin : List D → Env → Om → Prop} (I : Nat → List D → Env → Om → Prop) {items acc : List D} {r : Env} {om : Om} (hI : ∀ i acc r om, I i acc r om → r[j]? = some (some (.o all))) (h0 : I 0 acc r om)
    (hs : ∀ (i : Nat) (d : D) (acc : List D) (r : Env) (om : Om) (nx : List D → Env → Om → Prop), items[i]? = some d → I i acc r om → (∀ acc' r' om', I (i + 1) acc' r' om' → nx acc' r' om') →
      g (.v d) r fun r2 => wt X0 r2 om fun b r3 om3 => if b = true then we X0 r3 om3 fun x r4 om4 => wd (datE x) fun y => acc.length < sizeLine ∧ nx (acc ++ [y]) (wipeE r4 vs) om4 else nx acc (wipeE r3 vs) om3)
    (hf : ∀ acc r om, I items.length acc r om → fin acc r om) : lcGoO j all g wt we vs items acc r om fin :=
  lcO_inv I hI 0 h0 (fun i d acc r om nx e hi hn => hs i d acc r om nx e (by simpa using hi) (by simpa using hn)) fun acc r om h => hf acc r om (by simpa using h)
end
end DL

set_option Elab.async false
set_option linter.all false
set_option maxRecDepth 100000
set_option maxHeartbeats 1000000
namespace DL
open PySem L2 PySem.W PyProof.Rows
section
variable {X : Cx} {K : PySem.W.Frag} {F H : Hp} {W : WX} {pos : Pos}
def rngC (lo c : Int) (n : Nat) : List D := (List.range n).map fun i => .int (lo + (i : Nat) * c)
def int3 : List D → Option (Int × Int × Int)
  | [.int i, .int j, .int k] => some (i, j, k)
  | _ => none
def rg3 (i j c : Int) (f : List D → Prop) : Prop := ∃ n, RgC i j c n ∧ f (rngC i c n)
def wiR3 (wa : WA) : WI := fun xq r om k => wa xq r om fun xs r1 om1 => wd (datsB r1 om1 xs) fun ds => wd (int3 ds) fun p => rg3 p.1 p.2.1 p.2.2 fun es => k es r1 om1
def pAbs : PN := fun ds c => wd (int1 ds) fun i => c (.v (.int (if i < 0 then -i else i)))
def sortI (ns : List Int) : List Int := ns.mergeSort fun a b => decide (a ≤ b)
theorem ixK_lastI {ns : List Int} {c : RV → Prop} {t : Tg c} (h0 : 0 < ns.length) (h : c (.v (.int (ns.getD (ns.length - 1) 0)))) : ixK (ns.map D.int) (-1) c t := by
  have hne : ns ≠ [] := List.length_pos_iff.mp h0
  have e : ns.map D.int = (ns.dropLast).map D.int ++ [.int (ns.getLast hne)] := by
    conv => lhs; rw [← List.dropLast_concat_getLast hne]
    rw [List.map_append]; rfl
  have e2 : ns.getD (ns.length - 1) 0 = ns.getLast hne := by
    rw [List.getD_eq_getElem?_getD, List.getElem?_eq_getElem (by omega), List.getLast_eq_getElem]; rfl
  rw [e2] at h
  revert t
  rw [e]
  intro t
  exact ixK_last h
def rMinT (K : PySem.W.Frag) : List V → Hp → VK → Prop := fun vs H Q => ∃ (a : Addr) (n : Int) (ns : List Int), vs = [V.ref a] ∧ SqT K H a ((n :: ns).map V.int) ∧ Q (.int (ns.foldl min n)) H
def minL : List Int → (RV → Prop) → Prop
  | [], _ => False
  | n :: ns, c => c (.v (.int (ns.foldl min n)))
def seqT : D → Option (List D)
  | .tup ds => some ds
  | _ => none
def pMinT : PN := fun ds c => wd (one ds) fun d => wd (seqT d) fun es => wd (nums es) fun ns => minL ns c
theorem num_int {d : D} (h : isNum d = true) : ∃ i, d = .int i := by
  cases d <;> first | exact ⟨_, rfl⟩ | cases h
def mRem : MutP := fun ds args c => wd (nums ds) fun ns => wd (int1 args) fun k => k ∈ ns ∧ c ((ns.erase k).map D.int) .non
def pIsB (neg : Bool) : P2 := fun d e c => match d, e with
  | .bl a, .bl b => c (.v (.bl (neg != decide (a = b))))
  | _, _ => False
theorem pIsB_f (a b : Bool) (c : RV → Prop) : pIsB false (.bl a) (.bl b) c = c (.v (.bl (decide (a = b)))) := by
  show c (.v (.bl (false != decide (a = b)))) = _
  rw [Bool.false_bne]
theorem o_isB : O2 X (compareOp .Is) (fun x y H Q => ∃ a b, x = .bl a ∧ y = .bl b ∧ Q (.bl (decide (a = b))) H) (pIsB false) := ⟨op_is_bl, fun F H x y d e c Q s rx ry hp hQ => by
  unfold pIsB at hp
  split at hp
  · next a b =>
    obtain rfl := rx.blS
    obtain rfl := ry.blS
    rw [Bool.false_bne] at hp
    exact ⟨a, b, rfl, rfl, vres s (.bl _) hp hQ⟩
  · exact hp.elim⟩
def Sub (om om' : Om) : Prop := ∀ b o, om b = some o → om' b = some o
theorem Sub.refl (om : Om) : Sub om om := fun _ _ e => e
theorem Sub.new {om om' : Om} {a : Addr} {ob : Ob} (h : Sub om om') (n : om a = none) : Sub om (oset om' a ob) := fun b o e => by
  have : b ≠ a := fun z => by rw [z, n] at e; cases e
  rw [oset_ne this]; exact h b o e
theorem Sub.set {om om' : Om} {a : Addr} {ob : Ob} (h : Sub om om') (n : om a = none) : Sub om (oset om' a ob) := h.new n
def dropC (c : Con) : Con := ⟨c.n, fun ds om k xk => c.df ds om (fun x om1 => ∀ om', Sub om1 om' → k x om') (fun ex om1 => ∀ om', Sub om1 om' → xk ex om'), fun ds om k xk h => c.len ds om _ _ h, fun ds om k k' xk xk' hk hx h => c.mono _ _ _ _ _ _ (fun x om1 g om' hs => hk _ _ (g om' hs)) (fun ex om1 g om' hs => hx _ _ (g om' hs)) h⟩
theorem rdDh_of {om : Om} {a : Addr} {ps : List (Int × D)} {f : Addr → List (Int × D) → Prop} (h : om a = some (.dct ps)) (hf : f a ps) : rdDh (om a) a f := by rw [h]; exact hf
def notF : D → Bool
  | .frl _ => false
  | _ => true
def isD0 : D → Bool
  | .dct [] [] => true
  | _ => false
def pNeA : P2 := fun d e c => (isD0 d = true ∧ isD0 e = true ∧ c (.v (.bl false))) ∨ pNe d e c
theorem ixN_K {n : Nat} {z : Int} {f : Nat → Prop} {t : Tg f} (h0 : 0 ≤ z) (h1 : z < (n : Int)) (hf : f z.toNat) : wdK (ixN n z) f t := by
  rw [ixN_in h0 h1]; exact hf
def gL (n : Nat) (g : GTs) : GT := fun x r k => match x with
  | .v (.lst ds) => ds.length = n ∧ g ds r k
  | _ => False
end
end DL

set_option Elab.async false
set_option linter.all false
set_option maxRecDepth 100000
namespace DL
open PySem L2
section
variable {X : Cx} {K : PySem.W.Frag} {B : Base} {F F' H H' : Hp} {om : Om} {st : L2.St} {r : Env} {W : WX} {pos : Pos}
def wCallL (df : DF) (dds : List D) (wa : WA) : WE := fun xq r om k => wa xq r om fun xs r1 om1 => wd (datsB r1 om1 xs) fun ds => df (ds ++ dds) (fun _ => none) (fun x _ => lfR x ∧ k x r1 om1) (fun ex _ => lfX ex ∧ xq ex r1 om1)
theorem wCallL_q {df : DF} {dds : List D} {wa : WA} {xq : DX} {r : DL.Env} {om : Om} {k : RV → DL.Env → Om → Prop} : wCallL df dds wa xq r om k = wa xq r om fun xs r1 om1 => wd (datsB r1 om1 xs) fun ds => callK df (ds ++ dds) (fun _ => none) (fun x _ => lfR x ∧ k x r1 om1) (fun ex _ => lfX ex ∧ xq ex r1 om1) := rfl
theorem se_callL {c : Con} {ta : TA} {wa : WA} (ha : SA K W ta wa) : SE K W (tCallSD (toSp K c) [] (L2.WE W) ta) (wCallL c.df [] wa) := by
  intro B F om H st r xq k Q R hx hQ hw
  refine ha B F om H st r xq _ _ R hx (fun xs r1 om1 F1 H1 ys R1 s1 k1 q1 hw => ?_) hw
  obtain ⟨ds, e1, hw⟩ := wd_iff hw
  have rp := repBs_lend R1.rh.sub (R1.datsB q1 e1)
  rw [List.append_nil] at hw
  have rp' : RepA K (lendF F1 H1) (ys ++ []) ds := by rw [List.append_nil]; exact rp
  exact callL_core R1 rp' (fun x F' H' y R' s' q' hk => hQ _ _ _ _ _ _ R' (s1.trans s') k1 q' hk) (fun ex F' H' cls d R' he hk => hx _ _ _ _ _ _ _ _ R' he hk) hw
theorem de_callL {x : Str} {c : Con} {k : Nat} {e : Expr} {es : List Expr} {p' : Pos} {t : TA} {w : WA} (F : Def X.prog X.w X.K X.mg X.base x c k) (hr : GRoom k X.A) (tk : Takes X W) (ha : DA X W (e :: es) t w) (hg : Gl X x := by rfl) (hdb : (x == ("__debug__" : Str)) = false := by decide)
    (he : starEach (e :: es) X.env = (false, eval e X.env) :: starEach es X.env := by rfl) (hpl : (backTo pos (starEach es X.env)).any (·.1) = false := by rfl) {K' : PySem.W.Frag} (hK : X.K = K' := by rfl) :
    DE X W (.Call (.Name x p') (e :: es) [] pos) (tCallSD (toSp K' c) [] (L2.WE W) t) (wCallL c.df [] w) := by
  subst hK
  exact ⟨let ⟨_, _, _, h1, h2, h3, h4⟩ := F; pe_callG h1 hr hg h2 h3 h4 .nil (fun σ => passAt tk σ) ha.p hdb he hpl, se_callL ha.s⟩
theorem lf_bl (i : Bool) : lf (.bl i) = true := by simp only [lf]
theorem lfR_v (d : D) : lfR (.v d) = (lf d = true) := rfl
end
end DL

set_option Elab.async false
set_option linter.all false
set_option maxRecDepth 100000
namespace DL
open PySem L2 PySem.W
section
variable {X : Cx} {K : PySem.W.Frag} {B : Base} {F F' H H' : Hp} {om : Om} {st : L2.St} {r : Env} {W : WX} {pos : Pos}
def rdHL (x : RV) (r : Env) (om : Om) (k : RV → Env → Om → Prop) (_ : Tg k := .mk) : Prop := match x with
  | .o ds => ∀ a, om a = none → k (.v (.h a)) r (oset om a (.lst ds))
  | _ => False
def wHL (we : WE) : WE := fun xq r om k => we xq r om fun x r1 om1 => rdHL x r1 om1 k
theorem wHL_q {we : WE} {xq : DX} {r : Env} {om : Om} {k : RV → Env → Om → Prop} : wHL we xq r om k = we xq r om fun x r1 om1 => rdHL x r1 om1 k := rfl
theorem rdHL_o {ds : List D} {r : Env} {om : Om} {k : RV → Env → Om → Prop} {t : Tg k} : rdHL (.o ds) r om k t = ∀ a, om a = none → k (.v (.h a)) r (oset om a (.lst ds)) := rfl
theorem de_hl {e : Expr} {te : TE} {we : WE} (he : DE X W e te we) : DE X W e te (wHL we) := ⟨he.p, fun B F om H st r xq k Q R hx hQ hw => by
  refine he.s B F om H st r xq _ _ R hx (fun x r1 om1 F1 H1 y R1 s1 k1 q1 hw => ?_) hw
  cases x with
  | v d => exact hw.elim
  | b i => exact hw.elim
  | o ds =>
    obtain ⟨a, rfl, o, o6⟩ := q1
    have R2 := R1.toH (ob := .lst ds) o o6 fun xs hr => hr
    exact hQ (.v (.h a)) _ _ _ _ _ R2 s1 trivial (Rep.h a) (hw a o.2.1)⟩
def rdMR (x : RV) (om : Om) : Prop := match x with
  | .v (.h a) => rdLh (om a)
  | _ => False
def rdMW (x : RV) (p : MutP) (args : List D) (r : Env) (om : Om) (k : RV → Env → Om → Prop) (_ : Tg (p, k) := .mk) : Prop := match x with
  | .v (.h a) => rdEh (om a) a (fun ds => p ds args) r om k
  | _ => False
def wMutR (we : WE) (p : MutP) (wa : WA) : WE := fun xq r om k => we xq r om fun x r1 om1 => rdMR x om1 ∧ wa xq r1 om1 fun xs r2 om2 => wd (datsE xs) fun args => rdMW x p args r2 om2 k
def mIns : MutP := fun ds args c => match args with
  | [.int i, d] => ds.length < sizeLine ∧ (0 ≤ i ∧ i < 2 ^ 62) ∧ c (ds.take i.toNat ++ [d] ++ ds.drop i.toNat) .non
  | _ => False
theorem mIns_at {ds : List D} {i : Int} {d : D} {c : List D → D → Prop} : mIns ds [.int i, d] c = (ds.length < sizeLine ∧ (0 ≤ i ∧ i < 2 ^ 62) ∧ c (ds.take i.toNat ++ [d] ++ ds.drop i.toNat) .non) := rfl
def rIns : V → List V → Hp → VK → Prop := fun x vs H Q => ∃ (l : Addr) (xs : List V) (i : Int) (y : V), x = .ref l ∧ vs = [.int i, y] ∧ H l = some (.lst xs) ∧ xs.length < sizeLine ∧ 0 ≤ i ∧ i < 2 ^ 63 ∧ Q .non (upd H l (.lst (xs.take i.toNat ++ [y] ++ xs.drop i.toNat)))
theorem sm_ins : SM K rIns mIns := by
  intro F H a xs ds ys args c Q s hH h1 h2 hp hQ
  unfold mIns at hp
  split at hp
  · next i d =>
    obtain ⟨l1, l2, hp⟩ := hp
    match ys, h2 with
    | [y, z], .cons q1 (.cons q2 .nil) =>
      cases q1
      refine ⟨a, xs, i, z, rfl, rfl, hH, by rw [h1.length]; exact l1, l2.1, by omega, hQ _ _ _ _ (((h1.take _).append (.cons q2 .nil)).append (h1.drop _)) .non hp⟩
  · exact hp.elim
def mExt : MutP := fun ds args c => match args with
  | [.lst es] => ds.length + es.length ≤ sizeLine ∧ c (ds ++ es) .non
  | _ => False
def mClr : MutP := fun ds args c => match args with
  | [] => c [] .non
  | _ => False
def mRvs : MutP := fun ds args c => match args with
  | [] => c ds.reverse .non
  | _ => False
theorem mRvs_at {ds : List D} {c : List D → D → Prop} : mRvs ds [] c = c ds.reverse .non := rfl
theorem sm_rvs : SM K rReverse mRvs := by
  intro F H a xs ds ys args c Q s hH h1 h2 hp hQ
  match args, h2, hp with
  | [], .nil, hp => exact ⟨a, xs, rfl, rfl, hH, hQ _ _ _ _ h1.reverse .non hp⟩
theorem de_ins (i : Nat) {x : Str} {p1 p2 cpos : Pos} {e e2 : Expr} {te te2 : TE} {we we2 : WE} (he : DE X W e te we) (he2 : DE X W e2 te2 we2) (hN : X.N[i]? = some x := by rfl) (hv : Vis X.env.scope x := by first | exact Or.inl rfl | exact Or.inr (Or.inl rfl) | exact Or.inr (Or.inr rfl)) (hd : (x == ("__debug__" : Str)) = false := by decide)
    (hcd : (x == ("__classdict__" : Str)) = false := by decide) (hbase : attributeBase (.Name x p1) "insert" X.env (eval (.Name x p1) X.env) = eval (.Name x p1) X.env := by rfl)
    (hfew : ((backTo cpos (starEach [e, e2] X.env)).all (fun x => !x.1) && (backToKw cpos (keywordEach [] X.env)).all (fun x => x.1.isSome) && decide (([e, e2] : List Expr).length + ([] : List Keyword).length + (if ([] : List Keyword).isEmpty then 0 else 1) < 30)) = true := by rfl)
    (hline : (p2.endLine == cpos.line) = true := by rfl) (hs : starEach [e, e2] X.env = (false, eval e X.env) :: starEach [e2] X.env := by rfl) (hs2 : starEach [e2] X.env = (false, eval e2 X.env) :: starEach [] X.env := by rfl) (hplain : (backTo cpos (starEach [e2] X.env)).any (·.1) = false := by rfl) {K' : PySem.W.Frag} (hK : X.K = K' := by rfl) :
    DE X W (.Call (.Attribute (.Name x p1) "insert" p2) [e, e2] [] cpos) (tBM K' "list" rIns (tVar i) (tCons te (tCons te2 tNil))) (wMut i mIns (wCons we (wCons we2 wNil))) := by
  subst hK
  exact ⟨pe_bm PySem.F.plainAttrs_list PySem.F.slot_list_insert PySem.F.type_list_insert mt_insert (pe_var hN hv hd hcd) (pa_cons he.p (pa_cons he2.p pa_nil hs2) hs) hbase hfew hline hs hplain, se_mut (sa_cons he.s (sa_cons he2.s sa_nil)) sm_ins⟩
theorem de_rvs (i : Nat) {x : Str} {p1 p2 cpos : Pos} (hN : X.N[i]? = some x := by rfl) (hv : Vis X.env.scope x := by first | exact Or.inl rfl | exact Or.inr (Or.inl rfl) | exact Or.inr (Or.inr rfl)) (hd : (x == ("__debug__" : Str)) = false := by decide)
    (hcd : (x == ("__classdict__" : Str)) = false := by decide) (hbase : attributeBase (.Name x p1) "reverse" X.env (eval (.Name x p1) X.env) = eval (.Name x p1) X.env := by rfl) (hline : (p2.endLine == cpos.line) = true := by rfl) {K' : PySem.W.Frag} (hK : X.K = K' := by rfl) :
    DE X W (.Call (.Attribute (.Name x p1) "reverse" p2) [] [] cpos) (tBM0 K' "list" rReverse (tVar i)) (wMut0 i mRvs) := by
  subst hK
  exact ⟨pe_bm0 PySem.F.plainAttrs_list PySem.F.slot_list_reverse PySem.F.type_list_reverse mt_reverse (pe_var hN hv hd hcd) hbase hline, se_mut0 sm_rvs⟩
def ddr (om : Om) : D → D
  | .lst ds => .lst (ds.map (deref om))
  | d => d
def wCallD (df : DF) (dds : List D) (wa : WA) : WE := fun xq r om k => wa xq r om fun xs r1 om1 => wd (datsB r1 om1 xs) fun ds => df (ds.map (ddr om1) ++ dds) (fun _ => none) (fun x _ => lfR x ∧ k x r1 om1) (fun ex _ => lfX ex ∧ xq ex r1 om1)
def lcGo2 (g : GT) (wt : WT) (wi1 : WI) (g1 : GT) (wt1 : WT) (we : WE) (vs vs1 : List Nat) : List D → List D → Env → Om → (List D → Env → Om → Prop) → Prop
  | [], acc, r, om, fin => fin acc r om
  | d :: ds, acc, r, om, fin => g (.v d) r fun r2 => wt X0 r2 om fun b r3 om3 =>
      cnd b (wi1 X0 r3 om3 fun items r4 om4 => lcGo g1 wt1 we vs1 items acc (wipeE r4 vs1) om4 fun acc' r5 om5 => lcGo2 g wt wi1 g1 wt1 we vs vs1 ds acc' (wipeE r5 vs) om5 fin)
      (lcGo2 g wt wi1 g1 wt1 we vs vs1 ds acc (wipeE r3 vs) om3 fin)
def wLc2 (wi : WI) (g : GT) (wt : WT) (wi1 : WI) (g1 : GT) (wt1 : WT) (we : WE) (vs vs1 : List Nat) : WE := fun xq r om k => wi xq r om fun items r1 om1 => lcGo2 g wt wi1 g1 wt1 we vs vs1 items [] (wipeE r1 vs) om1 fun acc r2 om2 => k (.o acc) r2 om2
def lc2K (g : GT) (wt : WT) (wi1 : WI) (g1 : GT) (wt1 : WT) (we : WE) (vs vs1 : List Nat) (l acc : List D) (r : Env) (om : Om) (fin : List D → Env → Om → Prop) (_ : Tg (g, wt, wi1, g1, wt1, we, fin) := .mk) : Prop := lcGo2 g wt wi1 g1 wt1 we vs vs1 l acc r om fin
end
end DL

set_option Elab.async false
set_option linter.all false
set_option maxRecDepth 100000
namespace DL
open PySem L2 PySem.W RZ
def CardIs (ns : List Int) (c : Nat) : Prop := ∃ l : List Int, l.Nodup ∧ (∀ k, k ∈ l ↔ k ∈ ns) ∧ l.length = c
theorem erase_sub {l m : List Int} {x : Int} (h1 : x ∉ l) (h : ∀ k ∈ x :: l, k ∈ m) : ∀ k ∈ l, k ∈ m.erase x := fun k mk =>
  (List.mem_erase_of_ne (fun e => by rw [e] at mk; exact h1 mk)).mpr (h k (List.mem_cons_of_mem _ mk))
theorem nodup_sub : ∀ {l m : List Int}, l.Nodup → (∀ k ∈ l, k ∈ m) → l.length ≤ m.length
  | [], m, _, _ => Nat.zero_le _
  | x :: l, m, nd, h => by
    obtain ⟨h1, h2⟩ := List.nodup_cons.mp nd
    have mx := h x (by simp)
    have ih := nodup_sub (m := m.erase x) h2 (erase_sub h1 h)
    rw [List.length_erase_of_mem mx] at ih
    have := List.length_pos_of_mem mx
    simp only [List.length_cons]; omega
theorem nodup_full : ∀ {l m : List Int}, l.Nodup → (∀ k ∈ l, k ∈ m) → l.length = m.length → m.Nodup
  | [], m, _, _, e => by
    have : m = [] := List.eq_nil_of_length_eq_zero e.symm
    rw [this]; simp
  | x :: l, m, nd, h, e => by
    obtain ⟨h1, h2⟩ := List.nodup_cons.mp nd
    have mx := h x (by simp)
    have e2 : l.length = (m.erase x).length := by
      rw [List.length_erase_of_mem mx]; simp only [List.length_cons] at e; omega
    have ih := nodup_full h2 (erase_sub h1 h) e2
    refine (List.perm_cons_erase mx).nodup_iff.mpr (List.nodup_cons.mpr ⟨fun hx => ?_, ih⟩)
    have := nodup_sub (l := x :: l) (m := m.erase x) nd fun k mk => by
      rcases List.mem_cons.mp mk with rfl | mk
      · exact hx
      · exact erase_sub h1 h k mk
    simp only [List.length_cons] at this; omega
theorem CardIs.uniq {ns : List Int} {c d : Nat} (h : CardIs ns c) (g : CardIs ns d) : c = d := by
  obtain ⟨l, l1, l2, rfl⟩ := h
  obtain ⟨m, m1, m2, rfl⟩ := g
  exact Nat.le_antisymm (nodup_sub l1 fun k mk => (m2 k).mpr ((l2 k).mp mk)) (nodup_sub m1 fun k mk => (l2 k).mpr ((m2 k).mp mk))
theorem CardIs.le {ns : List Int} {c : Nat} (h : CardIs ns c) : c ≤ ns.length := by
  obtain ⟨l, l1, l2, rfl⟩ := h
  exact nodup_sub l1 fun k mk => (l2 k).mp mk
theorem CardIs.full {ns : List Int} {c : Nat} (h : CardIs ns c) : c = ns.length ↔ ns.Nodup := by
  constructor
  · intro e
    obtain ⟨l, l1, l2, l3⟩ := h
    exact nodup_full l1 (fun k mk => (l2 k).mp mk) (l3.trans e)
  · intro nd
    exact h.uniq ⟨ns, nd, fun _ => Iff.rfl, rfl⟩
def tLenSetQ (K : PySem.W.Frag) (ta : TE) : TE := fun σ H Q => ta σ H fun x H1 => ∃ (l : Addr) (ns : List Int), x = .ref l ∧ (SqT K H1 l (ns.map V.int) ∨ SqL K H1 l (ns.map V.int)) ∧ ns.length ≤ 3000 ∧ ∀ c : Nat, CardIs ns c → Q (.int (c : Int)) H1
section
variable {X : Cx} {K : PySem.W.Frag} {W : WX} {pos : Pos}
def lsK (o : Option (List Int)) (r : Env) (om : Om) (k : RV → Env → Om → Prop) (_ : Tg k := .mk) : Prop := match o with
  | some ns => ns.length ≤ 3000 ∧ ∀ c : Nat, CardIs ns c → k (.v (.int c)) r om
  | none => False
def wLenSet (we : WE) : WE := fun xq r om k => we xq r om fun x r1 om1 => wd (datB r1 om1 x) fun d => wd (seqD d) fun ds => lsK (nums ds) r1 om1 k
def rdUH (o : Option (Option RV)) (om : Om) (n : Nat) (g : GTs) (r : Env) (k : Env → Prop) : Prop := match o with
  | some (some (.v (.h a))) => match om a with
    | some (.lst ds) => ds.length = n ∧ g ds r k
    | _ => False
  | _ => False
def wUnpH (i n : Nat) (g : GTs) : WS := fun e r om => rdUH r[i]? om n g r fun r2 => e.nx r2 om
theorem wUnpH_e {i n : Nat} {g : GTs} {nx : DL.Env → Om → Prop} {rt : RV → Om → Prop} {bk ct : DL.Env → Om → Prop} {xq : DX} {r : DL.Env} {om : Om} : wUnpH i n g ⟨nx, rt, bk, ct, xq⟩ r om = rdUH r[i]? om n g r fun r2 => nx r2 om := rfl
theorem rdUH_of {om : Om} {a : Addr} {ds : List D} {n : Nat} {g : GTs} {r : Env} {k : Env → Prop} (h : om a = some (.lst ds)) (hl : ds.length = n) (hg : g ds r k) : rdUH (some (some (.v (.h a)))) om n g r k := by
  unfold rdUH; simp only [h]; exact ⟨hl, hg⟩
theorem ss_unpH {i n : Nat} {g : TGs} {w : GTs} (hg : SGs K g w) : SS K W (tAsg (tVar i) (gLst K n g)) (wUnpH i n w) := fun B F om H st r D e R hx hE hw => by
  have hw' : rdUH r[i]? om n w r fun r2 => e.nx r2 om := hw
  unfold rdUH at hw'
  split at hw'
  · next a q =>
    split at hw'
    · next ds q2 =>
      obtain ⟨hl, hw'⟩ := hw'
      obtain ⟨y, e1, s⟩ := R.slot i _ q
      cases s
      obtain ⟨xs, o4, o5⟩ := (R.rh.obj a _ q2).2.lst
      refine ⟨.ref a, e1, a, xs, rfl, SqL.of o4, by rw [o5.length]; exact hl, ?_⟩
      exact hg B F om H st r _ _ _ _ R o5 (fun st' r' R' hk => hE.nx _ _ _ _ _ R' hk) hw'
    · exact hw'.elim
  · exact hw'.elim
theorem ds_unpH (i : Nat) {x : Str} {p : Pos} {es : List Expr} {k : Nat} {tp : Pos} {t : TGs} {w : GTs} {n : Nat} (hc : X.calm = true) (h : DGs X es t w) (hN : X.N[i]? = some x := by rfl) (hv : Vis X.env.scope x := by first | exact Or.inl rfl | exact Or.inr (Or.inl rfl) | exact Or.inr (Or.inr rfl)) (hd : (x == ("__debug__" : Str)) = false := by decide) (hcd : (x == ("__classdict__" : Str)) = false := by decide)
    (hn : (assignEach es X.env).length = n := by rfl) (hst : (assignEach es X.env).findIdx? (·.1) = none := by rfl)
    (hs : swapsWithSole [.Tuple es k tp] (.Name x p) pos.line X.env = pure false := by rfl) (hw : swappedStores [.Tuple es k tp] (.Name x p) X.env = pure none := by rfl)
    (h1 : (assignEach [.Tuple es k tp] X.env).map (·.2) = [assign (.Tuple es k tp) X.env] := by rfl) {K' : PySem.W.Frag} (hK : X.K = K' := by rfl) :
    DS X W (.Assign [.Tuple es k tp] (.Name x p) pos) (tAsg (tVar i) (gLst K' n t)) (wUnpH i n w) := by
  subst hK
  exact ⟨ps_asg (pe_var hN hv hd hcd) (pg_lst hc h.p hn hst) hs hw h1, ss_unpH h.s⟩
end
end DL

set_option Elab.async false
set_option linter.all false
set_option maxRecDepth 100000
namespace DL
open PySem L2 PySem.W PyProof.Rows
section
variable {prog : Program} {w : World} {A : Around} {E : Value → Shared → Prop} {s : Shared}
end
def gStarT (K : PySem.W.Frag) (t : TGs) : TG := fun v σ H Q => ∃ a x xs, v = .ref a ∧ (SqL K H a (x :: xs) ∨ SqT K H a (x :: xs)) ∧ xs.length ≤ 16000 ∧ ∀ p, H p = none → t [x, .ref p] σ (upd H p (.lst xs)) Q
section
variable {X : Cx} {K : PySem.W.Frag} {W : WX} {pos : Pos}
def starD : RV → Option (D × List D)
  | .v (.lst (d :: ds)) => some (d, ds)
  | .v (.frl (d :: ds)) => some (d, ds)
  | .v (.tup (d :: ds)) => some (d, ds)
  | _ => none
def wStar (we : WE) (i j : Nat) : WS := fun e r om => we e.xq r om fun x r1 om1 => wd (starD (fz x)) fun p => p.2.length ≤ 16000 ∧ putP [i, j] [p.1, .lst p.2] r1 fun r2 => e.nx r2 om1
def two2 : List D → Option (D × D)
  | [a, b] => some (a, b)
  | _ => none
def setE (n : Int) (d : D) : List D → (List D → D → Prop) → Prop := fun es c => wd (ixN es.length n) fun m => c (es.set m d) .non
def wSwp (i : Nat) (wa : WA) (w1 w2 : WE) : WS := fun e r om => wa e.xq r om fun xs r1 om1 => wd (datsE xs) fun ds => wd (two2 ds) fun p => lstS om1 r1 i ∧ w1 e.xq r1 om1 fun y r2 om2 => wd (datB r2 om2 y) fun j => wd (intD j) fun n =>
  wMutE i (setE n p.1) r2 om2 fun _ r3 om3 => w2 e.xq r3 om3 fun y' r4 om4 => wd (datB r4 om4 y') fun j' => wd (intD j') fun n' => wMutE i (setE n' p.2) r4 om4 fun _ r5 om5 => e.nx r5 om5
def rLenD : List V → Hp → VK → Prop := fun xs H Q => ∃ (a : Addr) (kvs : List (Key × V)), xs = [.ref a] ∧ Rd H a (.dK kvs) ∧ Q (.int (kvs.length : Int)) H
def wDLen (i : Nat) : WE := fun _ r om k => rdDct r[i]? om fun _ ps => k (.v (.int (ps.length : Int))) r om
end
end DL

set_option Elab.async false
set_option linter.all false
set_option maxRecDepth 100000
namespace DL
open PySem L2
def listsD (L : List (List (List Int))) : List D := L.map fun rs => .lst (rowsD rs)
theorem lists_len (L : List (List (List Int))) : (listsD L).length = L.length := by simp [listsD]
theorem eqvA_ints : ∀ a b : List Int, PyData.eqvAll (pys (a.map D.int)) (pys (b.map D.int)) = decide (a = b)
  | [], [] => by simp [pys, PyData.eqvAll]
  | [], y :: b => by simp [pys, PyData.eqvAll]
  | x :: a, [] => by simp [pys, PyData.eqvAll]
  | x :: a, y :: b => by by_cases h : x = y <;> simp [pys, py, PyData.eqvAll, PyData.eqv, eqvA_ints a b, h]
theorem eqv_rowR (a b : List Int) : PyData.eqv (py (rowD a)) (py (rowD b)) = decide (a = b) := by
  simp only [rowD, py, PyData.eqv]; exact eqvA_ints a b
theorem eqvA_rows : ∀ a b : List (List Int), PyData.eqvAll (pys (rowsD a)) (pys (rowsD b)) = decide (a = b)
  | [], [] => by simp [rowsD, pys, PyData.eqvAll]
  | [], y :: b => by simp [rowsD, pys, PyData.eqvAll]
  | x :: a, [] => by simp [rowsD, pys, PyData.eqvAll]
  | x :: a, y :: b => by
    have ih := eqvA_rows a b
    unfold rowsD at ih ⊢
    simp only [List.map_cons, pys, PyData.eqvAll, eqv_rowR, ih]
    by_cases h : x = y <;> simp [h]
theorem eqD_iL (a b : List Int) : eqD (.lst (a.map D.int)) (.lst (b.map D.int)) = decide (a = b) := by simp only [eqD, py, PyData.eqv]; exact eqvA_ints a b
theorem eqD_iT (a b : List Int) : eqD (.tup (a.map D.int)) (.tup (b.map D.int)) = decide (a = b) := by simp only [eqD, py, PyData.eqv]; exact eqvA_ints a b
theorem eqD_rL (a b : List (List Int)) : eqD (.lst (rowsD a)) (.lst (rowsD b)) = decide (a = b) := by simp only [eqD, py, PyData.eqv]; exact eqvA_rows a b
theorem eqD_rL0 (a : List (List Int)) : eqD (.lst (rowsD a)) (.lst []) = decide (a = []) := eqD_rL a []
theorem eqD_00 : eqD (.lst []) (.lst []) = true := by simpa using eqD_iL [] []
theorem deps_row1 (rs : List (List Int)) : okcs (rowsD rs) = true ∧ deps (rowsD rs) ≤ 1 := by
  induction rs with
  | nil => exact ⟨rfl, Nat.zero_le _⟩
  | cons r rs ih =>
    refine ⟨by simp only [rowsD, List.map_cons, okcs, okc_row, Bool.true_and]; exact ih.1, ?_⟩
    have i2 : deps (rowsD rs) ≤ 1 := ih.2
    have i3 := dep_row r
    simp only [rowsD, List.map_cons, deps] at i2 ⊢
    omega
theorem okE_iL (a : List Int) : okE (.lst (a.map D.int)) = True := eq_true (okE_of (by simp only [okc, okcs_ints]) (by simp only [dep, deps_ints]; omega))
theorem okE_iT (a : List Int) : okE (.tup (a.map D.int)) = True := eq_true (okE_of (by simp only [okc, okcs_ints]) (by simp only [dep, deps_ints]; omega))
theorem okE_rw (a : List Int) : okE (rowD a) = True := okE_iT a
theorem okE_rL (a : List (List Int)) : okE (.lst (rowsD a)) = True := eq_true (okE_of (by simp only [okc]; exact (deps_row1 a).1) (by have := (deps_row1 a).2; simp only [dep]; omega))
theorem okE_0L : okE (.lst []) = True := okE_iL []
theorem ixK_lists {L : List (List (List Int))} {i : Int} {c : RV → Prop} {t : Tg c} (h0 : 0 ≤ i) (h1 : i < (L.length : Int)) (h : c (.v (.lst (rowsD (L.getD i.toNat []))))) : ixK (listsD L) i c t := by
  unfold ixK listsD
  rw [atI_ge h0 (by rw [List.length_map]; exact h1), List.getElem?_map, List.getElem?_eq_getElem (by omega)]
  rw [List.getD_eq_getElem?_getD, List.getElem?_eq_getElem (by omega)] at h
  exact h
theorem rows_app (a b : List (List Int)) : rowsD a ++ rowsD b = rowsD (a ++ b) := by simp [rowsD]
theorem while_inv {wt : WT} {wb : WS} {e : DEnds} {r : DL.Env} {om : Om} (I : Nat → DL.Env → Om → Prop) {m : Nat} (h0 : I m r om) (hs : ∀ m r om, I m r om → wt e.xq r om fun b r1 om1 => cnd b (wb { e with nx := fun r' om' => ∃ m', m' < m ∧ I m' r' om', ct := fun r' om' => ∃ m', m' < m ∧ I m' r' om', bk := e.nx } r1 om1) (e.nx r1 om1)) : wWhile wt wb e r om := by
  refine ⟨I, ⟨m, h0⟩, fun m r om h => ?_⟩
  have := hs m r om h
  simp only [cnd] at this
  exact this
theorem rows_get {rs : List (List Int)} {i : Nat} {d : D} (h : (rowsD rs)[i]? = some d) : ∃ r, rs[i]? = some r ∧ d = rowD r := by
  unfold rowsD at h
  rw [List.getElem?_map] at h
  obtain ⟨r, e, rfl⟩ := Option.map_eq_some_iff.mp h
  exact ⟨r, e, rfl⟩
theorem ints_get' {ns : List Int} {i : Nat} {d : D} (h : (ns.map D.int)[i]? = some d) : ∃ n, ns[i]? = some n ∧ d = .int n := by
  rw [List.getElem?_map] at h
  obtain ⟨r, e, rfl⟩ := Option.map_eq_some_iff.mp h
  exact ⟨r, e, rfl⟩
theorem ltD_rows (a b : List Int) : ltD (rowD a) (rowD b) = decide (a < b) := by
  have e : ∀ a : List Int, py (rowD a) = .tuple (a.map .int) := fun a => by simp only [rowD, py, pys_ints]
  unfold ltD
  rw [e, e, PySem.W.dataLt_tuple]
  exact PySem.W.dataLt_ints a b
def sortL (rs : List (List Int)) : List (List Int) := rs.mergeSort fun a b => !decide (b < a)
theorem sortD_rows (rs : List (List Int)) : sortD (rowsD rs) = rowsD (sortL rs) := by
  unfold sortD sortL rowsD
  rw [List.map_mergeSort (r := fun a b => !decide (b < a)) (s := fun a b => !ltD b a) (f := rowD) (l := rs)]
  intro a _ b _
  rw [ltD_rows]
theorem okSort_rows {rs : List (List Int)} (h : ∀ r ∈ rs, r ≠ []) : okSort (rowsD rs) := by
  refine ⟨(okcs_py _ (deps_row1 rs).1).1, ?_, .inl ?_, ?_⟩
  · unfold rowsD
    rw [pys_map, List.map_map]
    exact PySem.W.AllAlike.of fun r q => by simp only [Function.comp, rowD, py, PySem.W.alike, pys_ints, PySem.W.alike_ints]
  · intro d m
    unfold rowsD at m
    rw [pys_map, List.map_map] at m
    obtain ⟨r, mr, rfl⟩ := List.mem_map.mp m
    cases hr : r with
    | nil => exact absurd hr (h r mr)
    | cons x q => exact ⟨.int x, pys (q.map D.int), by simp only [Function.comp, rowD, py, List.map_cons, pys]⟩
  · intro e m
    unfold rowsD at m
    rw [pys_map, List.map_map] at m
    obtain ⟨r, _, rfl⟩ := List.mem_map.mp m
    show (py (rowD r)).depth ≤ 40
    rw [(okc_py _ (okc_row r)).2.2.2, dep_row]; decide
theorem sortL_perm (rs : List (List Int)) : (sortL rs).Perm rs := List.mergeSort_perm _ _
theorem sortL_pw (rs : List (List Int)) : (sortL rs).Pairwise fun a b => a ≤ b := by
  have h := List.pairwise_mergeSort (le := fun a b : List Int => !decide (b < a)) (fun a b d => ?_) (fun a b => ?_) rs
  · exact h.imp fun h => by simpa using h
  · simp only [Bool.not_eq_true', decide_eq_false_iff_not]; exact fun h g => List.le_trans h g
  · simp only [Bool.or_eq_true, Bool.not_eq_true', decide_eq_false_iff_not]; exact List.le_total a b
theorem pwL_uniq : ∀ {l m : List (List Int)}, l.Perm m → (l.Pairwise fun a b => a ≤ b) → (m.Pairwise fun a b => a ≤ b) → l = m
  | [], m, h, _, _ => (List.nil_perm.mp h).symm
  | x :: l, [], h, _, _ => by have := h.length_eq; simp at this
  | x :: l, y :: m, h, hl, hm => by
    obtain ⟨a1, a2⟩ := List.pairwise_cons.mp hl
    obtain ⟨b1, b2⟩ := List.pairwise_cons.mp hm
    have e : x = y := by
      have mx : x ∈ y :: m := h.mem_iff.mp (by simp)
      have my : y ∈ x :: l := h.mem_iff.mpr (by simp)
      rcases List.mem_cons.mp mx with e | mx
      · exact e
      rcases List.mem_cons.mp my with e | my
      · exact e.symm
      exact List.le_antisymm (a1 y my) (b1 x mx)
    subst e
    rw [pwL_uniq (List.perm_cons x |>.mp h) a2 b2]
theorem sortL_of {rs zs : List (List Int)} (hp : zs.Perm rs) (hs : zs.Pairwise fun a b => a ≤ b) : zs = sortL rs := pwL_uniq (hp.trans (sortL_perm rs).symm) hs (sortL_pw rs)
section
variable {X : Cx} {W : WX} {pos : Pos}
def wTR2 (wa wb : WE) : WE := fun xq r om k => wa xq r om fun x r1 om1 => wb xq r1 om1 fun y r2 om2 => wd (datB r2 om2 x) fun d => wd (intD d) fun i => wd (datB r2 om2 y) fun e => wd (intD e) fun j => (0 ≤ i ∧ i ≤ j ∧ j ≤ 16777216) ∧ k (.v (.tup (rng i (j - i).toNat))) r2 om2
end
end DL

set_option Elab.async false
set_option linter.all false
set_option maxRecDepth 100000
namespace DL
open PySem L2
def entB (l : List DictEntry) (tab : List (Str × Int)) : Bool := match l, tab with
  | [], [] => true
  | e :: l, (x, i) :: tab => (match e.key, e.val with
    | .str y _, .int j _ => decide (y = x) && decide (j = i)
    | _, _ => false) && entB l tab
  | _, _ => false
def tabB (K : PySem.W.Frag) (x : Str) (tab : List (Str × Int)) : Bool := match K.lookup (He.ga K x) with
  | some ⟨_, _, .dict es _, _⟩ => entB es.toList tab
  | _ => false
def tabD (tab : List (Str × Int)) (z : Str) : Option Int := (tab.find? fun q => decide (q.1 = z)).map (·.2)
theorem entB_find : ∀ {l : List DictEntry} {tab : List (Str × Int)} (z : Str), entB l tab = true → (∃ i t, tabD tab z = some i ∧ ((l.find? fun e => Value.isStrOf z e.key).map (·.val)) = some (.int i t)) ∨ (tabD tab z = none ∧ ((l.find? fun e => Value.isStrOf z e.key).map (·.val)) = none)
  | [], [], z, _ => .inr ⟨rfl, rfl⟩
  | [], _ :: _, _, h => by simp [entB] at h
  | _ :: _, [], _, h => by simp [entB] at h
  | e :: l, (x, i) :: tab, z, h => by
    simp only [entB, Bool.and_eq_true] at h
    obtain ⟨h1, h2⟩ := h
    have ih := entB_find z h2
    split at h1
    · next y t0 j t1 ek ev =>
      simp only [Bool.and_eq_true, decide_eq_true_eq] at h1
      obtain ⟨rfl, rfl⟩ := h1
      by_cases hz : y = z
      · subst hz
        refine .inl ⟨j, t1, by simp [tabD], ?_⟩
        rw [List.find?_cons, ek]
        simp [Value.isStrOf, ev]
      · have e1 : tabD ((y, j) :: tab) z = tabD tab z := by simp [tabD, hz]
        have e2 : Value.isStrOf z e.key = false := by rw [ek]; simp [Value.isStrOf, hz]
        rw [e1, List.find?_cons, e2]
        exact ih
    · cases h1
structure DicT (K : PySem.W.Frag) (w : World) (x : Str) (tab : List (Str × Int)) : Prop where
  ok : ∃ es n, KDict K w (He.ga K x) es n ∧ ∀ z : Str, (∃ i t, tabD tab z = some i ∧ PySem.findBy Value.isStrOf es z = some (.int i t)) ∨ (tabD tab z = none ∧ PySem.findBy Value.isStrOf es z = none)
theorem DicT.of {K : PySem.W.Frag} {w : World} {x : Str} {tab : List (Str × Int)} {es : Array DictEntry} {n : Nat} (h : KDict K w (He.ga K x) es n) (hb : tabB K x tab = true) : DicT K w x tab := by
  refine ⟨es, n, h, fun z => ?_⟩
  unfold tabB at hb
  rw [h.at_] at hb
  have := entB_find z hb
  obtain ⟨l⟩ := es
  unfold PySem.findBy
  rw [List.find?_toArray]
  exact this
section
variable {X : Cx} {W : WX} {pos : Pos}
def tKGet (tab : List (Str × Int)) (ty : TE) : TE := fun σ H Q => ty σ H fun y H2 => ∃ z, y = .str z ∧ Q (match tabD tab z with | some i => .int i | none => .non) H2
def strD : D → Option Str
  | .str z => some z
  | _ => none
def getT (tab : List (Str × Int)) (o : D) (z : Str) : D := match tabD tab z with
  | some i => .int i
  | none => o
def wGGet (tab : List (Str × Int)) (we : WE) : WE := fun xq r om k => we xq r om fun x r1 om1 => wd (datB r1 om1 x) fun d => wd (strD d) fun z => k (.v (getT tab .non z)) r1 om1
def wGGetC (tab : List (Str × Int)) (o : D) (we : WE) : WE := fun xq r om k => we xq r om fun x r1 om1 => wd (datB r1 om1 x) fun d => wd (strD d) fun z => k (.v (getT tab o z)) r1 om1
end
def obsZG (n : Nat) (fa : List He.Fa) (fn : List He.DefD) (ex : PySem.W.Frag → Bool) (ts : List (Str × List Str)) (g : Addr → Option Obj) : (He.AlD × Bool) × List (Option (List (Option (Str × Int)))) :=
  (obsYG n fa fn ex g, ts.map fun q : Str × List Str => He.dicW (He.frG g (He.asD g n)) (He.ga (He.frG g (He.asD g n)) q.1))
def hookZ (n : Nat) (fa : List He.Fa) (fn : List He.DefD) (ex : PySem.W.Frag → Bool) (ts : List (Str × List Str)) : PySem.W.Hook where
  α := (He.AlD × Bool) × List (Option (List (Option (Str × Int))))
  obs := fun s => obsZG n fa fn ex ts s.heap.get?
  val := fun w => ((He.valD fn, true), ts.map fun q : Str × List Str => some (He.keysIn w.params q.2))
  says := fun w h => ∃ K : PySem.W.Frag, K.In h ∧ He.SaysD fa fn K ∧ ex K = true ∧ (ts.map fun q : Str × List Str => He.dicW K (He.ga K q.1)) = ts.map fun q : Str × List Str => some (He.keysIn w.params q.2)
  of := fun _ _ e => ⟨_, He.frG_in, congrArg (fun z : (He.AlD × Bool) × List (Option (List (Option (Str × Int)))) => z.1.1) e, congrArg (fun z : (He.AlD × Bool) × List (Option (List (Option (Str × Int)))) => z.1.2) e, congrArg (fun z : (He.AlD × Bool) × List (Option (List (Option (Str × Int)))) => z.2) e⟩
  keeps := fun _ _ _ ⟨K, hK, c⟩ k => ⟨K, PySem.W.Frag.In.keeps hK k, c⟩
section
variable {X : Cx}
open PySem.W PyProof.Rows
def rMaxT (K : PySem.W.Frag) : List V → Hp → VK → Prop := fun vs H Q => ∃ (a : Addr) (n : Int) (ns : List Int), vs = [V.ref a] ∧ SqT K H a ((n :: ns).map V.int) ∧ Q (.int (ns.foldl max n)) H
def maxLf : List Int → (RV → Prop) → Prop
  | [], _ => False
  | n :: ns, c => c (.v (.int (ns.foldl max n)))
def pMaxT : PN := fun ds c => wd (one ds) fun d => wd (seqT d) fun es => wd (nums es) fun ns => maxLf ns c
end
section
variable {X : Cx}
end
section
variable {X : Cx} {W : WX} {pos : Pos}
def wTR1 (we : WE) : WE := fun xq r om k => we xq r om fun x r1 om1 => wd (datB r1 om1 x) fun d => wd (intD d) fun n => (-(2 ^ 62) ≤ n ∧ n ≤ 16777216) ∧ k (.v (.tup (rng 0 n.toNat))) r1 om1
end
end DL

set_option Elab.async false
set_option linter.all false
set_option maxRecDepth 100000
namespace DL
open PySem L2
def strsB : List Value → List Str → Bool
  | [], [] => true
  | .str y _ :: l, x :: xs => decide (y = x) && strsB l xs
  | _, _ => false
def tupB (K : PySem.W.Frag) (x : Str) (ss : List Str) : Bool := match K.lookup (He.ga K x) with
  | some o => (match o.cls, o.data with
    | .type "tuple", .seq its _ => decide (its.size ≤ 1000) && strsB its.toList ss
    | _, _ => false)
  | none => false
def scal : D → Option V
  | .non => some .non
  | .bl b => some (.bl b)
  | .int i => some (.int i)
  | .str x => some (.str x)
  | _ => none
def scals : List D → Option (List V)
  | [] => some []
  | d :: ds => (scal d).bind fun v => (scals ds).map (v :: ·)
theorem scals_cons (d : D) (ds : List D) : scals (d :: ds) = (scal d).bind fun v => (scals ds).map (v :: ·) := rfl
theorem scal_ok {K : PySem.W.Frag} {F : Hp} {x v : V} {d : D} (r : Rep K F x d) (e : scal d = some v) : x = v ∧ flatV v = true := by
  cases r <;> simp only [scal, Option.some.injEq, reduceCtorEq] at e <;> subst e <;> exact ⟨rfl, rfl⟩
theorem scals_ok {K : PySem.W.Frag} {F : Hp} : ∀ {xs vs : List V} {ds : List D}, RepA K F xs ds → scals ds = some vs → xs = vs ∧ vs.all flatV = true
  | _, _, _, .nil, e => by cases e; exact ⟨rfl, rfl⟩
  | _, _, _, .cons (d := d) (ds := ds) r t, e => by
    rw [scals_cons] at e
    obtain ⟨v, ev, e2⟩ := Option.bind_eq_some_iff.mp e
    obtain ⟨vs, evs, rfl⟩ := Option.map_eq_some_iff.mp e2
    obtain ⟨rfl, f1⟩ := scal_ok r ev
    obtain ⟨rfl, f2⟩ := scals_ok t evs
    exact ⟨rfl, by simp [f1, f2]⟩
def pInA : P2 := fun d e c => match e with
  | .tup es => wd (scal d) fun x => wd (scals es) fun xs => c (.v (.bl (inV x xs)))
  | e => pIn d e c
def pNotInA : P2 := fun d e c => match e with
  | .tup es => wd (scal d) fun x => wd (scals es) fun xs => c (.v (.bl (!inV x xs)))
  | e => pNotIn d e c
theorem pNotInA_l (d : D) (es : List D) (c : RV → Prop) : pNotInA d (.lst es) c = pNotIn d (.lst es) c := rfl
section
variable {X : Cx}
def rOr (a b : R2) : R2 := fun x y H Q => a x y H Q ∨ b x y H Q
theorem opOr {f : Value → Value → Sem Value} {a b : R2} (ha : OpR X f a) (hb : OpR X f b) : OpR X f (rOr a b) := by
  intro pins s σ H x y v u Q I rx ry h
  rcases h with h | h
  · exact ha pins s σ H x y v u Q I rx ry h
  · exact hb pins s σ H x y v u Q I rx ry h
theorem o_notinA {k : Nat} (hr : GRoom k X.A) : O2 X (compareOp .NotIn) (rOr (rNotInD X.K) (rIn X.K true)) pNotInA := ⟨opOr (o_notin hr).p op_notIn_seq, fun F H x y d e c Q s rx ry hp hQ => by
  cases e with
  | tup es =>
    refine .inr ?_
    obtain ⟨v, e1, hp1⟩ := wd_iff hp
    obtain ⟨vs, e2, hp2⟩ := wd_iff hp1
    obtain ⟨a, xs, rfl, h1, h2⟩ := ry.tupS s
    obtain ⟨rfl, f2⟩ := scals_ok h2 e2
    have rx1 : x = v ∧ flatV v = true := by
      rcases rx with rx | ⟨_, _, _, _, rfl, _⟩
      · exact scal_ok rx e1
      · cases e1
    obtain ⟨rfl, f1⟩ := rx1
    exact ⟨a, xs, rfl, .inr h1, f1, f2, vres s (.bl _) hp2 hQ⟩
  | _ => exact .inl ((o_notin hr).s F H x y d _ c Q s rx ry hp hQ)⟩
end
end DL

set_option Elab.async false
set_option linter.all false
set_option maxRecDepth 100000
namespace DL
open PySem L2 PySem.W
section
variable {K : PySem.W.Frag} {F F' H H' : Hp} {om om1 : Om}
def wout (S : List Addr) (om : Om) : Om := fun b => if b ∈ S then none else om b
mutual
def thaw (S : List Addr) (om : Om) : D → D
  | .h a => if a ∈ S then (match om a with | some (.lst ds) => .lst ds | _ => .h a) else .h a
  | .tup ds => .tup (thaws S om ds)
  | d => d
def thaws (S : List Addr) (om : Om) : List D → List D
  | [] => []
  | d :: ds => thaw S om d :: thaws S om ds
end
def frzC (c : Con) : Con := ⟨c.n, fun ds om k xk => c.df ds om (fun x om2 => ∀ S om1 d, (∀ b ∈ S, om b = none) → om2 = wout S om1 → x = .v (thaw S om1 d) → k (.v d) om1) xk, fun ds om k xk h => c.len ds om _ _ h, fun ds om k k' xk xk' hk hx h => c.mono _ _ _ _ _ _ (fun x om2 g S om1 d h1 h2 h3 => hk _ _ (g S om1 d h1 h2 h3)) (fun ex om1 g => hx _ _ g) h⟩
def frzF (S : List Addr) (om1 : Om) (F H : Hp) : Hp := fun b => match F b with
  | some o => some o
  | none => if b ∈ S then (match om1 b with | some (.lst _) => H b | _ => none) else none
end
end DL

set_option Elab.async false
set_option linter.all false
set_option maxRecDepth 100000
namespace DL
open PySem L2 PySem.W PyProof.Rows
section
variable {X : Cx} {K : PySem.W.Frag} {B : Base} {F F' H H' : Hp} {om : Om} {st : L2.St} {r : Env} {W : WX} {pos : Pos}
def getF (f : Str) : List (Str × D) → Option D
  | [] => none
  | (g, d) :: ps => if f == g then some d else getF f ps
def setF (f : Str) (d : D) : List (Str × D) → List (Str × D)
  | [] => [(f, d)]
  | (g, e) :: ps => if g == f then (g, d) :: ps else (g, e) :: setF f d ps
def rdInh (o : Option Ob) (c : Str) (a : Addr) (f : Addr → List (Str × D) → Prop) (_ : Tg f := .mk) : Prop := match o with
  | some (.ins c' ps) => c' = c ∧ f a ps
  | _ => False
def rdIn (x : RV) (om : Om) (c : Str) (f : Addr → List (Str × D) → Prop) (_ : Tg f := .mk) : Prop := match x with
  | .v (.h a) => rdInh (om a) c a f
  | _ => False
def wFld (c f : Str) (we : WE) : WE := fun xq r om k => we xq r om fun x r1 om1 => rdIn x om1 c fun _ ps => wdK (getF f ps) fun d => k (.v d) r1 om1
structure ClF (K : PySem.W.Frag) (c : Str) (fl : List Str) : Prop where
  cls : Cls K (He.ga K c)
  no : ∀ f ∈ fl, NoAttr K (He.ga K c) f
def wFldS (c f : Str) (wo we : WE) : WS := fun e r om => we e.xq r om fun x r1 om1 => wo e.xq r1 om1 fun y r2 om2 => wd (datE x) fun d => rdIn y om2 c fun a ps => ps.length < 1000 ∧ e.nx r2 (oset om2 a (.ins c (setF f d ps)))
def tMethW (C : Addr) (m : Str) (sp : Sp) (E : L2.St → XK) (to : TE) (t : TA) : TE := fun σ H Q => to σ H fun x H1 => ∃ a dx fs, x = .ref a ∧ H1 a = some (.ins C dx fs) ∧ fs.lookup m = none ∧ t σ H1 fun vs H2 => sp (x :: vs) H2 Q (E σ)
def DefM (P : Program) (w : World) (K : PySem.W.Frag) (mg : Str → Option Value) (base : Heap) (c m : Str) (cn : Con) (k : Nat) : Prop :=
  Cls K (He.ga K c) ∧ ∃ (a : Addr) (fd : FuncData) (ps : List Str), Meth K (He.ga K c) m a ∧ GFn P w K mg base (L2.CX P w) k a fd ps (toSp K cn) ∧ Binds K fd ps []
def wMeth (c m : Str) (df : DF) (wo : WE) (wa : WA) : WE := fun xq r om k => wo xq r om fun x r1 om1 => rdIn x om1 c fun a ps => getF m ps = none ∧ wa xq r1 om1 fun xs r2 om2 => wd (datsE xs) fun ds => callK df (.h a :: ds) om2 (fun x om' => k x r2 om') (fun ex om' => xq ex r2 om')
def tMakeW (C : Addr) (n m : Nat) (sp : Sp) (gV : List V → List V → List V) (E : L2.St → XK) (t tk : TA) : TE := fun σ H Q => t σ H fun vs H1 => tk σ H1 fun zs H2 => vs.length = n ∧ zs.length = m ∧
  ∀ x dx, H2 x = none → H2 dx = none → dx ≠ x → sp (gV (.ref x :: vs) zs) (upd (upd H2 dx (.own x)) x (.ins C dx [])) (fun v H3 => v = .non ∧ Q (.ref x) H3) (E σ)
def DefN (P : Program) (w : World) (K : PySem.W.Frag) (mg : Str → Option Value) (base : Heap) (c : Str) (cn : Con) (k n : Nat) (ks : List Str) (gV : List V → List V → List V) : Prop :=
  ∃ (f : Addr) (fd : FuncData) (ps : List Str) (g : List Value → List Value → List Value), Mk K (He.ga K c) f ∧ GFn P w K mg base (L2.CX P w) k f fd ps (toSp K cn) ∧ mg c = some (.ref (He.ga K c)) ∧ KBn K fd ps (n + 1) ks g gV
def wMake (c : Str) (df : DF) (n m : Nat) (gD : List D → List D → List D) (wa wk : WA) : WE := fun xq r om k => wa xq r om fun xs r1 om1 => wd (datsE xs) fun ds => wk xq r1 om1 fun zs r2 om2 => wd (datsE zs) fun es =>
  (ds.length = n ∧ es.length = m) ∧ ∀ a, om2 a = none → callK df (gD (.h a :: ds) es) (oset om2 a (.ins c [])) (fun x om' => x = .v .non ∧ k (.v (.h a)) r2 om') (fun ex om' => xq ex r2 om')
def lcGoH (a0 : Addr) (all : List D) (g : GT) (wt : WT) (we : WE) (vs : List Nat) : List D → List D → Env → Om → (List D → Env → Om → Prop) → Prop
  | [], acc, r, om, fin => om a0 = some (.lst all) ∧ fin acc r om
  | d :: ds, acc, r, om, fin => om a0 = some (.lst all) ∧ g (.v d) r fun r2 => wt X0 r2 om fun b r3 om3 =>
      if b = true then we X0 r3 om3 fun x r4 om4 => wd (datE x) fun y => acc.length < sizeLine ∧ lcGoH a0 all g wt we vs ds (acc ++ [y]) (wipeE r4 vs) om4 fin
      else lcGoH a0 all g wt we vs ds acc (wipeE r3 vs) om3 fin
def rdLcHh (o : Option Ob) (a : Addr) (f : Addr → List D → Prop) (_ : Tg f := .mk) : Prop := match o with
  | some (.lst ds) => f a ds
  | _ => False
def rdLcH (x : RV) (om : Om) (f : Addr → List D → Prop) (_ : Tg f := .mk) : Prop := match x with
  | .v (.h a) => rdLcHh (om a) a f
  | _ => False
def wLcH (wi : WE) (g : GT) (wt : WT) (we : WE) (vs : List Nat) : WE := fun xq r om k => wi xq r om fun x r1 om1 => rdLcH x om1 fun a ds => lcGoH a ds g wt we vs ds [] (wipeE r1 vs) om1 fun acc r2 om2 => k (.o acc) r2 om2
def loopH (a : Addr) (all : List D) (step : D → (Env → Om → Prop) → Env → Om → Prop) : List D → (Env → Om → Prop) → Env → Om → Prop
  | [], fin => fun r om => om a = some (.lst all) ∧ fin r om
  | d :: ds, fin => fun r om => om a = some (.lst all) ∧ step d (loopH a all step ds fin) r om
def wForH (wi : WE) (g : GT) (wb : WS) : WS := fun e r om => wi e.xq r om fun x r1 om1 => rdLcH x om1 fun a ds => loopH a ds (stepOf g wb e) ds e.nx r1 om1
def mutX (x : RV) (p : (List D → (List D → D → Prop) → Prop)) (r : Env) (om : Om) (k : RV → Env → Om → Prop) (_ : Tg (p, k) := .mk) : Prop := match x with
  | .b i => wMutE i p r om k
  | .v (.h a) => rdEh (om a) a p r om k
  | _ => False
def RcvOk (st : L2.St) (y : V) : RV → Prop
  | .b i => st[i]? = some (some y)
  | .v (.h a) => y = .ref a
  | _ => True
def wMutX0 (wo : WE) (p : MutP) : WE := fun xq r om k => wo xq r om fun x r1 om1 => mutX x (fun ds => p ds []) r1 om1 k
def wSt1 (we wo wi : WE) : WS := fun e r om => we e.xq r om fun x r1 om1 => wd (datE x) fun d => wo e.xq r1 om1 fun o r2 om2 => wi e.xq r2 om2 fun y r3 om3 => wd (datB r3 om3 y) fun j => wd (intD j) fun n => mutX o (setE n d) r3 om3 fun _ r4 om4 => e.nx r4 om4
def tup2 : RV → Option (D × D)
  | .v (.tup [a, b]) => some (a, b)
  | _ => none
def wSt2 (we wo1 w1 wo2 w2 : WE) : WS := fun e r om => we e.xq r om fun x r1 om1 => wd (tup2 x) fun p => wo1 e.xq r1 om1 fun o r2 om2 => w1 e.xq r2 om2 fun y r3 om3 => wd (datB r3 om3 y) fun j => wd (intD j) fun n => mutX o (setE n p.1) r3 om3 fun _ r4 om4 =>
  wo2 e.xq r4 om4 fun o r5 om5 => w2 e.xq r5 om5 fun y r6 om6 => wd (datB r6 om6 y) fun j => wd (intD j) fun n => mutX o (setE n p.2) r6 om6 fun _ r7 om7 => e.nx r7 om7
def tLenO (C : Addr) (sp : Sp) (E : L2.St → XK) (to : TE) : TE := fun σ H Q => tCons to tNil σ H fun vs H1 => ∃ a dx fs, vs = [.ref a] ∧ H1 a = some (.ins C dx fs) ∧ sp [.ref a] H1 (fun v H2 => ∃ n, v = .int n ∧ 0 ≤ n ∧ n < 2 ^ 62 ∧ Q (.int n) H2) (E σ)
def lenN (x : RV) (k : Int → Prop) (_ : Tg k := .mk) : Prop := match x with
  | .v (.int n) => (0 ≤ n ∧ n < 2 ^ 62) ∧ k n
  | _ => False
def wLenO (c : Str) (df : DF) (wo : WE) : WE := fun xq r om k => wo xq r om fun x r1 om1 => rdIn x om1 c fun a _ => callK df [.h a] om1 (fun x om' => lenN x fun n => k (.v (.int n)) r1 om') (fun ex om' => xq ex r1 om')
def dcGo (g : GT) (wt : WT) (wk wv : WE) (vs : List Nat) : List D → List (Int × D) → Env → Om → (List (Int × D) → Env → Om → Prop) → Prop
  | [], ps, r, om, fin => fin ps r om
  | d :: ds, ps, r, om, fin => g (.v d) r fun r2 => wt X0 r2 om fun b r3 om3 =>
      if b = true then wk X0 r3 om3 fun x r4 om4 => wd (datE x) fun kd => wd (intD kd) fun n => wv X0 r4 om4 fun y r5 om5 => wd (datE y) fun e => ps.length < sizeLine ∧ dcGo g wt wk wv vs ds (putP' ps n e) (wipeE r5 vs) om5 fin
      else dcGo g wt wk wv vs ds ps (wipeE r3 vs) om3 fin
def wDc (wi : WI) (g : GT) (wt : WT) (wk wv : WE) (vs : List Nat) : WE := fun xq r om k => wi xq r om fun items r1 om1 => dcGo g wt wk wv vs items [] (wipeE r1 vs) om1 fun ps r2 om2 => ∀ p, om2 p = none → k (.v (.h p)) r2 (oset om2 p (.dct ps))
structure DicF (K : PySem.W.Frag) (w : World) (x : Str) (tab : List (Str × Str)) : Prop where
  ok : ∀ z f, tab.lookup z = some f → KDct K w (He.ga K x) z (.ref (He.ga K f))
def tabFB (K : PySem.W.Frag) (x : Str) (tab : List (Str × Str)) : Bool := tab.all fun q => decide (nsIn K (He.ga K x) q.1 = some (some (.ref (He.ga K q.2))))
def wKFn (tab : List (Str × Str)) (we : WE) : WE := fun xq r om k => we xq r om fun x r1 om1 => wd (datB r1 om1 x) fun d => wd (strD d) fun z => wdK (tab.lookup z) fun f => k (.v (.fn f)) r1 om1
end
end DL

set_option Elab.async false
set_option linter.all false
set_option maxRecDepth 100000
set_option maxHeartbeats 4000000
namespace DL
open PySem PySem.Spec PyProof.Rows L2
theorem once_tup (l : Addr) (items : Array Value) (n : Nat) (dd : Option Addr) (sl : Array (Option Value)) (u : Tok) :
    Meets (Builtin.«tuple.__mul__» ⟨[.ref l, .int 1 u], []⟩) (fun _ R s => s.heap.get? l = some { cls := .type "tuple", dict := dd, data := .seq items n, slots := sl } ∧ R (.ok (.ret (Value.ref l))) s) :=
  .of_wp fun prog w A R s h => by
    obtain ⟨hp, g, d, tk, os⟩ := s
    obtain ⟨hl, h⟩ := h
    have f1 := AutoSeq1.idx_int
    wp_walk using wpAny_loadPart' hl
    exact ⟨_, rfl, h⟩
def rOnce (K : PySem.W.Frag) : R2 := fun x y H Q => ∃ l xs, x = .ref l ∧ y = .int 1 ∧ SqT K H l xs ∧ Q (.ref l) H
theorem op_once {X : Cx} : OpR X (binaryOp .Mult) (rOnce X.K) := by
  intro pins s σ H x y v u Q I rx ry h
  obtain ⟨l, xs, ex, ey, hT, q⟩ := h
  subst ex ey
  cases rx
  obtain ⟨t, e2⟩ := ry
  subst e2
  obtain ⟨its, r, ⟨ob, ho, hc, n, hd⟩, hs⟩ := I.tuple hT
  obtain ⟨cls, dd, data, sl⟩ := ob
  simp only at hc hd
  subst hc hd
  refine wpAny_binaryOp_repeat_ref (T := "tuple") (U := "int") (by decide) ⟨_, ho, rfl⟩ (fun s' => typeIs_int s' 1 t) noFill_tuple_mul F.fills_int_mul F.slot_int_rmul repeat_tuple F.slot_int_index.lookup ?_
  refine call_meets F.slot_int_rmul (typeIs_int s 1 t) F.entry_int_rmul (F.args_int_rmul_2 _ _) (int_rmul_tuple 1 t l its.toArray n dd sl) ⟨ho, rfl, ⟨_, ho, rfl⟩, ?_⟩
  exact call_meets F.slot_tuple_mul ⟨_, ho, rfl⟩ F.entry_tuple_mul (F.args_tuple_mul_2 _ _) (once_tup l its.toArray n dd sl t) ⟨ho, ⟨.ref l, _, I, rfl, q⟩⟩
def pMulT : P2 := fun d e c => match d, e with
  | .tup xs, .int k => xs ≠ [] ∧ 1 ≤ k ∧ k ≤ 1000 ∧ xs.length ≤ 1000 ∧ c (.v (.tup (List.replicate k.toNat xs).flatten))
  | _, _ => False
theorem pMulT_tup (xs : List D) (k : Int) (c : RV → Prop) : pMulT (.tup xs) (.int k) c = (xs ≠ [] ∧ 1 ≤ k ∧ k ≤ 1000 ∧ xs.length ≤ 1000 ∧ c (.v (.tup (List.replicate k.toNat xs).flatten))) := rfl
section
variable {X : Cx}
theorem o_mulT : O2 X (binaryOp .Mult) (fun x y H Q => rRepT X.K x y H Q ∨ rOnce X.K x y H Q) pMulT := ⟨OpR.or op_repT op_once, fun F H x y d e c Q s rx ry hp hQ => by
  cases d with
  | tup ds =>
    cases e with
    | int k =>
      obtain ⟨a, xs, rfl, h1, h2⟩ := rx.tupS s
      obtain ⟨q0, q1, q2, q3, hc⟩ := hp
      by_cases hk : k = 1
      · subst hk
        rw [show (List.replicate (1 : Int).toNat ds).flatten = ds by simp] at hc
        exact .inr ⟨a, xs, rfl, ry.intS, h1, vres s (rx.resolve_right fun ⟨_, _, _, _, z, _⟩ => nomatch z) hc hQ⟩
      · exact .inl ⟨a, k, xs, rfl, ry.intS, h1, fun z => (by subst z; cases h2; exact q0 rfl), by omega, q2, by rw [h2.length]; exact q3, tres s (h2.flat _) hc hQ⟩
    | _ => exact hp.elim
  | _ => exact hp.elim⟩
end
section
variable {X : Cx} {K : PySem.W.Frag} {B : Base} {F H : Hp} {om : Om} {st : L2.St} {r : Env} {W : WX} {pos : Pos}
def wDSd (i : Nat) (wk wx : WE) : WE := fun xq r om k => rdDct r[i]? om fun _ _ => wk xq r om fun y r1 om1 => wd (datB r1 om1 y) fun kd => wd (intD kd) fun n => wx xq r1 om1 fun x r2 om2 => wd (datE x) fun d => rdDct r2[i]? om2 fun a ps => ps.length ≤ 100000 ∧ cnd (hasP ps n) (wd (getP ps n) fun e => k (.v e) r2 om2) (k (.v d) r2 (oset om2 a (.dct (putP' ps n d))))
def wDGt (i : Nat) (wk wx : WE) : WE := fun xq r om k => rdDct r[i]? om fun _ _ => wk xq r om fun y r1 om1 => wd (datB r1 om1 y) fun kd => wd (intD kd) fun n => wx xq r1 om1 fun x r2 om2 => wd (datE x) fun d => rdDct r2[i]? om2 fun _ ps => cnd (hasP ps n) (wd (getP ps n) fun e => k (.v e) r2 om2) (k (.v d) r2 om2)
end
section
variable {K : PySem.W.Frag} {F F' H H' : Hp} {om om1 : Om}
def thawO (S : List Addr) (om : Om) : Ob → Ob
  | .dct ps => .dct (ps.map fun q => (q.1, thaw S om q.2))
  | o => o
def tout (S T : List Addr) (om : Om) : Om := fun b => if b ∈ S then none else if b ∈ T then (om b).map (thawO S om) else om b
def frzDC (c : Con) : Con := ⟨c.n, fun ds om k xk => c.df ds om (fun x om2 => ∀ S T om1 d, (∀ b ∈ S, om b = none) → om2 = tout S T om1 → x = .v (thaw S om1 d) → k (.v d) om1) xk, fun ds om k xk h => c.len ds om _ _ h, fun ds om k k' xk xk' hk hx h => c.mono _ _ _ _ _ _ (fun x om2 g S T om1 d h1 h2 h3 => hk _ _ (g S T om1 d h1 h2 h3)) (fun ex om1 g => hx _ _ g) h⟩
end
end DL

set_option Elab.async false
set_option linter.all false
set_option maxRecDepth 100000
namespace DL
open PySem L2 PySem.W
section
variable {X : Cx} {K : PySem.W.Frag} {B : Base} {F F' H H' : Hp} {om : Om} {st : L2.St} {r : Env} {W : WX} {pos : Pos}
def wVarH (i : Nat) : WE := fun _ r om k => match r[i]? with
  | some (some (.o ds)) => ∀ a, om a = none → k (.v (.h a)) (r.set i (some (.v (.h a)))) (oset om a (.lst ds))
  | _ => False
def rdVH (x : Option (Option RV)) (i : Nat) (r : Env) (om : Om) (k : RV → Env → Om → Prop) (_ : Tg k := .mk) : Prop := match x with
  | some (some (.o ds)) => ∀ a, om a = none → k (.v (.h a)) (r.set i (some (.v (.h a)))) (oset om a (.lst ds))
  | _ => False
def wCallKL (df : DF) (n m : Nat) (gD : List D → List D → List D) (wa wk : WA) : WE := fun xq r om k => wa xq r om fun xs r1 om1 => wk xq r1 om1 fun zs r2 om2 => wd (datsB r2 om2 xs) fun ds => wd (datsB r2 om2 zs) fun es =>
  (ds.length = n ∧ es.length = m) ∧ df (gD ds es) (fun _ => none) (fun x _ => lfR x ∧ k x r2 om2) (fun ex _ => lfX ex ∧ xq ex r2 om2)
def ddt (om : Om) : D → D
  | .tup ds => .tup (ds.map (deref om))
  | d => d
def wCallU (df : DF) (dds : List D) (wa : WA) : WE := fun xq r om k => wa xq r om fun xs r1 om1 => wd (datsB r1 om1 xs) fun ds => df (ds.map (ddt om1) ++ dds) (fun _ => none) (fun x _ => lfR x ∧ k x r1 om1) (fun ex _ => lfX ex ∧ xq ex r1 om1)
end
end DL

set_option Elab.async false
set_option linter.all false
set_option maxRecDepth 100000
namespace DL
open PySem L2 PySem.W
def etB (K : PySem.W.Frag) (a : Addr) : Bool := match K.lookup a with
  | some o => (match o.cls, o.data with
    | .type "tuple", .seq its _ => its.toList.isEmpty
    | _, _ => false)
  | none => false
section
open PyProof.Rows
variable {prog : Program} {w : World} {A : Around} {E : Value → Shared → Prop} {s : Shared}
end
def gStarN (K : PySem.W.Frag) (n : Nat) (t : TGs) : TG := fun v σ H Q => ∃ a ys xs, v = .ref a ∧ ys.length = n ∧ (SqL K H a (ys ++ xs) ∨ SqT K H a (ys ++ xs)) ∧ (ys ++ xs).length ≤ 16000 ∧ ∀ p, H p = none → t (ys ++ [.ref p]) σ (upd H p (.lst xs)) Q
section
open PyProof.Rows
variable {X : Cx} {K : PySem.W.Frag} {W : WX} {pos : Pos} {B : Base} {F F' H H' : Hp} {om : Om} {st : L2.St} {r : Env}
def seqX : RV → Option (List D)
  | .v (.lst ds) => some ds
  | .v (.frl ds) => some ds
  | .v (.tup ds) => some ds
  | _ => none
def putS : List Nat → Nat → List D → Env → (Env → Prop) → Prop
  | [], j, ds, r, k => j < r.length ∧ k (r.set j (some (.o ds)))
  | i :: is, j, d :: ds, r, k => i < r.length ∧ putS is j ds (r.set i (some (.v d))) k
  | _ :: _, _, [], _, _ => False
def wStarN (we : WE) (is : List Nat) (j : Nat) : WS := fun e r om => we e.xq r om fun x r1 om1 => wd (seqX (fz x)) fun ds => ds.length ≤ 16000 ∧ putS is j ds r1 fun r2 => e.nx r2 om1
def gNames : List Nat → TGs → TGs
  | [], t => t
  | i :: is, t => gCons (gName i) (gNames is t)
end
end DL

set_option Elab.async false
set_option linter.all false
set_option maxRecDepth 100000
namespace DL
open PySem L2 PySem.W
section
variable {K : PySem.W.Frag} {B : Base} {F F' : Hp} {om : Om} {H H' : Hp} {st : St} {r : DL.Env} {W : WX} {X : Cx} {pos : Pos}
def idxD (e : D) : List D → Option Nat
  | [] => none
  | d :: ds => if eqD d e = true then some 0 else (idxD e ds).map (· + 1)
theorem idxD_spec (e : D) : ∀ {ds : List D} {j : Nat}, idxD e ds = some j → ∃ z, (pys ds)[j]? = some z ∧ PyData.eqv z (py e) = true ∧ ∀ (m : Nat) (z' : PyData), m < j → (pys ds)[m]? = some z' → PyData.eqv z' (py e) = false
  | [], j, h => by cases h
  | d :: ds, j, h => by
    unfold idxD at h
    by_cases q : eqD d e = true
    · rw [if_pos q] at h
      cases h
      exact ⟨py d, rfl, q, fun m z' hm => absurd hm (by omega)⟩
    · rw [if_neg q] at h
      obtain ⟨i, hi, rfl⟩ := Option.map_eq_some_iff.mp h
      obtain ⟨z, h1, h2, h3⟩ := idxD_spec e hi
      refine ⟨z, h1, h2, fun m z' hm hz => ?_⟩
      cases m with
      | zero =>
        have e1 : py d = z' := Option.some.inj hz
        rw [← e1]
        have : eqD d e = false := by simpa using q
        exact this
      | succ m => exact h3 m z' (by omega) hz
def wIndex (wo wa : WE) : WE := fun xq r om k => wo xq r om fun x r1 om1 => wd (datB r1 om1 x) fun d0 => wd (lstO d0) fun _ => wa xq r1 om1 fun y r2 om2 => wd (datB r2 om2 x) fun d => wd (datB r2 om2 y) fun e => wd (lstO d) fun ds =>
  okE e ∧ okE (.lst ds) ∧ wd (idxD e ds) fun j => k (.v (.int (j : Int))) r2 om2
end
end DL

set_option Elab.async false
set_option linter.all false
set_option maxRecDepth 100000
set_option maxHeartbeats 2000000
namespace DL
open PySem PySem.Spec PyProof.Rows L2 PpSet
def tNums (w : World) (wi : TI) (g : TG) (te : TE) (vs : List Nat) : TE := fun σ H Q => wi σ H fun J H1 => ∀ D, H1 D = none → ∃ St : Nat → Nat → Hp → Prop, (∃ m, St 0 m (upd H1 D (SetO w D (fun _ => false) 0))) ∧
  ∀ i m H, St i m H → (J.stop i H ∧ Q (.ref D) H) ∨ (J.go i H ∧ ∃ After : Hp → Prop, (∀ H', After H' → ∃ m', m' < m ∧ St (i + 1) m' H') ∧ ∀ x H', J.yld i H x H' → g x (wipe σ vs) H' fun τ H2 => wipe τ vs = wipe σ vs ∧
    te τ H2 fun y H4 => ∃ (c : Int) (S : Int → Bool) (n : Nat), y = .int c ∧ H4 D = some (SetO w D S n) ∧ n + 1 < scanBound ∧ After (upd H4 D (SetO w D (fun j => S j || decide (j = c)) (if S c = true then n else n + 1))))
end DL
namespace DL
open PySem PySem.Spec PyProof.Rows L2 PpSet
section
variable {K : PySem.W.Frag} {B : Base} {F F' : Hp} {om : Om} {H H' : Hp} {st : L2.St} {r : DL.Env} {W : WX} {X : Cx} {pos : Pos}
def scGo (g : GT) (we : WE) (vs : List Nat) : List D → List Int → DL.Env → Om → (List Int → DL.Env → Om → Prop) → Prop
  | [], acc, r, om, fin => fin acc r om
  | d :: ds, acc, r, om, fin => g (.v d) r fun r2 => we X0 r2 om fun x r4 om4 => wd (datB r4 om4 x) fun y => wd (intD y) fun c => acc.length < 4000 ∧ scGo g we vs ds (if c ∈ acc then acc else acc ++ [c]) (wipeE r4 vs) om4 fin
def wLenSc (wi : WI) (g : GT) (we : WE) (vs : List Nat) : WE := fun xq r om k => wi xq r om fun items r1 om1 => scGo g we vs items [] (wipeE r1 vs) om1 fun acc r2 om2 => k (.v (.int (acc.length : Nat))) r2 om2
def tLenSc (w : World) (wi : TI) (g : TG) (te : TE) (vs : List Nat) : TE := tCB (fun xs H Q => ∃ (a : Addr) (S : Int → Bool) (n : Nat), xs = [.ref a] ∧ H a = some (SetO w a S n) ∧ Q (.int (n : Nat)) H) (tCons (tNums w wi g te vs) tNil)
def scK (g : GT) (we : WE) (vs : List Nat) (l : List D) (acc : List Int) (r : DL.Env) (om : Om) (fin : List Int → DL.Env → Om → Prop) (_ : Tg (g, we, fin) := .mk) : Prop := scGo g we vs l acc r om fin
theorem scK_nil {g : GT} {we : WE} {vs : List Nat} {acc : List Int} {r : DL.Env} {om : Om} {fin : List Int → DL.Env → Om → Prop} {t : Tg (g, we, fin)} : scK g we vs [] acc r om fin t = fin acc r om := rfl
theorem scK_cons {g : GT} {we : WE} {vs : List Nat} {d : D} {ds : List D} {acc : List Int} {r : DL.Env} {om : Om} {fin : List Int → DL.Env → Om → Prop} {t : Tg (g, we, fin)} : scK g we vs (d :: ds) acc r om fin t = g (.v d) r fun r2 => we X0 r2 om fun x r4 om4 => wd (datB r4 om4 x) fun y => wd (intD y) fun c => acc.length < 4000 ∧ scK g we vs ds (if c ∈ acc then acc else acc ++ [c]) (wipeE r4 vs) om4 fin := rfl
end
def pEqX : P2 := fun d e c => match d, e with
  | .dct [] [], .dct [] [] => c (.v (.bl true))
  | d, e => pEq d e c
abbrev rEqX (K : PySem.W.Frag) : R2 := fun x y H Q => rEqA K x y H Q ∨ rEqDA x y H Q
section
variable {X : Cx}
end
@[simp] theorem pEqX_int (i j : Int) (c : RV → Prop) : pEqX (.int i) (.int j) c = c (.v (.bl (decide (i = j)))) := rfl
@[simp] theorem pEqX_str (i j : Str) (c : RV → Prop) : pEqX (.str i) (.str j) c = c (.v (.bl (decide (i = j)))) := rfl
@[simp] theorem pEqX_bl (i j : Bool) (c : RV → Prop) : pEqX (.bl i) (.bl j) c = pEq (.bl i) (.bl j) c := rfl
@[simp] theorem pEqX_dct (c : RV → Prop) : pEqX (.dct [] []) (.dct [] []) c = c (.v (.bl true)) := rfl
end DL

set_option Elab.async false
set_option linter.all false
set_option maxRecDepth 100000
namespace DL
open PySem L2 PyProof PyProof.Rows
section
variable {X : Cx} {K : PySem.W.Frag} {W : WX} {pos : Pos}
def tChain3 (r r' r'' : R2) (ta tb tc td : TE) : TE := fun σ H Q => ta σ H fun x H1 => tb σ H1 fun y H2 => r x y H2 fun z H3 => ∃ k, z = .bl k ∧
  (if k = true then tc σ H3 fun w' H4 => r' y w' H4 fun z' H5 => ∃ k', z' = .bl k' ∧ (if k' = true then td σ H5 fun v' H6 => r'' w' v' H6 Q else Q (.bl false) H5) else Q (.bl false) H3)
def wChain3 (p p' p'' : P2) (wa wb wc we : WE) : WE := fun xq r om k => wa xq r om fun x r1 om1 => wb xq r1 om1 fun y r2 om2 => wd (datB r2 om2 x) fun d => wd (datB r2 om2 y) fun e =>
  p d e fun z => wd (datB r2 om2 z) fun f => wd (boolD f) fun b => if b = true then wc xq r2 om2 fun u r3 om3 => wd (datB r3 om3 y) fun e' => wd (datB r3 om3 u) fun g => p' e' g fun z => wd (datB r3 om3 z) fun f => wd (boolD f) fun b =>
    (if b = true then we xq r3 om3 fun v r4 om4 => wd (datB r4 om4 u) fun e' => wd (datB r4 om4 v) fun g => p'' e' g fun z => k z r4 om4 else k (.v (.bl false)) r3 om3) else k (.v (.bl false)) r2 om2
variable {xq : DX} {r : DL.Env} {om : Om} {k : RV → DL.Env → Om → Prop}
end
end DL

set_option Elab.async false
set_option linter.all false
set_option maxRecDepth 100000
namespace DL
open PySem L2 PyProof PyProof.Rows
section
variable {X : Cx} {CX : CXT} {k n : Nat} {fd : FuncData} {ps ks : List Str} {sp : Sp} {E : L2.St → XK} {x y : Str} {p pos : Pos} {e : Expr} {es : List Expr} {kws : List Keyword} {t tk : TA} {g : List Value → List Value → List Value} {gV : List V → List V → List V}
def tCallTK (K : PySem.W.Frag) (i : Nat) (y : Str) (n m : Nat) (sp : Sp) (gV : List V → List V → List V) (E : L2.St → XK) (t tk : TA) : TE := fun σ H Q => σ[i]? = some (some (.ref (He.ga K y))) ∧ tCallKw n m sp gV E t tk σ H Q
end
section
variable {X : Cx} {K : PySem.W.Frag} {W : WX} {pos : Pos}
abbrev FTabK := List (Str × Con × (List D → List D → List D) × (List V → List V → List V))
def wCallTK (l : FTabK) (i n m : Nat) (wa wk : WA) : WE := fun xq r om k => match r[i]? with
  | some (some (.v (.fn x))) => wd (l.lookup x) fun c => wa xq r om fun xs r1 om1 => wd (datsE xs) fun ds => wk xq r1 om1 fun zs r2 om2 => wd (datsE zs) fun es =>
      (ds.length = n ∧ es.length = m) ∧ c.1.df (c.2.1 ds es) om2 (fun x om' => k x r2 om') (fun ex om' => xq ex r2 om')
  | _ => False
def DefTK (P : Program) (w : World) (K : PySem.W.Frag) (mg : Str → Option Value) (base : Heap) (k n : Nat) (ks : List Str) (l : FTabK) : Prop :=
  ∀ p ∈ l, DefK P w K mg base p.1 p.2.1 k n ks p.2.2.2 ∧ mg p.1 = some (.ref (He.ga K p.1)) ∧ GRep K p.2.2.2 p.2.2.1
def rdTK (o : Option (Option RV)) (l : FTabK) (n m : Nat) (wa wk : WA) (xq : DX) (r : DL.Env) (om : Om) (k : RV → DL.Env → Om → Prop) (_ : Tg (wa, wk, xq, k) := .mk) : Prop := match o with
  | some (some (.v (.fn x))) => wd (l.lookup x) fun c => wa xq r om fun xs r1 om1 => wd (datsE xs) fun ds => wk xq r1 om1 fun zs r2 om2 => wd (datsE zs) fun es =>
      (ds.length = n ∧ es.length = m) ∧ c.1.df (c.2.1 ds es) om2 (fun x om' => k x r2 om') (fun ex om' => xq ex r2 om')
  | _ => False
end
end DL

set_option Elab.async false
set_option linter.all false
set_option maxRecDepth 100000
namespace DL
open PySem PySem.Spec PyProof PyProof.Rows L2
section
variable {prog : Program} {w : World} {A : Around} {s : Shared} {R : Result → Shared → Prop}
end
section
variable {X : Cx}
end
section
variable {X : Cx} {W : WX} {pos : Pos}
end
end DL

set_option Elab.async false
set_option linter.all false
set_option maxRecDepth 100000
namespace DL
open PySem PySem.Spec PyProof PyProof.Rows L2
section
variable {X : Cx} {K : PySem.W.Frag} {F H : Hp} {W : WX} {pos : Pos}
def wMkX0 (x : Str) : WE := fun _ r om k => k (.v (.exc x [] [])) r om
def wMkXF (x : Str) (fs : List Str) (wa : WA) : WE := fun xq r om k => wa xq r om fun xs r1 om1 => wd (datsE xs) fun ds => (ds.length = fs.length ∧ ds.length ≤ 1000) ∧ k (.v (.exc x fs.reverse ds.reverse)) r1 om1
end
end DL

set_option Elab.async false
set_option linter.all false
set_option maxRecDepth 100000
namespace DL
open PySem L2 PyProof.Rows PySem.Spec
section
variable {X : Cx}
abbrev Cl := Value × Nat × TS
inductive HsOk (X : Cx) : List ExceptHandler → List Cl → Prop
  | nil : HsOk X [] []
  | cons {hs : List ExceptHandler} {cl : List Cl} {x n : Str} {c : Value} {i : Nat} {b₀ : Stmt} {suite : List Stmt} {ts : TS} {np pos' : Pos} (hi : X.N[i]? = some n) (hln : X.env.kindOf n = some .local) (hc : Names X x c)
      (hsu : ∀ (a : Addr) (pn : List (Addr × Obj)), PSs (X.suite a pn) (b₀ :: suite) ts) (r : HsOk X hs cl) : HsOk X (.ExceptHandler (some (.Name x np)) (some n) (b₀ :: suite) pos' :: hs) ((c, i, ts) :: cl)
def wAsTL (K : PySem.W.Frag) : List Cl → WX → Ends → WX
  | [], W, _ => W
  | (c, i, ts) :: r, W, D => wAsT K c i ts (wAsTL K r W D) D
end
section
variable {X : Cx} {K : PySem.W.Frag} {W : WX} {pos : Pos}
abbrev DCl := Nat × (Str → Option Bool) × WS
def xTryL : List DCl → DEnds → DX
  | [], e => e.xq
  | (i, sub, ws) :: r, e => xTry i sub ws { e with xq := xTryL r e }
def wTryAsL (l : List DCl) (wb : WS) : WS := fun e r om => wb { nx := e.nx, rt := e.rt, bk := e.bk, ct := e.ct, xq := xTryL l e } r om
inductive ClOk (X : Cx) : List ExceptHandler → List Cl → List DCl → Prop
  | nil : ClOk X [] [] []
  | cons {hs : List ExceptHandler} {cl : List Cl} {dl : List DCl} {x n : Str} {hv : Value} {i : Nat} {sub : Str → Option Bool} {b₀ : Stmt} {suite : List Stmt} {ts : TS} {ws : WS} {np pos' : Pos} (hi : X.N[i]? = some n) (hln : X.env.kindOf n = some .local) (hc : Names X x hv)
      (hsub : ∀ c b, sub c = some b → PySem.W.exmOne X.K (.ref (He.ga X.K c)) hv = some b) (hsu : ∀ (a : Addr) (pn : List (Addr × Obj)), DSs (X.suite a pn) W0 (b₀ :: suite) ts ws) (r : ClOk X hs cl dl) :
      ClOk X (.ExceptHandler (some (.Name x np)) (some n) (b₀ :: suite) pos' :: hs) ((hv, i, ts) :: cl) ((i, sub, ws) :: dl)
theorem ClOk.hs {hs : List ExceptHandler} {cl : List Cl} {dl : List DCl} (h : ClOk X hs cl dl) : HsOk X hs cl := by
  induction h with
  | nil => exact .nil
  | cons hi hln hc hsub hsu r ih => exact .cons hi hln hc (fun a pn => (hsu a pn).p) ih
end
end DL

set_option Elab.async false
set_option linter.all false
set_option maxRecDepth 100000
namespace DL
open PySem L2 PySem.W PyProof.Rows PySem.Spec
section
variable {X : Cx}
def rItemsK : V → List V → Hp → VK → Prop := fun x xs H Q => ∃ (a : Addr) (kvs : List (Key × V)), x = .ref a ∧ xs = [] ∧ H a = some (.dK kvs) ∧ ∀ p, H p = none → Q (.ref p) (upd H p (DX.itemsO p a))
def itD (b : Int × V × PyData) : PyData := .tuple [.int b.1, b.2.2]
def rSortItK (K : PySem.W.Frag) : List V → Hp → VK → Prop := fun vs H Q => ∃ (p a : Addr) (bs : List (Int × V × PyData)), vs = [.ref p] ∧ H p = some (DX.itemsO p a) ∧ H a = some (.dK (bs.map fun b => ((.inl b.1 : Key), b.2.1))) ∧
  (∀ b ∈ bs, Dp K H b.2.1 b.2.2) ∧ AllAlike (bs.map itD) ∧ (∀ b ∈ bs, (itD b).depth ≤ 40) ∧
  ∀ (H' : Hp) (l : Addr) (ms : List (Addr × Int × V × PyData)), (∀ b o, H b = some o → H' b = some o) → ms.map (·.2) = bs.mergeSort (dataLe false itD) → H l = none → H' l = some (.lst (ms.map fun c => V.ref c.1)) →
    (∀ c ∈ ms, H c.1 = none ∧ H' c.1 = some (.tup [.int c.2.1, c.2.2.1])) → Q (.ref l) H'
end

section
variable {X : Cx} {K : PySem.W.Frag} {B : Base} {F F' H H' : Hp} {om : Om} {st : L2.St} {r : Env} {W : WX} {pos : Pos}
def itemD (q : Int × D) : D := .tup [.int q.1, q.2]
def rdSI (x : RV) (om : Om) (c : RV → Prop) (_ : Tg c := .mk) : Prop := match x with
  | .v (.h a) => rdDh (om a) a fun _ ps => okSort (ps.map itemD) ∧ c (.o (sortD (ps.map itemD)))
  | _ => False
def wSortIt (we : WE) : WE := fun xq r om k => we xq r om fun x r1 om1 => rdSI x om1 fun z => k z r1 om1
end
end DL

set_option Elab.async false
set_option linter.all false
set_option maxRecDepth 100000
namespace DL
section
open PySem PySem.MeetsSeq PyProof.Rows PySem.SeqAt
theorem remA_loop (l : Addr) (items : Array Value) (n : Nat) (dd : Option Addr) (sl : Array (Option Value)) (x : Value) (e : Value → Bool) (j : Nat) (hj : j < items.size) (hit : e items[j] = true) (k : Nat) (hs1 : items.size ≤ sizeLine) :
    ∀ i : Nat, j - i = k → i ≤ j → (∀ m (hm : m < items.size), i ≤ m → m < j → e items[m] = false) → Meets (Builtin.«list.remove.loop» ⟨[.ref l, x, rawInt i], []⟩)
      (fun A R s => s.heap.get? l = some { cls := .type "list", dict := dd, data := .seq items n, slots := sl } ∧ (∀ y, y ∈ items → EqAt A.in1 s y x (e y)) ∧ R (.ok (.ret .none)) { s with heap := s.heap.update l (Obj.mapSeq fun xs => xs.eraseIdxIfInBounds j) }) := by
  induction k with
  | zero =>
    intro i hk hij hno prog w A R s h
    obtain ⟨hp, g, d, tk, os⟩ := s; obtain ⟨hl, he, h⟩ := h
    have hij' : i = j := by omega
    subst hij'
    wp_walk using wpAny_loadPart' hl
    have hi : items[((i : Nat) : Int).toNat]? = some items[i] := by simp [hj]
    rw [hi]
    refine wpAny_bind (he _ (Array.getElem_mem hj) prog w _ _ ?_)
    rw [hit]
    have hz' : (items.eraseIdxIfInBounds i).size ≤ sizeLine + 1 := Nat.le_trans (size_erased items _) (Nat.le_succ_of_le hs1)
    wp_walk using (wpAny_updateSeq hl rfl (hz := hs1) (_hz' := hz')), wpAny_loadPart' hl
    simpa using h
  | succ k ih =>
    intro i hk hij hno prog w A R s h
    obtain ⟨hp, g, d, tk, os⟩ := s; obtain ⟨hl, he, h⟩ := h
    have hlt : i < items.size := by omega
    wp_walk using wpAny_loadPart' hl
    have hi : items[((i : Nat) : Int).toNat]? = some items[i] := by simp [hlt]
    have hc : ((i : Int) + 1) = ((i + 1 : Nat) : Int) := by push_cast; rfl
    rw [hi]
    refine wpAny_bind (he _ (Array.getElem_mem hlt) prog w _ _ ?_)
    rw [hno i hlt (Nat.le_refl _) (by omega)]
    wp_walk
    rw [hc]
    exact ⟨plainId_quiet plain_remove_loop _, codeAny_builtin entry_remove_loop (by
      rw [Around.under_plainId plain_remove_loop _]
      exact ih (i + 1) (by omega) (by omega) (fun m hm h1 h2 => hno m hm (by omega) h2) prog w A R _ ⟨hl, he, h⟩)⟩
theorem remA_at (l : Addr) (items : Array Value) (n : Nat) (dd : Option Addr) (sl : Array (Option Value)) (x : Value) (e : Value → Bool) (j : Nat) (hj : j < items.size)
    (hit : e items[j] = true) (hno : ∀ m (hm : m < items.size), m < j → e items[m] = false) (hs1 : items.size ≤ sizeLine) :
    Meets (Builtin.«list.remove» ⟨[.ref l, x], []⟩)
      (fun A R s => s.heap.get? l = some { cls := .type "list", dict := dd, data := .seq items n, slots := sl } ∧ (∀ y, y ∈ items → EqAt A.in1 s y x (e y)) ∧ R (.ok (.ret .none)) { s with heap := s.heap.update l (Obj.mapSeq fun xs => xs.eraseIdxIfInBounds j) }) := by
  intro prog w A R s h
  obtain ⟨hp, g, d, tk, os⟩ := s; obtain ⟨hl, he, h⟩ := h
  wp_walk using wpAny_loadPart' hl
  exact ⟨plainId_quiet plain_remove_loop _, codeAny_builtin entry_remove_loop (by
    rw [Around.under_plainId plain_remove_loop _]
    exact remA_loop l items n dd sl x e j hj hit _ hs1 0 rfl (Nat.zero_le _) (fun m hm _ h2 => hno m hm h2) prog w A R _ ⟨hl, he, h⟩)⟩
end
end DL
namespace DL
open PySem L2 PySem.W PyProof.Rows PySem.Spec
section
variable {X : Cx}
def rRemD (K : PySem.W.Frag) : V → List V → Hp → VK → Prop := fun x xs H Q => ∃ (a : Addr) (y : V) (d : PyData) (vs : List V) (ds : List PyData) (j : Nat) (z : PyData), x = V.ref a ∧ xs = [y] ∧ H a = some (.lst vs) ∧ DpAll K H vs ds ∧ Dp K H y d ∧
  SeqAt.shaped (.list ds) = true ∧ SeqAt.shaped d = true ∧ ds[j]? = some z ∧ PyData.eqv z d = true ∧ (∀ (m : Nat) (z' : PyData), m < j → ds[m]? = some z' → PyData.eqv z' d = false) ∧ Q .non (upd H a (.lst (vs.eraseIdx j)))
theorem mt_removeD (hu : X.A.units + 65 < cLine) : MtM X "list.remove" (rRemD X.K) := by
  intro pins s σ H x xs v us Q I rx rxs h
  obtain ⟨a, y, d, vs, ds, j, z, rfl, rfl, hH, ha, hy, sl, sd, hz, hzj, hno, q⟩ := h
  cases rx
  cases rxs with
  | cons ry rt =>
    rename_i uy ut
    cases rt
    obtain ⟨bs, r1⟩ := Dp.reads I d y uy hy ry
    have hxs : PyData.canLayAll0 ds = true := SeqAt.canLay_of_shaped sl
    have hroom : X.A.units + 1 + min (PyData.depthAll ds) d.depth < cLine := room_in_shaped sd hu
    obtain ⟨zl, its, n, rv, hl, ho⟩ := I.lstM hH
    obtain ⟨as, h4⟩ := Dp.readsAll I ds _ its ha rv
    have hn : its.length = ds.length := SeqAt.ReadsAll.length ds its as h4
    have hmap : its.map (SeqAt.readOf s.heap) = ds := SeqAt.readsAll_map ds its as hxs h4
    have hvl := rv.length
    obtain ⟨hjd, _⟩ := List.getElem?_eq_some_iff.mp hz
    have hjl : j < its.length := by omega
    have hj : j < its.toArray.size := by simpa using hjl
    have at_ : ∀ (m : Nat) (hm : m < its.toArray.size) (z' : PyData), ds[m]? = some z' → SeqAt.readOf s.heap its.toArray[m] = z' := by
      intro m hm z' hz'
      have hml : m < its.length := by simpa using hm
      rw [← hmap, List.getElem?_map, List.getElem?_eq_getElem hml] at hz'
      have e1 : SeqAt.readOf s.heap its[m] = z' := Option.some.inj (show some (SeqAt.readOf s.heap its[m]) = some z' from hz')
      simpa using e1
    refine call_meets PySem.F.slot_list_remove ⟨_, ho, rfl⟩ PySem.F.entry_list_remove (PySem.F.args_list_remove_2 _ _)
      (remA_at a its.toArray n none #[] uy (fun u => PyData.eqv (SeqAt.readOf s.heap u) d) j hj ?_ ?_ (by rw [List.size_toArray]; omega)) ⟨ho, SeqAt.items_eqAt (vs := its.toArray) (show ReadsAll s.heap its.toArray.toList ds as from h4) r1 hxs (SeqAt.canLay_of_shaped sd) hroom, ?_⟩
    · show PyData.eqv (SeqAt.readOf s.heap its.toArray[j]) d = true
      rw [at_ j hj z hz]
      exact hzj
    · intro m hm hmj
      have hmd : m < ds.length := by
        have : m < its.length := by simpa using hm
        omega
      have hz' : ds[m]? = some ds[m] := List.getElem?_eq_getElem hmd
      show PyData.eqv (SeqAt.readOf s.heap its.toArray[m]) d = false
      rw [at_ m hm _ hz']
      exact hno m _ hmj hz'
    · have rr := rv.eraseIdx j
      refine ⟨.non, _, I.lset (its' := its.eraseIdx j) (t' := s.toks) hH ho ?_ rr ?_, rfl, q⟩
      · show its.toArray.eraseIdxIfInBounds j = (its.eraseIdx j).toArray
        rw [List.eraseIdxIfInBounds_toArray]
      · have := List.length_eraseIdx_le vs j
        omega
end

section
variable {X : Cx} {K : PySem.W.Frag} {W : WX} {pos : Pos}
def mRemD : MutP := fun ds args c => match args with
  | [e] => okE e ∧ okE (.lst ds) ∧ wd (idxD e ds) fun j => c (ds.eraseIdx j) .non
  | _ => False
theorem mRemD_at (ds : List D) (e : D) (c : List D → D → Prop) : mRemD ds [e] c = (okE e ∧ okE (.lst ds) ∧ wd (idxD e ds) fun j => c (ds.eraseIdx j) .non) := rfl
theorem repA_erase {F : Hp} : ∀ {xs : List V} {ds : List D} (j : Nat), RepA K F xs ds → RepA K F (xs.eraseIdx j) (ds.eraseIdx j)
  | _, _, _, .nil => .nil
  | _, _, 0, .cons h t => t
  | _, _, j + 1, .cons h t => .cons h (repA_erase j t)
theorem sm_removeD : SM K (rRemD K) mRemD := by
  intro F H a xs ds ys args c Q s hH h1 h2 hp hQ
  unfold mRemD at hp
  split at hp
  · next e =>
    obtain ⟨ho, hl, hp⟩ := hp
    obtain ⟨j, ej, hp⟩ := wd_iff hp
    obtain ⟨z, g1, g2, g3⟩ := idxD_spec e ej
    cases h2 with
    | cons r t =>
      cases t
      refine ⟨a, _, py e, xs, pys ds, j, z, rfl, rfl, hH, RepA.dp s h1 (by simpa [okPy] using hl.1), r.dp s ho.1, by simpa [py] using hl.2, ho.2, g1, g2, g3, ?_⟩
      exact hQ _ _ _ _ (repA_erase j h1) Rep.non hp
  · exact hp.elim
theorem de_remD {kk : Nat} (i : Nat) {x : Str} {e : Expr} {p1 p2 cpos : Pos} {te : TE} {we : WE} (hr : GRoom kk X.A) (he : DE X W e te we) (hN : X.N[i]? = some x := by rfl) (hv : Vis X.env.scope x := by first | exact Or.inl rfl | exact Or.inr (Or.inl rfl) | exact Or.inr (Or.inr rfl)) (hd : (x == ("__debug__" : Str)) = false := by decide)
    (hcd : (x == ("__classdict__" : Str)) = false := by decide) (hbase : attributeBase (.Name x p1) "remove" X.env (eval (.Name x p1) X.env) = eval (.Name x p1) X.env := by rfl)
    (hfew : ((backTo cpos (starEach [e] X.env)).all (fun x => !x.1) && (backToKw cpos (keywordEach [] X.env)).all (fun x => x.1.isSome) && decide (([e] : List Expr).length + ([] : List Keyword).length + (if ([] : List Keyword).isEmpty then 0 else 1) < 30)) = true := by rfl)
    (hline : (p2.endLine == cpos.line) = true := by rfl) (hs : starEach [e] X.env = (false, eval e X.env) :: starEach [] X.env := by rfl) (hplain : (backTo cpos (starEach [] X.env)).any (·.1) = false := by rfl) {K' : PySem.W.Frag} (hK : X.K = K' := by rfl) :
    DE X W (.Call (.Attribute (.Name x p1) "remove" p2) [e] [] cpos) (tBM K' "list" (rRemD K') (tVar i) (tCons te tNil)) (wMut i mRemD (wCons we wNil)) := by
  subst hK
  exact ⟨pe_bm PySem.F.plainAttrs_list PySem.F.slot_list_remove PySem.F.type_list_remove (mt_removeD (by have := hr.un; omega)) (pe_var hN hv hd hcd) (pa_cons he.p pa_nil hs) hbase hfew hline hs hplain, se_mut (sa_cons he.s sa_nil) sm_removeD⟩
end
end DL

set_option Elab.async false
set_option linter.all false
set_option maxRecDepth 100000
set_option maxHeartbeats 1000000
namespace DL
open PySem L2 PySem.W
section
variable {X : Cx} {K : PySem.W.Frag} {B : Base} {F H : Hp} {om : Om} {st : St} {r : Env} {W : WX} {pos : Pos}
def getR (ps : List (List Int × D)) (n : List Int) : Option D := (ps.find? fun q => decide (q.1 = n)).map (·.2)
def hasR (ps : List (List Int × D)) (n : List Int) : Bool := ps.any fun q => decide (q.1 = n)
def putR (ps : List (List Int × D)) (n : List Int) (d : D) : List (List Int × D) := if hasR ps n = true then ps.map (fun q => if q.1 = n then (q.1, d) else q) else ps ++ [(n, d)]
def rowK (q : List Int) : List Key := q.map Sum.inl
def rdRh (o : Option Ob) (a : Addr) (f : Addr → List (List Int × D) → Prop) : Prop := match o with
  | some (.dctR ps) => f a ps
  | _ => False
def rdRow (o : Option (Option RV)) (om : Om) (f : Addr → List (List Int × D) → Prop) : Prop := match o with
  | some (some (.v (.h a))) => rdRh (om a) a f
  | _ => False
def rowI : D → Option (List Int)
  | .tup (.int i :: ds) => (nums ds).map (i :: ·)
  | _ => none
def rwK (d : D) (c : List Int → Prop) (_ : Tg c := .mk) : Prop := match rowI d with
  | some q => c q
  | none => False
theorem rowI_ints {q : List Int} (h : q ≠ []) : rowI (.tup (q.map D.int)) = some q := by
  cases q with
  | nil => exact absurd rfl h
  | cons i l => simp only [List.map_cons, rowI, nums_map, Option.map_some]
def wRNew (i : Nat) : WS := fun e r om => i < r.length ∧ ∀ a, om a = none → e.nx (r.set i (some (.v (.h a)))) (oset om a (.dctR []))
def wRGet2 (i : Nat) (we : WE) (o : D) : WE := fun xq r om k => rdRow r[i]? om fun _ _ => we xq r om fun x r1 om1 => wd (datB r1 om1 x) fun d => rwK d fun q => rdRow r1[i]? om1 fun _ ps => k (.v ((getR ps q).getD o)) r1 om1
def wRPut (i : Nat) (wk wv : WE) : WS := fun e r om => wv e.xq r om fun x r1 om1 => wd (datE x) fun d => rdRow r1[i]? om1 fun _ _ => wk e.xq r1 om1 fun y r2 om2 => wd (datB r2 om2 y) fun kd => rwK kd fun q => rdRow r2[i]? om2 fun a ps => ps.length ≤ 100000 ∧ e.nx r2 (oset om2 a (.dctR (putR ps q d)))
def wRSub (i : Nat) (wk wv : WE) : WS := fun e r om => rdRow r[i]? om fun _ _ => wk e.xq r om fun y r1 om1 => wd (datB r1 om1 y) fun kd => rwK kd fun q => rdRow r1[i]? om1 fun _ ps0 => wd (getR ps0 q) fun d0 => wd (intD d0) fun m =>
  wv e.xq r1 om1 fun z r2 om2 => wd (datB r2 om2 z) fun dv => wd (intD dv) fun n => rdRow r2[i]? om2 fun a ps => ps.length ≤ 100000 ∧ e.nx r2 (oset om2 a (.dctR (putR ps q (.int (m - n)))))
theorem rdRh_of {om : Om} {a : Addr} {ps : List (List Int × D)} {f : Addr → List (List Int × D) → Prop} (h : om a = some (.dctR ps)) (hf : f a ps) : rdRh (om a) a f := by rw [h]; exact hf
theorem rwK_ints {q : List Int} {c : List Int → Prop} {t : Tg c} (h : q ≠ []) (hc : c q) : rwK (.tup (q.map D.int)) c t := by
  unfold rwK
  rw [rowI_ints h]; exact hc
theorem rwK_row {q : List Int} {c : List Int → Prop} {t : Tg c} (h : q ≠ []) (hc : c q) : rwK (rowD q) c t := rwK_ints h hc
def gsSub (g : GT) (w : GTs) : GTs := fun ds r k => match ds with
  | [] => False
  | d :: ds => g (.v d) r fun r2 => w ds r2 k
def ddv (om : Om) : D → D
  | .lst ds => .lst (ds.map (ddt om))
  | .tup ds => .tup (ds.map (deref om))
  | d => d
def wCallV (df : DF) (dds : List D) (wa : WA) : WE := fun xq r om k => wa xq r om fun xs r1 om1 => wd (datsB r1 om1 xs) fun ds => df (ds.map (ddv om1) ++ dds) (fun _ => none) (fun x _ => lfR x ∧ k x r1 om1) (fun ex _ => lfX ex ∧ xq ex r1 om1)
end
end DL

set_option Elab.async false
set_option linter.all false
set_option maxRecDepth 100000
set_option maxHeartbeats 1000000
namespace DL
open PySem L2 PySem.W
section
variable {X : Cx} {K : PySem.W.Frag} {B : Base} {F H : Hp} {om : Om} {st : St} {r : Env} {W : WX} {pos : Pos}
def rNeL (K : PySem.W.Frag) : R2 := fun x y H Q => ∃ a b xs, x = .ref a ∧ y = .ref b ∧ SqL K H a xs ∧ SqL K H b [] ∧ xs ≠ [] ∧ Q (.bl true) H
theorem op_neL (hu : X.A.units < cLine) : OpR X (compareOp .NotEq) (rNeL X.K) := by
  intro pins s σ H x y v u Q I rx ry h
  obtain ⟨a, b, xs, rfl, rfl, ea, eb, hne, q⟩ := h
  obtain rfl : v = Value.ref a := rx
  obtain rfl : u = Value.ref b := ry
  obtain ⟨its, ra, pa, _⟩ := I.list ea
  obtain ⟨jts, rb, pb, _⟩ := I.list eb
  have l1 := ra.length
  have l2 := rb.length
  have l3 : 0 < xs.length := List.length_pos_iff.mpr hne
  exact SeqAt.RcNeAt.lists_lengths pa.isList pb.isList (by simp only [List.size_toArray, ← l1, ← l2, List.length_nil, bne_iff_ne]; omega) hu X.prog X.w _ _ ⟨.bl _, H, I, rfl, q⟩
def rEqL (K : PySem.W.Frag) : R2 := fun x y H Q => ∃ a b xs, x = .ref a ∧ y = .ref b ∧ SqL K H a xs ∧ SqL K H b [] ∧ xs ≠ [] ∧ Q (.bl false) H
theorem op_eqL (hu : X.A.units < cLine) : OpR X (compareOp .Eq) (rEqL X.K) := by
  intro pins s σ H x y v u Q I rx ry h
  obtain ⟨a, b, xs, rfl, rfl, ea, eb, hne, q⟩ := h
  obtain rfl : v = Value.ref a := rx
  obtain rfl : u = Value.ref b := ry
  obtain ⟨its, ra, pa, _⟩ := I.list ea
  obtain ⟨jts, rb, pb, _⟩ := I.list eb
  have l1 := ra.length
  have l2 := rb.length
  have l3 : 0 < xs.length := List.length_pos_iff.mpr hne
  exact SeqAt.RcAt.lists_lengths pa.isList pb.isList (by simp only [List.size_toArray, ← l1, ← l2, List.length_nil, bne_iff_ne]; omega) hu X.prog X.w _ _ ⟨.bl _, H, I, rfl, q⟩
def pNeL : P2 := fun d e c => match d, e with
  | .lst ds, .lst [] => c (.v (.bl (!ds.isEmpty)))
  | d, e => pNe d e c
def pEqL : P2 := fun d e c => match d, e with
  | .lst ds, .lst [] => c (.v (.bl ds.isEmpty))
  | d, e => pEq d e c
theorem pNeL_at (ds : List D) (c : RV → Prop) : pNeL (.lst ds) (.lst []) c = c (.v (.bl (!ds.isEmpty))) := rfl
theorem pEqL_at (ds : List D) (c : RV → Prop) : pEqL (.lst ds) (.lst []) c = c (.v (.bl ds.isEmpty)) := rfl
theorem okE_nil : okE (.lst []) := okE_of (by simp [okc, okcs]) (by simp [dep, deps])
theorem eqD_nil : eqD (.lst []) (.lst []) = true := eqD_self (by simp [okc, okcs])
theorem o_neL {k : Nat} (hr : GRoom k X.A) : O2 X (compareOp .NotEq) (fun x y H Q => rNeA X.K x y H Q ∨ rNeL X.K x y H Q) pNeL := ⟨OpR.or (o_ne hr).p (op_neL (by have := hr.units; omega)), fun F H x y d e c Q s rx ry hp hQ => by
  unfold pNeL at hp
  split at hp
  · next ds =>
    cases ds with
    | nil => exact .inl ((o_ne hr).s F H x y _ _ c Q s rx ry ⟨okE_nil, okE_nil, by rw [eqD_nil]; exact hp⟩ hQ)
    | cons d ds =>
      obtain ⟨a, xs, rfl, h1, h2⟩ := rx.lstS s
      obtain ⟨b, ys, rfl, h3, h4⟩ := ry.lstS s
      cases h4
      refine .inr ⟨a, b, xs, rfl, rfl, SqL.of h1, SqL.of h3, fun e => ?_, vres s (.bl _) hp hQ⟩
      subst e
      cases h2
  · exact .inl ((o_ne hr).s F H x y _ _ c Q s rx ry hp hQ)⟩
theorem o_eqL {k : Nat} (hr : GRoom k X.A) : O2 X (compareOp .Eq) (fun x y H Q => rEqA X.K x y H Q ∨ rEqL X.K x y H Q) pEqL := ⟨OpR.or (o_eq hr).p (op_eqL (by have := hr.units; omega)), fun F H x y d e c Q s rx ry hp hQ => by
  unfold pEqL at hp
  split at hp
  · next ds =>
    cases ds with
    | nil => exact .inl ((o_eq hr).s F H x y _ _ c Q s rx ry ⟨okE_nil, okE_nil, by rw [eqD_nil]; exact hp⟩ hQ)
    | cons d ds =>
      obtain ⟨a, xs, rfl, h1, h2⟩ := rx.lstS s
      obtain ⟨b, ys, rfl, h3, h4⟩ := ry.lstS s
      cases h4
      refine .inr ⟨a, b, xs, rfl, rfl, SqL.of h1, SqL.of h3, fun e => ?_, vres s (.bl _) hp hQ⟩
      subst e
      cases h2
  · exact .inl ((o_eq hr).s F H x y _ _ c Q s rx ry hp hQ)⟩
end
end DL

set_option Elab.async false
set_option linter.all false
set_option maxRecDepth 100000
set_option maxHeartbeats 1000000
namespace DL
open PySem L2 PySem.W PyProof.Rows LamX
section
variable {P : Program} {w : World} {A : Around} {s : Shared}
theorem ints_at : ∀ {us : List Value} {row : List Int} {i : Nat}, IntsAre us row → i < row.length → ∃ t, us.toArray[i]? = some (.int (row.getD i 0) t)
  | _, _, _, .nil, h => by simp at h
  | _, _, 0, .cons n t _, _ => ⟨t, by simp⟩
  | _, _, i + 1, .cons n t r, h => by
    obtain ⟨t2, e⟩ := ints_at (i := i) r (by simpa using h)
    exact ⟨t2, by simpa using e⟩
theorem ints_reads {h : Heap} : ∀ {us : List Value} {row : List Int}, IntsAre us row → ReadsAll h us (row.map PyData.int) []
  | _, _, .nil => .nil
  | _, _, .cons n t r => .cons (.int n t) (ints_reads r)
def lamBody (r cN : Str) (p1 p2 p3 p4 p5 : Pos) (n : Nat) : Expr := .Tuple [.Subscript (.Name r p1) (.Name cN p2) p3, .Name r p4] n p5
theorem lam_row {f c' a cc : Addr} {q : Str} {params : Arguments} {scope : Scope} {cl : List (Str × Addr)} {pm ctv : Value} {us : List Value} {row : List Int} {i : Nat} {t : Tok} {r cN : Str} {p1 p2 p3 p4 p5 : Pos} {n : Nat}
    (hroom : A.depth < recursionLimit) (lim : s.heap.NoLimit) (hf : s.heap.get? f = some (kla_obj "<lambda>" q params (lamBody r cN p1 p2 p3 p4 p5 n) scope cl pm c' ctv)) (hrec : s.heap.CodeRec (.ref c') q)
    (hco : scope.isCoroutine = false) (hgen : scope.isGenerator = false) (hk : scope.kind = .function) (hn : scope.names = [(r, .local), (cN, .free)]) (hrc : (r == cN) = false) (hdr : (r == ("__debug__" : Str)) = false) (hdc : (cN == ("__debug__" : Str)) = false) (hdd : (cN == ("__classdict__" : Str)) = false)
    (hb : ∀ v, bindArgs (kla_fn "<lambda>" q params (lamBody r cN p1 p2 p3 p4 p5 n) scope cl pm (.ref c') ctv) ⟨[v], []⟩ = pure [(r, v)])
    (hcell : cl.lookup cN = some cc) (hc : s.heap.IsCell cc (some (.int i t))) (ht : IsTup s.heap a us.toArray) (hi : IntsAre us row) (hlt : i < row.length) (hsz : row.length < 1000000) :
    wpAny (model P w) A (call (.ref f) [.ref a]) (KeyPure (.tuple [.int (row.getD i 0), .tuple (row.map .int)]) s) (fun _ _ => False) s := by
  refine wpAny_call (kla_callFunE hroom hf rfl hco hgen rfl hrec ?_)
  rw [hb]
  have kr : scope.names.lookup r = some .local := by rw [hn]; simp
  have kc : scope.names.lookup cN = some .free := by
    rw [hn, List.lookup_cons, show (cN == r) = false by rw [Bool.eq_false_iff] at hrc ⊢; intro z; exact hrc (by rw [beq_iff_eq] at z ⊢; exact z.symm)]
    simp
  refine wpAny_pure (wpAny_newFunctionEnv (fun y hy => by rw [hn] at hy; simp at hy; rcases hy with rfl | rfl <;> simp) (fun y hy => by rw [List.mem_singleton] at hy; subst hy; exact kr) (fun h₁ hns hsb => ⟨lim.fresh _ hsb, ?_⟩) hk)
  show codeAny _ _ (.expr _ (envX q scope s.heap.objs.size f (.ref c') cl)) _ _
  have kp : ∀ b o, s.heap.get? b = some o → h₁.get? b = some o := fun b o e => hsb.extBut b o (Nat.ne_of_lt (Heap.lt_size e)) (Heap.get?_push_of_some _ e)
  refine kla_codeExpr ?_
  refine wpAny_Tuple_spliced ?_
  have ev : ∀ {s1 : Shared} {p : Pos} {Q : Value → Shared → Prop} {E : Value → Shared → Prop}, s1.heap = h₁ → Q (.ref a) s1 → wpAny (model P w) (A.deeper (envX q scope s.heap.objs.size f (.ref c') cl)) (eval (.Name r p) (envX q scope s.heap.objs.size f (.ref c') cl)) Q E s1 := fun {s1 p Q E} e h =>
    wpAny_Name (wpAny_loadName_local hk kr (by rw [e]; exact hns) (by simp) h) hdr
  have ht1 : IsTup h₁ a us.toArray := by
    obtain ⟨o, h1, h2⟩ := ht
    exact ⟨o, kp _ _ h1, h2⟩
  obtain ⟨tx, hx⟩ : ∃ tx, us.toArray[i]? = some (.int (row.getD i 0) tx) := ints_at hi hlt
  have hul : us.length = row.length := hi.length
  refine Calls.spliced_cons ?_
  refine Subscript_ (ev rfl ?_)
  refine wpAny_Name (wpAny_loadName_free hk kc hcell (hc.keeps kp) ?_ hdd) hdc
  have n63 := line63
  refine subscriptTail_builtinR (x := .int (row.getD i 0) tx) ht1.typeIs slot_tuple_getitem.lookup (getItem_tuple (j := i) ht1 (by omega) (by omega) (by rw [List.size_toArray, hul]; exact seqIndex_of (by omega) (by omega)) hx ⟨rfl, ?_⟩) rfl
  refine Calls.spliced_cons (ev rfl ?_)
  refine Calls.spliced_nil ⟨by show 2 ≤ sizeLine; rw [sizeLine_eq]; omega, ?_⟩
  refine ⟨_, _, rfl, fun b o e => Heap.get?_push_of_some _ (kp b o e), ?_⟩
  obtain ⟨o, h1, h2, m, h3⟩ := ht1
  exact .tuple (Heap.get?_push_size _ rfl) rfl rfl (.cons (.int _ _) (.cons (.tuple (Heap.get?_push_of_some _ h1) h2 h3 (ints_reads hi)) .nil))
end
section
variable {X : Cx} {pins : List (Addr × Obj)} {σ : L2.St} {H : Hp} {s : Shared}
theorem lam_made {c T : Addr} {ps : Array Value} {params : Arguments} {body : Expr} {scope : Scope} {pos : Pos} {E Q : Value → Shared → Prop} (I : Inv X pins σ H s) (TB : LamX.TabB X.base X.mg c T) (hcode : X.env.code = .ref c)
    (hP : H T = some (.tbl ps)) (ht : TriplesOk ps.toList) (ha : ∀ (p : Pos) (cv : Value), codeAmong p ps.toList = some cv → ∃ d, cv = .ref d ∧ H d = some (CodeO d (X.env.qual ++ "<lambda>")))
    (hdef : defaultsOf params X.env = ([], [])) (hfree : ∀ y ∈ scope.names, y.2 = .free → ∃ d, X.env.cells.lookup y.1 = some d)
    (h : ∀ (f c' : Addr) (pm ctv : Value) (H1 : Hp) (s' : Shared), Inv X pins σ H1 s' → (H1 = H ∨ (H c' = none ∧ H1 = upd (upd H T (.tbl (ps ++ #[rawInt pos.line, rawInt pos.col, .ref c']))) c' (CodeO c' (X.env.qual ++ "<lambda>")))) → H1 c' = some (CodeO c' (X.env.qual ++ "<lambda>")) →
      s'.heap.get? f = some (kla_obj "<lambda>" (X.env.qual ++ "<lambda>") params body scope (cloFrom X.env.cells scope.names []) pm c' ctv) → Q (.ref f) s') :
    wpAny (model X.prog X.w) X.A (eval (.Lambda params body scope pos) X.env) Q E s := by
  have oT : s.heap.get? T = some { cls := .none, data := .fields ps } := I.hok T _ hP
  have bT : s.heap.BuiltinsAt X.mg T := TB.bm.keeps I.bk
  refine kla_eval hdef ?_
  rcases hc : codeAmong pos ps.toList with _ | cv
  · refine kla_makeFunction (mg := X.mg) (c := c) (P := T) (ps := ps) (closure_ok hfree) I.ok.glob (I.mod.glob.keeps I.bk) hcode (TB.code.keeps I.bk) oT ht hc TB.gP bT fun c' ctv h' tk hx hge hlt hrec htb => ?_
    obtain ⟨d, oc, vs, t, e, hoc, hd, hv⟩ := hrec
    cases e
    have J := inv_table (t' := tk) (more := #[rawInt pos.line, rawInt pos.col, .ref c']) (h' := h'.push (kla_obj "<lambda>" (X.env.qual ++ "<lambda>") params body scope (cloFrom X.env.cells scope.names []) ((X.mg "__name__").getD .none) c' ctv)) I hP
      (fun b o hb e => Heap.get?_push_of_some _ (hx b o hb e)) (Heap.get?_push_of_some _ htb) hge ⟨oc, vs, t, Heap.get?_push_of_some _ hoc, hd, hv⟩
    exact h _ c' _ ctv _ _ J (.inr ⟨I.hok.fresh hge, rfl⟩) upd_same (Heap.get?_push_size _ rfl)
  · obtain ⟨c', rfl, hco⟩ := ha pos cv hc
    refine kla_makeFunctionHit (mg := X.mg) (c := c) (P := T) (ps := ps) (closure_ok hfree) I.ok.glob (I.mod.glob.keeps I.bk) hcode (TB.code.keeps I.bk) oT ht hc bT fun ctv h' tk hx hsz => ?_
    exact h _ c' _ ctv H _ (I.kept fun b o e => Heap.get?_push_of_some _ (hx b o e)) (.inl rfl) hco (Heap.get?_push_size _ rfl)
inductive RowsAt (G : Addr → List Int → Prop) : List V → List (List Int) → Prop
  | nil : RowsAt G [] []
  | cons {a : Addr} {q : List Int} {xs : List V} {qs : List (List Int)} : G a q → RowsAt G xs qs → RowsAt G (.ref a :: xs) (q :: qs)
def keyR (c : Nat) (q : List Int) : PyData := .tuple [.int (q.getD c 0), .tuple (q.map .int)]
def ordR (c : Nat) (qs : List (List Int)) : List (List Int) := qs.mergeSort (dataLe false (keyR c))
def tOrd (K : PySem.W.Frag) (T : Addr) (nm : Str) (lp : Pos) (j : Nat) (t : TE) : TE := fun σ H Q => t σ H fun x H1 => ∃ (G : Addr → List Int → Prop) (l : Addr) (xs : List V) (qs : List (List Int)) (c : Nat) (ps : Array Value),
  x = .ref l ∧ SqL K H1 l xs ∧ (∀ a q, G a q → SqT K H1 a (q.map V.int)) ∧ RowsAt G xs qs ∧ σ[j]? = some (some (.int (c : Int))) ∧ (∀ q ∈ qs, c < q.length ∧ q.length < 1000000) ∧ H1 T = some (.tbl ps) ∧ TriplesOk ps.toList ∧
  (∀ (p : Pos) (cv : Value), codeAmong p ps.toList = some cv → ∃ d, cv = .ref d ∧ H1 d = some (CodeO d nm)) ∧
  ∀ (H2 : Hp) (c' p : Addr) (ys : List V), (H2 = H1 ∨ (H1 c' = none ∧ H2 = upd (upd H1 T (.tbl (ps ++ #[rawInt lp.line, rawInt lp.col, .ref c']))) c' (CodeO c' nm))) → H2 p = none → RowsAt G ys (ordR c qs) → Q (.ref p) (upd H2 p (.lst ys))
def RowV (G : Addr → List Int → Prop) (h : Heap) (v : Value) (q : List Int) : Prop := ∃ a us, v = .ref a ∧ G a q ∧ IsTup h a us.toArray ∧ IntsAre us q
theorem RowsAt.each {G : Addr → List Int → Prop} (I : Inv X pins σ H s) (hG : ∀ a q, G a q → SqT X.K H a (q.map V.int)) : ∀ {xs : List V} {qs : List (List Int)} {vs : List Value}, RowsAt G xs qs → Vals xs vs → EachIs (RowV G s.heap) vs qs
  | _, _, _, .nil, .nil => .nil
  | _, _, _, .cons h t, .cons r rs => by
    cases r
    obtain ⟨its, rv, pl, _⟩ := I.tuple (hG _ _ h)
    exact .cons ⟨_, its, rfl, h, pl, rv.ints⟩ (RowsAt.each I hG t rs)
theorem RowsAt.of {G : Addr → List Int → Prop} {h : Heap} : ∀ {vs : List Value} {qs : List (List Int)}, EachIs (RowV G h) vs qs → ∃ ys, Vals ys vs ∧ RowsAt G ys qs
  | _, _, .nil => ⟨[], .nil, .nil⟩
  | _, _, .cons h t => by
    obtain ⟨a, us, rfl, h1, _⟩ := h
    obtain ⟨ys, h2, h3⟩ := RowsAt.of t
    exact ⟨.ref a :: ys, .cons rfl h2, .cons h1 h3⟩
theorem depth_ints : ∀ q : List Int, PyData.depthAll (q.map PyData.int) = 0
  | [] => rfl
  | x :: q => by simp only [List.map_cons, PyData.depthAll, PyData.depth, depth_ints q, Nat.max_self]
theorem keyR_depth (c : Nat) (q : List Int) : (keyR c q).depth ≤ 2 := by
  simp only [keyR, PyData.depth, PyData.depthAll, depth_ints]
  omega
theorem sqT_sub {K : PySem.W.Frag} {H H' : Hp} (hs : ∀ b o, H b = some o → NoTab o → H' b = some o) {a : Addr} {xs : List V} (h : SqT K H a xs) : SqT K H' a xs := by
  rcases h with (h | ⟨o, h⟩) | h
  · exact .inl (.inl (hs _ _ h fun _ e => by cases e))
  · exact .inl (.inr ⟨o, hs _ _ h fun _ e => by cases e⟩)
  · exact .inr h
theorem sqL_sub {K : PySem.W.Frag} {H H' : Hp} (hs : ∀ b o, H b = some o → NoTab o → H' b = some o) {a : Addr} {xs : List V} (h : SqL K H a xs) : SqL K H' a xs := by
  rcases h with (h | ⟨o, h⟩) | h
  · exact .inl (.inl (hs _ _ h fun _ e => by cases e))
  · exact .inl (.inr ⟨o, hs _ _ h fun _ e => by cases e⟩)
  · exact .inr h
theorem pe_ord {k : Nat} {ex : Expr} {t : TE} {c T : Addr} {params : Arguments} {scope : Scope} {lpos kpos pos p p1 p2 p3 p4 p5 : Pos} {n j : Nat} {r cN : Str} (hr : GRoom k X.A) (ha : PE X ex t) (hg : Gl X "sorted") (hm : X.mg "sorted" = none) (hv : bootBuiltins "sorted" = some (.builtin "sorted"))
    (TB : LamX.TabB X.base X.mg c T) (hcode : X.env.code = .ref c) (hN : X.N[j]? = some cN) (hcl : X.env.scope.names.lookup cN = some .cell)
    (hdef : defaultsOf params X.env = ([], [])) (hn : scope.names = [(r, .local), (cN, .free)]) (hco : scope.isCoroutine = false) (hgen : scope.isGenerator = false) (hk : scope.kind = .function)
    (hrc : (r == cN) = false) (hdr : (r == ("__debug__" : Str)) = false) (hdc : (cN == ("__debug__" : Str)) = false) (hdd : (cN == ("__classdict__" : Str)) = false)
    (hb : ∀ (q : Str) (cl : List (Str × Addr)) (pm cv ctv v : Value), bindArgs (kla_fn "<lambda>" q params (lamBody r cN p1 p2 p3 p4 p5 n) scope cl pm cv ctv) ⟨[v], []⟩ = pure [(r, v)])
    (he : backTo pos (starEach [ex] X.env) = (false, eval ex X.env) :: backTo pos (starEach [] X.env)) (hpl : (backTo pos (starEach [ex] X.env)).any (·.1) = false)
    (hkw : backToKw pos (keywordEach [⟨some "key", .Lambda params (lamBody r cN p1 p2 p3 p4 p5 n) scope lpos, kpos⟩] X.env) = [(some (Str.ofString "key"), do let v ← eval (.Lambda params (lamBody r cN p1 p2 p3 p4 p5 n) scope lpos) X.env; standAt pos; pure v)]) :
    PE X (.Call (.Name "sorted" p) [ex] [⟨some "key", .Lambda params (lamBody r cN p1 p2 p3 p4 p5 n) scope lpos, kpos⟩] pos) (tOrd X.K T (X.env.qual ++ "<lambda>") lpos j t) := by
  refine ⟨fun pins s σ H Q I h => ?_⟩
  refine wpAny_Call_Name_kw (ld_blt I hg hm hv ?_ (by decide) (by decide))
  refine PyProof.Rows.callWith_kw ?_ he hpl (by rw [hkw]; rfl) (by rw [hkw]; rfl)
  rw [he, hkw]
  refine Calls.spliced_cons (thn (ha.run pins s σ H _ I h) fun u s1 ⟨x, H1, I1, r1, q1⟩ => Calls.spliced_nil ?_)
  obtain ⟨G, l, xs, qs, cc, ps, rfl, hl, hG, hrows, hcc, hlen, hT, htr, hcodes, hQ⟩ := q1
  obtain rfl : u = Value.ref l := r1
  have hfree : ∀ y ∈ scope.names, y.2 = .free → ∃ d, X.env.cells.lookup y.1 = some d := fun y hy e => by
    rw [hn] at hy
    simp only [List.mem_cons, List.not_mem_nil, or_false] at hy
    rcases hy with rfl | rfl
    · cases e
    · exact I1.ok.has _ (.inl hcl)
  refine evalAll_cons (wpAny_bind (lam_made I1 TB hcode hT htr hcodes hdef hfree fun f c' pm ctv H2 s2 I2 hH hco2 hf => wpAny_bind (wpAny_standAt (wpAny_pure (wpAny_evalAll_nil ?_)))))
  show wpAny _ _ (call (.builtin "sorted") [.ref l] [(Str.ofString "key", .ref f)]) _ _ _
  have hs : ∀ b o, H1 b = some o → NoTab o → H2 b = some o := fun b o e nt => by
    rcases hH with rfl | ⟨nC, rfl⟩
    · exact e
    · rw [upd_ne (ne_of_none e nC), upd_ne (fun z => by rw [z, hT] at e; cases e; exact nt _ rfl)]; exact e
  obtain ⟨its, rv, pl, hz⟩ := I2.list (sqL_sub hs hl)
  have er := RowsAt.each I2 (fun a q h => sqT_sub hs (hG a q h)) hrows rv
  -- the captured column
  obtain ⟨m, hnm, hlm⟩ := I2.loc
  obtain ⟨u, ru, lc⟩ := hlm j cN _ hN hcc (.inr (.inl hcl))
  obtain ⟨tc, rfl⟩ : ∃ tc, u = .int (cc : Int) tc := ru
  obtain ⟨ca, hca, hcell⟩ : ∃ ca, X.env.cells.lookup cN = some ca ∧ s2.heap.IsCell ca (some (.int (cc : Int) tc)) := by
    rcases lc with ⟨k', _⟩ | ⟨_, c3, e', z⟩
    · have k2 : X.env.scope.names.lookup cN = some .local := k'
      rw [hcl] at k2; cases k2
    · exact ⟨c3, e', z⟩
  have hclo : (cloFrom X.env.cells scope.names []).lookup cN = some ca := by
    have hy : (cN, NameKind.free) ∈ scope.names := by rw [hn]; simp
    obtain ⟨c2, h2⟩ := mem_lookup (cloFrom_has (cells := X.env.cells) (acc := []) hy)
    rcases cloFrom_mem (PySem.mem_of_lookup h2) with hm2 | ⟨h1, h3⟩
    · cases hm2
    · rw [h2, h3, hca]; rfl
  have lim2 := I2.nolimit
  obtain ⟨⟨oc, vs, t', hoc, hd2, hvc⟩, _, _⟩ := I2.hok c' _ hco2
  have hdp : ∀ q ∈ qs, (keyR cc q).depth ≤ 2 := fun q _ => keyR_depth cc q
  refine sorted_key_data (b := false) (keyR cc) pl.isList er (AllAlike.of fun a b => by simp only [keyR, alike, alikeAll, alike_ints, Bool.and_self]) (Sortable.tuples fun _ => ⟨_, _, rfl⟩) (by rw [er.length.symm, ← rv.length]; exact hz) (fun q mq => ?_) (ksk_s1 _ _) (fun _ => ksk_l1 _ _) (fun _ => ksk_t1 _ _) (fun v q ⟨a, us, e1, e2, e3, e4⟩ mq h tk kp => ?_) fun out c2 h' tk kp fr hD hlo eo => ?_
  · have := hdp q mq; have := hr.un; omega
  · subst e1
    obtain ⟨hc1, hc2⟩ := hlen q mq
    refine lam_row (i := cc) (s := { s2 with heap := h, toks := tk }) (by have := hr.dp; show X.A.in1.in1.depth < _; have e1 : X.A.in1.in1.depth = X.A.depth := rfl; omega) (lim2.keeps kp) (kp _ _ hf) ⟨c', oc, vs, t', rfl, kp _ _ hoc, hd2, hvc⟩ hco hgen hk hn hrc hdr hdc hdd (fun v => hb _ _ _ _ _ v) hclo (hcell.keeps kp) (e3.keeps kp) e4 hc1 hc2
  · obtain ⟨ys, vy, ry⟩ := RowsAt.of eo
    refine ⟨.ref _, upd H2 (s2.heap.objs.size + 1) (.lst ys), I2.laid (t' := tk) (fun b o e => kp b o e) (Nat.le_succ _) ⟨by rw [vy.length, hlo, ← er.length, ← rv.length]; exact hz, out, c2, vy, hD⟩, rfl, hQ H2 c' _ ys hH (I2.hok.fresh (Nat.le_succ _)) ry⟩
end
section
variable {X : Cx} {K : PySem.W.Frag} {B : Base} {F F' H H' : Hp} {om : Om} {st : L2.St} {r : DL.Env} {W : WX}
def ordK (d : D) (o : Option (Option RV)) (f : List D → Prop) : Prop := ∃ (rs : List (List Int)) (c : Nat), d = .lst (rowsD rs) ∧ o = some (some (.v (.int (c : Int)))) ∧ (∀ q ∈ rs, c < q.length ∧ q.length < 1000000) ∧ f (rowsD (ordR c rs))
def wOrd (j : Nat) (wa : WE) : WE := fun xq r om k => wa xq r om fun x r1 om1 => wd (datB r1 om1 x) fun d => ordK d r1[j]? fun L => k (.o L) r1 om1
theorem wOrd_q {j : Nat} {wa : WE} {xq : DX} {r : DL.Env} {om : Om} {k : RV → DL.Env → Om → Prop} : wOrd j wa xq r om k = wa xq r om fun x r1 om1 => wd (datB r1 om1 x) fun d => ordK d r1[j]? fun L => k (.o L) r1 om1 := rfl
theorem rowsG_at : ∀ {xs : List V} {rs : List (List Int)}, RepA K F xs (rowsD rs) → RowsAt (fun a q => TupR K F a (q.map V.int)) xs rs
  | [], [], _ => .nil
  | [], _ :: _, h => by cases h
  | _ :: _, [], h => by cases h
  | x :: xs, q :: rs, h => by
    cases h with
    | cons h t =>
      cases h with
      | tup h1 h2 =>
        have e := h2.ints
        subst e
        exact .cons h1 (rowsG_at t)
theorem rowsG_rep : ∀ {xs : List V} {rs : List (List Int)}, RowsAt (fun a q => TupR K F a (q.map V.int)) xs rs → RepA K F xs (rowsD rs)
  | _, _, .nil => .nil
  | _, _, .cons h t => .cons (.tup h (repA_ints _)) (rowsG_rep t)
theorem Rel.lam (R : Rel K B F om H st r) {T c' : Addr} {nm : Str} {ps more : Array Value} (hT : (T, nm) ∈ tabsOf K) (t1 : H T = some (.tbl ps)) (hu : ∀ p ∈ tabsOf K, p.1 = T → p.2 = nm) (nC : H c' = none)
    (ht : TriplesOk (ps ++ more).toList) (hc : ∀ (p : Pos) (cv : Value), codeAmong p (ps ++ more).toList = some cv → codeAmong p ps.toList = some cv ∨ cv = .ref c') :
    Same F (upd F c' (CodeO c' nm)) ∧ Rel K B (upd F c' (CodeO c' nm)) om (upd (upd H T (.tbl (ps ++ more))) c' (CodeO c' nm)) st r := by
  have fC : F c' = none := R.rh.sub.free nC
  have hs : Same F (upd F c' (CodeO c' nm)) := same_upd fC
  have nT : T ≠ c' := ne_of_none t1 nC
  have fT : F T = none := (R.rh.tab _ hT).1
  refine ⟨hs, R.growT hs (fun b o e nt => ?_) (fun b e => ?_) (fun b o e n => ?_) (fun b o e => ?_) fun p m => ?_⟩
  · rw [upd_ne (ne_of_none e nC), upd_ne (fun z => by rw [z, t1] at e; cases e; exact nt _ rfl)]; exact e
  · by_cases hb : b = c'
    · subst hb; exact nC
    · rw [upd_ne hb] at e
      by_cases hb2 : b = T
      · subst hb2; rw [upd_same] at e; cases e
      · rw [upd_ne hb2] at e; exact e
  · by_cases hb : b = c'
    · subst hb; exact nC
    · rw [upd_ne hb, n] at e; cases e
  · by_cases hb : b = c'
    · subst hb; rw [upd_same] at e ⊢; exact e
    · rw [upd_ne hb] at e ⊢
      rw [upd_ne (fun z => by rw [z, fT] at e; cases e)]
      exact R.rh.sub b o e
  · obtain ⟨f0, ps', p1, p2, p3⟩ := R.rh.tab p m
    by_cases hb : p.1 = T
    · have e2 := hu p m hb
      rw [e2] at p3
      rw [hb] at f0 p1 ⊢
      rw [e2]
      rw [t1] at p1
      cases p1
      refine ⟨by rw [upd_ne nT]; exact f0, _, by rw [upd_ne nT, upd_same], ht, fun pos cv hcv => ?_⟩
      rcases hc pos cv hcv with h | rfl
      · obtain ⟨d, e3, e4⟩ := p3 pos cv h
        exact ⟨d, e3, hs _ _ e4⟩
      · exact ⟨c', rfl, upd_same⟩
    · have nC2 : p.1 ≠ c' := ne_of_none p1 nC
      refine ⟨by rw [upd_ne nC2]; exact f0, ps', by rw [upd_ne nC2, upd_ne hb]; exact p1, p2, fun pos cv hcv => ?_⟩
      obtain ⟨d, e3, e4⟩ := p3 pos cv hcv
      exact ⟨d, e3, hs _ _ e4⟩
theorem se_ord {T : Addr} {nm : Str} {lp : Pos} {j : Nat} {t : TE} {wa : WE} (hT : (T, nm) ∈ tabsOf K) (hu : ∀ p ∈ tabsOf K, p.1 = T → p.2 = nm) (ha : SE K W t wa) : SE K W (tOrd K T nm lp j t) (wOrd j wa) := by
  intro B F om H st r xq k Q R hx hQ hw
  refine ha B F om H st r xq _ _ R hx (fun x r1 om1 F1 H1 y R1 s1 k1 q1 hw => ?_) hw
  obtain ⟨d, e1, hw⟩ := wd_iff hw
  obtain ⟨rs, c, rfl, ec, hl, hw⟩ := hw
  have rb := R1.datB q1 e1
  obtain ⟨a, xs, rfl, h1, h2⟩ := rb.lstS R1.rh.sub
  obtain ⟨y0, e2, sl⟩ := R1.slot j _ ec
  cases (show Rep K F1 y0 (.int (c : Int)) from sl)
  obtain ⟨t0, ps, t1, t2, t3⟩ := R1.rh.tab _ hT
  have rg := rowsG_at h2
  refine ⟨fun a q => TupR K F1 a (q.map V.int), a, xs, rs, c, ps, rfl, SqL.of h1, fun a q h => same_sqT R1.rh.sub h.sq, rg, e2, hl, t1, t2, fun p cv hc => ?_, fun H2 c' p ys hH hp hy => ?_⟩
  · obtain ⟨d, e3, e4⟩ := t3 p cv hc
    exact ⟨d, e3, R1.rh.sub _ _ e4⟩
  have fin : ∀ F2, Same F1 F2 → Rel K B F2 om1 H2 st r1 → Q (.ref p) (upd H2 p (.lst ys)) := fun F2 s2 R2 => by
    obtain ⟨R3, q3⟩ := R2.allocO hp ((rowsG_rep hy).mono s2)
    exact hQ _ _ _ _ _ _ R3 (s1.trans s2) k1 q3 hw
  rcases hH with rfl | ⟨nC, rfl⟩
  · exact fin F1 (Same.refl _) R1
  · have eL : (ps ++ #[rawInt lp.line, rawInt lp.col, .ref c']).toList = ps.toList ++ [rawInt lp.line, rawInt lp.col, .ref c'] := by simp
    obtain ⟨s2, R2⟩ := R1.lam (more := #[rawInt lp.line, rawInt lp.col, .ref c']) hT t1 hu nC (by rw [eL]; exact PySem.TriplesOk_snoc _ _ _ _ t2) (fun p cv hc => by rw [eL] at hc; exact among_app _ t2 hc)
    exact fin _ s2 R2
structure LamT (K : PySem.W.Frag) (base : Heap) (mg : Str → Option Value) (p : He.Defn) (nm : Str) : Prop where
  mem : ((He.cT K p).2, nm) ∈ tabsOf K
  one : ∀ q ∈ tabsOf K, q.1 = (He.cT K p).2 → q.2 = nm
  tb : LamX.TabB base mg (He.cT K p).1 (He.cT K p).2
theorem de_ord {k : Nat} {ex : Expr} {t : TE} {wa : WE} {dn : He.Defn} {nm : Str} {params : Arguments} {scope : Scope} {lpos kpos pos p p1 p2 p3 p4 p5 : Pos} {n j : Nat} {r cN : Str} (L : LamT X.K X.base X.mg dn nm) (hcode : X.env.code = .ref (He.cT X.K dn).1) (hr : GRoom k X.A) (hm : X.mg "sorted" = none) (ha : DE X W ex t wa)
    (hg : Gl X "sorted" := by rfl) (hN : X.N[j]? = some cN := by rfl) (hcl : X.env.scope.names.lookup cN = some .cell := by rfl) (hq : X.env.qual ++ "<lambda>" = nm := by first | rfl | decide +kernel)
    (hdef : defaultsOf params X.env = ([], []) := by rfl) (hn : scope.names = [(r, .local), (cN, .free)] := by rfl) (hco : scope.isCoroutine = false := by rfl) (hgen : scope.isGenerator = false := by rfl) (hk : scope.kind = .function := by rfl)
    (hrc : (r == cN) = false := by decide) (hdr : (r == ("__debug__" : Str)) = false := by decide) (hdc : (cN == ("__debug__" : Str)) = false := by decide) (hdd : (cN == ("__classdict__" : Str)) = false := by decide)
    (hb : ∀ (q : Str) (cl : List (Str × Addr)) (pm cv ctv v : Value), bindArgs (kla_fn "<lambda>" q params (lamBody r cN p1 p2 p3 p4 p5 n) scope cl pm cv ctv) ⟨[v], []⟩ = pure [(r, v)] := by intros; rfl)
    (he : backTo pos (starEach [ex] X.env) = (false, eval ex X.env) :: backTo pos (starEach [] X.env) := by rfl) (hpl : (backTo pos (starEach [ex] X.env)).any (·.1) = false := by rfl)
    (hkw : backToKw pos (keywordEach [⟨some "key", .Lambda params (lamBody r cN p1 p2 p3 p4 p5 n) scope lpos, kpos⟩] X.env) = [(some (Str.ofString "key"), do let v ← eval (.Lambda params (lamBody r cN p1 p2 p3 p4 p5 n) scope lpos) X.env; standAt pos; pure v)] := by rfl) :
    DE X W (.Call (.Name "sorted" p) [ex] [⟨some "key", .Lambda params (lamBody r cN p1 p2 p3 p4 p5 n) scope lpos, kpos⟩] pos) (tOrd X.K (He.cT X.K dn).2 nm lpos j t) (wOrd j wa) := by
  subst hq
  exact ⟨pe_ord hr ha.p hg hm (by decide +kernel) L.tb hcode hN hcl hdef hn hco hgen hk hrc hdr hdc hdd hb he hpl hkw, se_ord L.mem L.one ha.s⟩
theorem fn_okC {P : Program} {w : World} {K : PySem.W.Frag} {mg : Str → Option Value} {base : Heap} {x qual : Str} {params : Arguments} {body : List Stmt} {scope : Scope} {dvs : List V} {kws : List (Str × V)} {f : Addr} {fd : FuncData} {N ps : List Str} {k : Nat} {c : Con} {ws : WS} {dn : He.Defn}
    (F : FunD K x qual params body scope dvs kws f fd) (hf : f = He.fAd K dn) (S : FnScope N ps scope) (hn : ps.length = c.n)
    (hb : ∀ (cdv : Value) (A : Around) (outer : List PySem.Env) (s : Shared) (H : Hp) (E : XK), cdv = .ref (He.cT K dn).1 → GRoom k (A.deeper (PyProof.Rows.envOfC qual scope s.heap.objs.size f cdv)) →
      ∃ t, DSs (cxOf (L2.CX P w) P w K mg base N qual scope f cdv A outer s H E) (fun cls d _ H => E cls d H) body t ws)
    (hw : ∀ ds om k xk, c.df ds om k xk → ws (endOf k xk) (startE N.length ds) om) : GFn P w K mg base (L2.CX P w) (k + 1) f fd ps (toSp K c) := by
  obtain ⟨oc, od, dV, kV, doc, pm, an, cdv, ct, osl, rfl, lk, hcd, _, _⟩ := F.ex
  obtain ⟨c0, hc0⟩ := He.codeIn_ref hcd
  have hc : cdv = .ref (He.cT K dn).1 := by
    subst hf
    rw [show (He.cT K dn).1 = c0 from He.codeOf_eq lk hc0]; exact hc0
  exact fn_ofG lk hcd S (fun vs H Q E h => (toSp_len h).trans hn.symm) fun A outer s H vs Q E hr h => by
    obtain ⟨t, ht⟩ := hb cdv A outer s H E hc hr
    exact ⟨t, ht.p, body_ok ht.s hw h⟩
end
def obsWG (n : Nat) (fa : List He.Fa) (fn : List He.DefD) (ex : PySem.W.Frag → Bool) (ts : List (Str × List Str)) (tf : List He.Defn) (g : Addr → Option Obj) : (He.AlD × Bool) × List (Option (List (Option (Str × Int)))) :=
  ((He.obsD fa fn (He.frT g (He.asD g n)), ex (He.frT g (He.asD g n)) && He.tabsB g tf (He.frT g (He.asD g n))), ts.map fun q : Str × List Str => He.dicW (He.frT g (He.asD g n)) (He.ga (He.frT g (He.asD g n)) q.1))
def hookW (n : Nat) (fa : List He.Fa) (fn : List He.DefD) (ex : PySem.W.Frag → Bool) (ts : List (Str × List Str)) (tf : List He.Defn) : PySem.W.Hook where
  α := (He.AlD × Bool) × List (Option (List (Option (Str × Int))))
  obs := fun s => obsWG n fa fn ex ts tf s.heap.get?
  val := fun w => ((He.valD fn, true), ts.map fun q : Str × List Str => some (He.keysIn w.params q.2))
  says := fun w h => ∃ K : PySem.W.Frag, K.In h ∧ He.SaysD fa fn K ∧ ex K = true ∧ ((ts.map fun q : Str × List Str => He.dicW K (He.ga K q.1)) = ts.map fun q : Str × List Str => some (He.keysIn w.params q.2)) ∧ ∀ p ∈ tf, TabE h K p
  of := fun w s e => by
    have e1 : He.obsD fa fn (He.frT s.heap.get? (He.asD s.heap.get? n)) = He.valD fn := congrArg (fun z : (He.AlD × Bool) × List (Option (List (Option (Str × Int)))) => z.1.1) e
    have e2 : (ex (He.frT s.heap.get? (He.asD s.heap.get? n)) && He.tabsB s.heap.get? tf (He.frT s.heap.get? (He.asD s.heap.get? n))) = true := congrArg (fun z : (He.AlD × Bool) × List (Option (List (Option (Str × Int)))) => z.1.2) e
    have e3 := congrArg (fun z : (He.AlD × Bool) × List (Option (List (Option (Str × Int)))) => z.2) e
    rw [Bool.and_eq_true] at e2
    refine ⟨_, He.frT_in, e1, e2.1, e3, fun p hp => ?_⟩
    have h := List.all_eq_true.mp e2.2 p hp
    rw [Bool.and_eq_true] at h
    obtain ⟨h3, h4⟩ := h
    cases q : s.heap.get? (He.cT (He.frT s.heap.get? (He.asD s.heap.get? n)) p).2 with
    | none => rw [q] at h4; cases h4
    | some o =>
      rw [q] at h4
      exact ⟨h3, He.frT_none q h4, by rw [q, He.emptyTab_eq h4]⟩
  keeps := fun _ _ _ ⟨K, hK, h1, h2, h3, h4⟩ k => ⟨K, PySem.W.Frag.In.keeps hK k, h1, h2, h3, fun p hp => ⟨(h4 p hp).hd, (h4 p hp).out, k _ _ (h4 p hp).empty⟩⟩
theorem lamT_of {K : PySem.W.Frag} {base : Heap} {mg : Str → Option Value} {dn : He.Defn} {nm : Str} (h : lamB K dn nm = true) (tb : LamX.TabB base mg (He.cT K dn).1 (He.cT K dn).2) : LamT K base mg dn nm := by
  simp only [lamB, Bool.and_eq_true, List.any_eq_true, List.all_eq_true, beq_iff_eq, Bool.or_eq_true, Bool.not_eq_true', beq_eq_false_iff_ne, ne_eq] at h
  obtain ⟨⟨⟨a, b⟩, h1, h2, h3⟩, h4⟩ := h
  simp only at h2 h3
  subst h2 h3
  exact ⟨h1, fun q m e => (h4 q m).resolve_left fun n => n e, tb⟩
theorem walk_DT {l : PySem.W.OpenLaw} {n k : Nat} {q : Program} {loose : List Str} {XP : (Str → Option Value) → Heap → Prop} {YP : World → Heap → Prop} {d : DefRec} {x : Str}
    (hn : l.most = some n) (hn2 : n ≤ sizeLine) (hdf : d.params.defaults = []) (hr : L2.Room k callerA)
    (F : ∀ (w : World) (mg : Str → Option Value) (fa : Addr) (h : Heap), YP w h → h.Ns mainGlobals mg → mg d.name = some (.ref fa) →
      ∃ (K : PySem.W.Frag) (fd : FuncData) (c : Con) (tf : List He.Defn), K.In h ∧ tabsInB K tf = true ∧ (∀ p ∈ tf, TabE h K p) ∧ (∀ (s : Shared) (u : Value), BindsTo s fd ⟨[u], []⟩ [(x, u)]) ∧
        (∀ (ns : List Int) (om : Om), ns.length ≤ n → (∀ z ∈ ns, Builtin.Int.intBits z ≤ 1048576) → c.df [.frl (ns.map D.int)] om (fun x _ => x = .v (.bl true)) (fun _ _ => False)) ∧
        ∀ base : Heap, K.In base → base.Ns mainGlobals mg → (∀ p ∈ tf, LamX.TabB base mg (He.cT K p).1 (He.cT K p).2) → GFn l.prog w K mg base (L2.CX l.prog w) k fa fd [x] (toSp K c)) :
    PySem.W.WalkO q loose XP YP l.row.toRowW d [] (fun f vs => PySem.call f vs) := by
  refine Att.attach_callB hn hdf fun w s0 s1 mg mb fa o pm cd doc a vs ns G Y ho hd hcd hmg hobj hints hlen hbits hg => ?_
  obtain ⟨K, fd, c, tf, KX, hT, hE, hb, hsp, hF⟩ := F w mg fa _ Y G.T.g hmg
  have mem : ∀ {p : Addr × Addr}, p ∈ tf.map (He.cT K) → ∃ q ∈ tf, He.cT K q = p := fun h => List.mem_map.mp h
  refine law_callG (cs := tf.map (He.cT K)) (Z := L2.CX l.prog w) KX G.T.g G.T.b G.T.builtins G.T.nolimit hg (fun p hp => ?_) (fun p hp => ?_) (fun p hp => ?_) G.T.bmain hobj hints (Nat.le_trans hlen hn2) hr (fun base h1 h2 h3 => hF base h1 h2 fun p hp => h3 _ (List.mem_map_of_mem hp)) hb (fun H hH hS => ?_) fun H e s' hz => ?_
  · obtain ⟨q, hq, rfl⟩ := mem hp; exact (hE q hq).empty
  · obtain ⟨q, hq, rfl⟩ := mem hp; exact (hE q hq).out
  · obtain ⟨q, hq, rfl⟩ := mem hp; exact PySem.W.codeHd_of_K KX (hE q hq).hd
  · have hF1 : ∀ b o, H b = some o → NoTab o → (fun b => match H b with | some (.tbl _) => none | u => u : Hp) b = some o := fun b o e nt => by
      show (match H b with | some (.tbl _) => none | u => u) = some o
      rw [e]
      cases o <;> first | rfl | exact (nt _ rfl).elim
    refine ⟨fun b => match H b with | some (.tbl _) => none | u => u, fun _ => none, [.frl (ns.map D.int)], ⟨fun b o e => ?_, fun a ob e => (by cases e), fun p m => ?_⟩, .cons (.frl (sqL_sub hF1 hS) (repA_ints ns)) .nil, c.mono _ _ _ _ _ _ (fun x om' hx F' H' y rh ex sl => ?_) (fun ex om' hx => hx.elim) (hsp ns _ hlen hbits)⟩
    · cases q : H b with
      | none => simp only [q] at e; cases e
      | some u => simp only [q] at e; cases u <;> first | exact e | cases e
    · have h := List.all_eq_true.mp hT p m
      rw [List.any_eq_true] at h
      obtain ⟨q, hq, hqe⟩ := h
      rw [beq_iff_eq] at hqe
      have hH1 : H p.1 = some (.tbl #[]) := by rw [← hqe]; exact hH _ (List.mem_map_of_mem hq)
      exact ⟨by simp only [hH1], #[], hH1, True.intro, fun pos cv hc => by
        have z : codeAmong pos [] = some cv := hc
        simp [codeAmong] at z⟩
    · subst hx
      cases (show Rep K F' y (.bl true) from sl)
      rfl
  · obtain ⟨_, _, _, _, _, _, _, _, _, _, _, _, z⟩ := hz
    exact z
end DL

set_option Elab.async false
set_option linter.all false
set_option maxRecDepth 100000
set_option maxHeartbeats 2000000
namespace DL
open PySem PySem.Spec PyProof.Rows L2 PpSet
section
variable {prog : Program} {w : World} {A : Around} {R : Result → Shared → Prop} {s : Shared} {elt ta ia tb ib : Expr} {scope : Scope} {pos : Pos} {it acc : Value} {env : PySem.Env}
abbrev twoFor (elt ta ia tb ib : Expr) (scope : Scope) (pos : Pos) : Expr := .SetComp elt [⟨ta, ia, [], 0⟩, ⟨tb, ib, [], 0⟩] scope pos
abbrev bad (prog : Program) (w : World) (A : Around) (env : PySem.Env) (R : Result → Shared → Prop) := notedBy (model prog w) A env fun e s' => R (.error e) s'
end
def tNums2 (w : World) (wi : TI) (g : TG) (wj : TI) (gj : TG) (te : TE) (vs vj : List Nat) : TE := fun σ H Q => wi σ H fun J H1 => ∀ D, H1 D = none → ∃ St : Nat → Nat → Hp → Prop, (∃ m, St 0 m (upd H1 D (SetO w D (fun _ => false) 0))) ∧
  ∀ i m H, St i m H → (J.stop i H ∧ Q (.ref D) H) ∨ (J.go i H ∧ ∃ After : Hp → Prop, (∀ H', After H' → ∃ m', m' < m ∧ St (i + 1) m' H') ∧ ∀ x H', J.yld i H x H' → g x (wipe σ vs) H' fun τ H2 => wipe τ vs = wipe σ vs ∧
    wj τ H2 fun Jb H3 => ∃ Sb : Nat → Nat → Hp → Prop, (∃ m, Sb 0 m H3) ∧ ∀ j k H, Sb j k H → (Jb.stop j H ∧ After H) ∨ (Jb.go j H ∧ ∃ Ab : Hp → Prop, (∀ H', Ab H' → ∃ k', k' < k ∧ Sb (j + 1) k' H') ∧ ∀ x H', Jb.yld j H x H' → gj x (wipe τ vj) H' fun τb H4 => wipe τb vj = wipe τ vj ∧
      te τb H4 fun y H5 => ∃ (c : Int) (S : Int → Bool) (n : Nat), y = .int c ∧ H5 D = some (SetO w D S n) ∧ n + 1 < scanBound ∧ Ab (upd H5 D (SetO w D (fun j => S j || decide (j = c)) (if S c = true then n else n + 1)))))
section
variable {K : PySem.W.Frag} {B : Base} {F F' : Hp} {om : Om} {H H' : Hp} {st : L2.St} {r : DL.Env} {W : WX} {X : Cx} {pos : Pos}
def scGo2 (g : GT) (wj : WI) (gj : GT) (we : WE) (vs vj : List Nat) : List D → List Int → DL.Env → Om → (List Int → DL.Env → Om → Prop) → Prop
  | [], acc, r, om, fin => fin acc r om
  | d :: ds, acc, r, om, fin => g (.v d) r fun r2 => wj X0 r2 om fun items r3 om3 => scGo gj we vj items acc (wipeE r3 vj) om3 fun acc' r4 om4 => scGo2 g wj gj we vs vj ds acc' (wipeE r4 vs) om4 fin
def wLenSc2 (wi : WI) (g : GT) (wj : WI) (gj : GT) (we : WE) (vs vj : List Nat) : WE := fun xq r om k => wi xq r om fun items r1 om1 => scGo2 g wj gj we vs vj items [] (wipeE r1 vs) om1 fun acc r2 om2 => k (.v (.int (acc.length : Nat))) r2 om2
def tLenSc2 (w : World) (wi : TI) (g : TG) (wj : TI) (gj : TG) (te : TE) (vs vj : List Nat) : TE := tCB (fun xs H Q => ∃ (a : Addr) (S : Int → Bool) (n : Nat), xs = [.ref a] ∧ H a = some (SetO w a S n) ∧ Q (.int (n : Nat)) H) (tCons (tNums2 w wi g wj gj te vs vj) tNil)
def sc2K (g : GT) (wj : WI) (gj : GT) (we : WE) (vs vj : List Nat) (l : List D) (acc : List Int) (r : DL.Env) (om : Om) (fin : List Int → DL.Env → Om → Prop) (_ : Tg (g, wj, gj, we, fin) := .mk) : Prop := scGo2 g wj gj we vs vj l acc r om fin
end
end DL

set_option Elab.async false
set_option linter.all false
set_option maxRecDepth 100000
namespace DL
open PySem L2
section
variable {X : Cx} {K : PySem.W.Frag} {B : Base} {F F' H H' : Hp} {om : Om} {st : L2.St} {r : Env} {W : WX} {pos : Pos}
def mrg (om om' : Om) : Om := fun a => match om a with
  | some o => some o
  | none => match om' a with
    | some (.lst ds) => if lfs ds = true then some (.lst ds) else none
    | _ => none
def ddx (om : Om) : D → D
  | .tup ds => .tup (ds.map (deref om))
  | d => deref om d
def ddw (om : Om) : D → D
  | .lst ds => .lst (ds.map (ddx om))
  | .tup ds => .tup (ds.map (ddx om))
  | d => d
def wCallW (df : DF) (dds : List D) (wa : WA) : WE := fun xq r om k => wa xq r om fun xs r1 om1 => wd (datsB r1 om1 xs) fun ds => df (ds.map (ddw om1) ++ dds) (fun _ => none) (fun x om' => lfR x ∧ ((∀ a o, om' a = some o → om1 a = none) → k x r1 (mrg om1 om'))) (fun ex _ => lfX ex ∧ xq ex r1 om1)
def wCallKW (df : DF) (n m : Nat) (gD : List D → List D → List D) (wa wk : WA) : WE := fun xq r om k => wa xq r om fun xs r1 om1 => wk xq r1 om1 fun zs r2 om2 => wd (datsB r2 om2 xs) fun ds => wd (datsB r2 om2 zs) fun es =>
  (ds.length = n ∧ es.length = m) ∧ df (gD (ds.map (ddw om2)) es) (fun _ => none) (fun x om' => lfR x ∧ ((∀ a o, om' a = some o → om2 a = none) → k x r2 (mrg om2 om'))) (fun ex _ => lfX ex ∧ xq ex r2 om2)
end
end DL

set_option Elab.async false
set_option linter.all false
set_option maxRecDepth 100000
set_option maxHeartbeats 1000000
namespace DL
open PySem L2 PySem.W PyProof.Rows LamX
theorem obsVG_eq {as : List Addr} {fa : List He.Fa} {fn : List He.DefD} {ex : PySem.W.Frag → Bool} {ts : List (Str × List Str)} {tf : List He.Defn} {g : Addr → Option Obj} {s : Shared} (h : ∀ a, g a = s.heap.get? a) : obsVG as fa fn ex ts tf g = (hookV as fa fn ex ts tf).obs s := by
  have e : g = s.heap.get? := funext h
  rw [e] <;> rfl
end DL

set_option Elab.async false
set_option linter.all false
set_option maxRecDepth 100000
set_option maxHeartbeats 1000000
namespace DL
open PySem L2 PyProof.Rows PySem.Spec
section
open PySem.SeqAt AutoSeq1 MeetsSeq
end
section
variable {X : Cx}
def rInT (K : PySem.W.Frag) (neg : Bool) : R2 := fun x y H Q => ∃ d ds, Dp K H x d ∧ Dp K H y (.tuple ds) ∧ SeqAt.shaped d = true ∧ SeqAt.shaped (.tuple ds) = true ∧ Q (.bl (neg ^^ ds.any fun z => PyData.eqv z d)) H
def rInTd (K : PySem.W.Frag) (neg : Bool) : R2 := fun x y H Q => ∃ a ks b ss, x = .ref a ∧ H a = some (.dK ks) ∧ y = .ref b ∧ SqT K H b (List.map V.str ss) ∧ Q (.bl neg) H
def strsD : List D → Option (List Str)
  | [] => some []
  | .str x :: ds => (strsD ds).map (x :: ·)
  | _ :: _ => none
def pNotInB : P2 := fun d e c => match d with
  | .dct [] [] => (match e with
    | .tup es => (strsD es).isSome = true ∧ c (.v (.bl true))
    | _ => False)
  | .lst ds => (match e with
    | .tup es => okE (.lst ds) ∧ okE (.tup es) ∧ c (.v (.bl (!inD (.lst ds) es)))
    | e => pNotInA (.lst ds) e c)
  | .tup ds => (match e with
    | .tup es => okE (.tup ds) ∧ okE (.tup es) ∧ c (.v (.bl (!inD (.tup ds) es)))
    | e => pNotInA (.tup ds) e c)
  | d => pNotInA d e c
end
end DL

set_option Elab.async false
set_option linter.all false
set_option maxRecDepth 100000
set_option maxHeartbeats 1000000
namespace DL
open PySem L2
def keyP : Key → PyData
  | .inl i => .int i
  | .inr x => .str x
mutual
def pyS : D → PyData
  | .non => .none
  | .bl b => .bool b
  | .int i => .int i
  | .str x => .str x
  | .tup ds => .tuple (pySs ds)
  | .lst ds => .list (pySs ds)
  | .frl ds => .list (pySs ds)
  | .dct ks vs => .dict ((ks.map keyP).zip (pySs vs))
  | _ => .none
def pySs : List D → List PyData
  | [] => []
  | d :: ds => pyS d :: pySs ds
end
def okKey : Key → Bool
  | .inl i => decide (i.natAbs.log2 < 1920)
  | .inr _ => true
mutual
def okS : D → Bool
  | .non => true
  | .bl _ => true
  | .int i => decide (i.natAbs.log2 < 1920)
  | .str _ => true
  | .tup ds => okSs ds
  | .lst ds => okSs ds
  | .frl ds => okSs ds
  | .dct ks vs => decide (ks.length = vs.length) && (ks.all okKey && okSs vs)
  | _ => false
def okSs : List D → Bool
  | [] => true
  | d :: ds => okS d && okSs ds
end
mutual
def dpS : D → Nat
  | .tup ds => dpSs ds + 1
  | .lst ds => dpSs ds + 1
  | .frl ds => dpSs ds + 1
  | .dct _ vs => dpSs vs + 1
  | _ => 0
def dpSs : List D → Nat
  | [] => 0
  | d :: ds => max (dpS d) (dpSs ds)
end
def lnK : Key → Nat
  | .inl i => (Str.ofString (toString i)).length
  | .inr x => (reprText x).length
def lnKs : List Key → Nat
  | [] => 0
  | k :: ks => lnK k + 2 + lnKs ks
mutual
def lnS : D → Nat
  | .non => 4
  | .bl _ => 5
  | .int i => (Str.ofString (toString i)).length
  | .str x => (reprText x).length
  | .tup ds => lnSs ds + 3
  | .lst ds => lnSs ds + 3
  | .frl ds => lnSs ds + 3
  | .dct ks vs => lnKs ks + lnSs vs + 3
  | _ => 4
def lnSs : List D → Nat
  | [] => 0
  | d :: ds => lnS d + 2 + lnSs ds
end
mutual
def dcS : D → Bool
  | .tup ds => dcSs ds
  | .lst ds => dcSs ds
  | .frl ds => dcSs ds
  | .dct _ _ => true
  | _ => false
def dcSs : List D → Bool
  | [] => false
  | d :: ds => dcS d || dcSs ds
end
theorem pySs_length : ∀ ds : List D, (pySs ds).length = ds.length
  | [] => rfl
  | d :: ds => by simp only [pySs, List.length_cons, pySs_length ds]
theorem showKs : ∀ {ks : List Key}, ks.all okKey = true → PyData.showableAll (ks.map keyP) = true
  | [], _ => rfl
  | k :: ks, h => by
    simp only [List.all_cons, Bool.and_eq_true] at h
    simp only [List.map_cons, PyData.showableAll, Bool.and_eq_true]
    refine ⟨?_, showKs h.2⟩
    cases k with
    | inl i => simpa [keyP, okKey, PyData.showable] using h.1
    | inr x => simp [keyP, PyData.showable]
theorem showKv_of : ∀ {ks vs : List PyData}, PyData.showableAll ks = true → PyData.showableAll vs = true → PyData.showableKv (ks.zip vs) = true
  | [], _, _, _ => by simp [PyData.showableKv]
  | _ :: _, [], _, _ => by simp [PyData.showableKv]
  | k :: ks, v :: vs, h, h' => by
    simp only [PyData.showableAll, Bool.and_eq_true] at h h'
    simp only [List.zip_cons_cons, PyData.showableKv, Bool.and_eq_true]
    exact ⟨⟨h.1, h'.1⟩, showKv_of h.2 h'.2⟩
mutual
theorem pyS_showable : ∀ d : D, okS d = true → (pyS d).showable = true
  | .non, _ => by simp only [pyS, PyData.showable]
  | .bl b, _ => by simp only [pyS, PyData.showable]
  | .int i, h => by simpa only [pyS, PyData.showable, okS] using h
  | .str x, _ => by simp only [pyS, PyData.showable]
  | .tup ds, h => by simp only [pyS, PyData.showable]; exact pySs_showable ds (by simpa only [okS] using h)
  | .lst ds, h => by simp only [pyS, PyData.showable]; exact pySs_showable ds (by simpa only [okS] using h)
  | .frl ds, h => by simp only [pyS, PyData.showable]; exact pySs_showable ds (by simpa only [okS] using h)
  | .dct ks vs, h => by
    simp only [okS, Bool.and_eq_true] at h
    simp only [pyS, PyData.showable]
    exact showKv_of (showKs h.2.1) (pySs_showable vs h.2.2)
  | .raw _, h => by simp [okS] at h
  | .h _, h => by simp [okS] at h
  | .exc _ _ _, h => by simp [okS] at h
  | .fn _, h => by simp [okS] at h
theorem pySs_showable : ∀ ds : List D, okSs ds = true → PyData.showableAll (pySs ds) = true
  | [], _ => rfl
  | d :: ds, h => by
    simp only [okSs, Bool.and_eq_true] at h
    simp only [pySs, PyData.showableAll, Bool.and_eq_true]
    exact ⟨pyS_showable d h.1, pySs_showable ds h.2⟩
end
theorem depthKs : ∀ (ks : List Key) (vs : List PyData), PyData.depthKv ((ks.map keyP).zip vs) ≤ PyData.depthAll vs
  | [], _ => by simp [PyData.depthKv]
  | _ :: _, [] => by simp [PyData.depthKv]
  | k :: ks, v :: vs => by
    have e : PyData.depth (keyP k) = 0 := by cases k <;> simp [keyP, PyData.depth]
    simp only [List.map_cons, List.zip_cons_cons, PyData.depthKv, PyData.depthAll, e]
    have := depthKs ks vs
    omega
mutual
theorem pyS_depth : ∀ d : D, (pyS d).depth ≤ dpS d
  | .non => by simp only [pyS, PyData.depth]; exact Nat.zero_le _
  | .bl b => by simp only [pyS, PyData.depth]; exact Nat.zero_le _
  | .int i => by simp only [pyS, PyData.depth]; exact Nat.zero_le _
  | .str x => by simp only [pyS, PyData.depth]; exact Nat.zero_le _
  | .tup ds => by have := pySs_depth ds; simp only [pyS, PyData.depth, dpS]; omega
  | .lst ds => by have := pySs_depth ds; simp only [pyS, PyData.depth, dpS]; omega
  | .frl ds => by have := pySs_depth ds; simp only [pyS, PyData.depth, dpS]; omega
  | .dct ks vs => by have := pySs_depth vs; have := depthKs ks (pySs vs); simp only [pyS, PyData.depth, dpS]; omega
  | .raw _ => by simp only [pyS, PyData.depth]; exact Nat.zero_le _
  | .h _ => by simp only [pyS, PyData.depth]; exact Nat.zero_le _
  | .exc _ _ _ => by simp only [pyS, PyData.depth]; exact Nat.zero_le _
  | .fn _ => by simp only [pyS, PyData.depth]; exact Nat.zero_le _
theorem pySs_depth : ∀ ds : List D, PyData.depthAll (pySs ds) ≤ dpSs ds
  | [] => by simp only [pySs, PyData.depthAll]; exact Nat.zero_le _
  | d :: ds => by
    have h1 := pyS_depth d
    have h2 := pySs_depth ds
    simp only [pySs, PyData.depthAll, dpSs]
    omega
end
theorem shownKs_le : ∀ (ks : List Key) (vs : List D), (∀ v ∈ vs, (pyS v).shown.length ≤ lnS v) → ((PyData.shownKv ((ks.map keyP).zip (pySs vs))).map (·.length)).sum + 2 * ((ks.map keyP).zip (pySs vs)).length ≤ lnKs ks + lnSs vs
  | [], vs, _ => by simp only [List.map_nil, List.zip_nil_left, PyData.shownKv, List.sum_nil, List.length_nil]; omega
  | _ :: _, [], _ => by simp only [pySs, List.zip_nil_right, PyData.shownKv, List.map_nil, List.sum_nil, List.length_nil]; omega
  | k :: ks, v :: vs, h => by
    have i := shownKs_le ks vs fun v m => h v (List.mem_cons_of_mem _ m)
    have h1 := h v List.mem_cons_self
    have e : (keyP k).shown.length = lnK k := by cases k <;> simp only [keyP, PyData.shown, lnK] <;> rfl
    simp only [List.map_cons, pySs, List.zip_cons_cons, PyData.shownKv, List.sum_cons, List.length_cons, lnKs, lnSs]
    have e2 : ((keyP k).shown ++ (": " : Str) ++ (pyS v).shown).length = lnK k + 2 + (pyS v).shown.length := by
      rw [strLen_append, strLen_append, e]
      rfl
    omega
mutual
theorem pyS_shown : ∀ d : D, (pyS d).shown.length ≤ lnS d
  | .non => by simp only [pyS, lnS]; exact Nat.le_refl 4
  | .bl b => by simp only [pyS, lnS]; cases b <;> decide
  | .int i => by simp only [pyS, PyData.shown, lnS]; exact Nat.le_refl _
  | .str x => by simp only [pyS, PyData.shown, lnS]; exact Nat.le_refl _
  | .tup ds => by
    have := pySs_shown ds
    have := tupleText_len_le (PyData.shownAll (pySs ds))
    rw [PyData.shownAll_length, pySs_length] at this
    simp only [pyS, PyData.shown, lnS]
    omega
  | .lst ds => by
    have := pySs_shown ds
    have := listText_len_le (PyData.shownAll (pySs ds))
    rw [PyData.shownAll_length, pySs_length] at this
    simp only [pyS, PyData.shown, lnS]
    omega
  | .frl ds => by
    have := pySs_shown ds
    have := listText_len_le (PyData.shownAll (pySs ds))
    rw [PyData.shownAll_length, pySs_length] at this
    simp only [pyS, PyData.shown, lnS]
    omega
  | .dct ks vs => by
    have h1 := shownKs_le ks vs (pySs_each vs)
    have h2 := dictText_len_le (PyData.shownKv ((ks.map keyP).zip (pySs vs)))
    rw [PyData.shownKv_length] at h2
    simp only [pyS, PyData.shown, lnS]
    omega
  | .raw _ => by simp only [pyS, lnS]; exact Nat.le_refl 4
  | .h _ => by simp only [pyS, lnS]; exact Nat.le_refl 4
  | .exc _ _ _ => by simp only [pyS, lnS]; exact Nat.le_refl 4
  | .fn _ => by simp only [pyS, lnS]; exact Nat.le_refl 4
theorem pySs_shown : ∀ ds : List D, ((PyData.shownAll (pySs ds)).map (·.length)).sum + 2 * ds.length ≤ lnSs ds
  | [] => by simp [pySs, PyData.shownAll, lnSs]
  | d :: ds => by
    have h1 := pyS_shown d
    have h2 := pySs_shown ds
    simp only [pySs, PyData.shownAll, List.map_cons, List.sum_cons, List.length_cons, lnSs]
    omega
theorem pySs_each : ∀ ds : List D, ∀ v ∈ ds, (pyS v).shown.length ≤ lnS v
  | [], _, m => nomatch m
  | d :: ds, v, m => by
    rcases List.mem_cons.mp m with e | m
    · rw [e]; exact pyS_shown d
    · exact pySs_each ds v m
end
mutual
theorem pyS_dict : ∀ d : D, (pyS d).hasDict = dcS d
  | .non => by simp only [pyS, PyData.hasDict, dcS]
  | .bl b => by simp only [pyS, PyData.hasDict, dcS]
  | .int i => by simp only [pyS, PyData.hasDict, dcS]
  | .str x => by simp only [pyS, PyData.hasDict, dcS]
  | .tup ds => by simp only [pyS, PyData.hasDict, dcS]; exact pySs_dict ds
  | .lst ds => by simp only [pyS, PyData.hasDict, dcS]; exact pySs_dict ds
  | .frl ds => by simp only [pyS, PyData.hasDict, dcS]; exact pySs_dict ds
  | .dct ks vs => by simp only [pyS, PyData.hasDict, dcS]
  | .raw _ => by simp only [pyS, PyData.hasDict, dcS]
  | .h _ => by simp only [pyS, PyData.hasDict, dcS]
  | .exc _ _ _ => by simp only [pyS, PyData.hasDict, dcS]
  | .fn _ => by simp only [pyS, PyData.hasDict, dcS]
theorem pySs_dict : ∀ ds : List D, PyData.hasDictAll (pySs ds) = dcSs ds
  | [] => by simp only [pySs, PyData.hasDictAll, dcSs]
  | d :: ds => by simp only [pySs, PyData.hasDictAll, dcSs, pyS_dict d, pySs_dict ds]
end
theorem sysB_ok {K : PySem.W.Frag} (h : sysB K = true) : ∃ o, K.lookup sysModules = some o ∧ o.cls = .type "dict" := by
  unfold sysB at h
  split at h
  · next o e =>
    split at h
    · next n e2 => exact ⟨o, e, by rw [e2, eq_of_beq h]⟩
    · cases h
  · cases h
section
variable {X : Cx} {pins : List (Addr × Obj)} {σ : L2.St} {H : Hp} {s : Shared}
theorem keys_read {h : Heap} {prog : Program} {w : World} (ks : List Key) : ∀ {xs : List V} {es : List DictEntry} {vs : List (Key × Value)}, xs.length = ks.length → Pairs (mixKind prog w) es vs → KV (ks.zip xs) vs →
    ReadsAll h (es.map (·.key)) (ks.map keyP) [] ∧ Vals xs (es.map (·.val)) := by
  induction ks with
  | nil =>
    intro xs es vs e p r
    cases xs with
    | nil => cases r; cases p; exact ⟨.nil, .nil⟩
    | cons _ _ => cases e
  | cons k ks ih =>
    intro xs es vs e p r
    cases xs with
    | nil => cases e
    | cons x xs =>
      cases r with
      | cons r q =>
        cases p with
        | @cons en kv es kvs h1 h2 t =>
          obtain ⟨g1, g2⟩ := ih (Nat.succ.inj e) t q
          have r1 : k = _ := r.1
          have r2 := r.2
          rw [← r1] at h1
          have z : Reads h en.key (keyP k) [] := by
            rcases keyIs_shape (show keyIs k en.key = true from h1) with ⟨i, t, e1, e2⟩ | ⟨y, t, e1, e2⟩
            · rw [e1, e2]; exact .int i t
            · rw [e1, e2]; exact .str y t
          have v : RelV x en.val := by rw [h2]; exact r2
          exact ⟨ReadsAll.cons z g1, .cons v g2⟩
theorem notSys (I : Inv X pins σ H s) (z : sysB X.K = true) {a : Addr} {o : Obj} (ho : s.heap.get? a = some o) (hc : o.cls = .type "list") (q : sysModules = a) : False := by
  subst q
  obtain ⟨o', e, hd⟩ := sysB_ok z
  have e' := I.kIn _ _ e
  rw [ho] at e'
  cases e'
  rw [hc] at hd
  exact absurd hd (by decide)
mutual
theorem Rep.rds (I : Inv X pins σ H s) : ∀ {v : V} {d : D} {u : Value}, Rep X.K H v d → RelV v u → okS d = true → ∃ as, Reads s.heap u (pyS d) as ∧ (sysB X.K = true → sysModules ∉ as)
  | _, _, _, .non, r, _ => by cases r; exact ⟨[], by simp only [pyS]; exact .none, fun _ => by simp⟩
  | _, _, _, .bl b, r, _ => by cases r; exact ⟨[], by simp only [pyS]; exact .bool b, fun _ => by simp⟩
  | _, _, _, .int i, r, _ => by obtain ⟨t, rfl⟩ := r; exact ⟨[], by simp only [pyS]; exact .int i t, fun _ => by simp⟩
  | _, _, _, .str x, r, _ => by obtain ⟨t, rfl⟩ := r; exact ⟨[], by simp only [pyS]; exact .str x t, fun _ => by simp⟩
  | _, _, _, .tup h ha, r, e => by
    cases r
    obtain ⟨its, rv, ⟨o, ho, hc, n, hd⟩, _⟩ := I.tuple h.sq
    obtain ⟨as, hr, hn⟩ := RepA.rds I ha rv (by simpa only [okS] using e)
    exact ⟨as, by simp only [pyS]; exact .tuple ho hc hd hr, hn⟩
  | _, _, _, .lst h ha, r, e => by
    cases r
    obtain ⟨its, rv, ⟨o, n, ho, hc, _, hd⟩, _⟩ := I.list (SqL.of h)
    obtain ⟨as, hr, hn⟩ := RepA.rds I ha rv (by simpa only [okS] using e)
    refine ⟨_, by simp only [pyS]; exact .list ho hc hd hr, fun z m => ?_⟩
    rcases List.mem_cons.mp m with q | m
    · exact notSys I z ho hc q
    · exact hn z m
  | _, _, _, .frl h ha, r, e => by
    cases r
    obtain ⟨its, rv, ⟨o, n, ho, hc, _, hd⟩, _⟩ := I.list h
    obtain ⟨as, hr, hn⟩ := RepA.rds I ha rv (by simpa only [okS] using e)
    refine ⟨_, by simp only [pyS]; exact .list ho hc hd hr, fun z m => ?_⟩
    rcases List.mem_cons.mp m with q | m
    · exact notSys I z ho hc q
    · exact hn z m
  | _, _, _, .dct (ks := ks) (xs := xs) (ds := ds) h hl ha, r, e => by
    cases r
    simp only [okS, Bool.and_eq_true, decide_eq_true_eq] at e
    obtain ⟨z, hS, vs, rk, m⟩ : (ks.zip xs).length ≤ sizeLine ∧ (_ == sysModules) = false ∧ ∃ vs, KV (ks.zip xs) vs ∧ s.heap.DictOf (mixKind X.prog X.w) _ vs := I.hok _ _ h
    obtain ⟨o, es, ep, ho, hx, hd, _, hp, _⟩ := m
    obtain ⟨g1, g2⟩ := keys_read (h := s.heap) ks hl hp rk
    obtain ⟨as, hr, hn⟩ := RepA.rds I ha g2 e.2.2
    have zl : (ks.map keyP).length = (pySs ds).length := by rw [List.length_map, pySs_length]; exact e.1
    refine ⟨_, by simp only [pyS]; exact .dict ho hx.1 hd (by rw [List.map_fst_zip (by omega)]; exact g1) (by rw [List.map_snd_zip (by omega)]; exact hr), fun zz mm => ?_⟩
    rcases List.mem_cons.mp (show sysModules ∈ _ :: ([] ++ as) from mm) with q | mm
    · rw [← q] at hS
      simp at hS
    · exact hn zz mm
  | _, _, _, .raw _, _, e => by simp [okS] at e
  | _, _, _, .h _, _, e => by simp [okS] at e
  | _, _, _, .exc0 _, _, e => by simp [okS] at e
  | _, _, _, .exc1 _ _ _, _, e => by simp [okS] at e
  | _, _, _, .fn _, _, e => by simp [okS] at e
theorem RepA.rds (I : Inv X pins σ H s) : ∀ {vs : List V} {ds : List D} {us : List Value}, RepA X.K H vs ds → Vals vs us → okSs ds = true → ∃ as, ReadsAll s.heap us (pySs ds) as ∧ (sysB X.K = true → sysModules ∉ as)
  | _, _, _, .nil, r, _ => by cases r; exact ⟨[], by simp only [pySs]; exact .nil, fun _ => by simp⟩
  | _, _, _, .cons h ha, r, e => by
    cases r with
    | cons r1 r2 =>
      simp only [okSs, Bool.and_eq_true] at e
      obtain ⟨as, g1, n1⟩ := Rep.rds I h r1 e.1
      obtain ⟨bs, g2, n2⟩ := RepA.rds I ha r2 e.2
      refine ⟨as ++ bs, by simp only [pySs]; exact .cons g1 g2, fun z m => ?_⟩
      rcases List.mem_append.mp m with m | m
      · exact n1 z m
      · exact n2 z m
end
end
structure Shw (n m : Nat) (d : D) : Prop where
  ok : okS d = true
  dp : dpS d ≤ n
  ln : lnS d ≤ m
def reprS (d : D) : Str := (pyS d).shown
def rRepr (X : Cx) : List V → Hp → VK → Prop := fun xs H Q => ∃ x d, xs = [x] ∧ Rep X.K H x d ∧ Shw 60 16777216 d ∧ (dcS d = true → sysB X.K = true) ∧ Q (.str (reprS d)) H
section
variable {X : Cx}
theorem call_repr {k : Nat} (hr : GRoom k X.A) : CallR X (.builtin "repr") (rRepr X) := by
  intro pins s σ H xs us Q I r h
  obtain ⟨x, d, rfl, hx, hs, hd, q⟩ := h
  obtain ⟨u, rfl, rx⟩ := vals1 r
  obtain ⟨as, hrd, hn⟩ := Rep.rds I hx rx hs.ok
  have hsh := pyS_showable d hs.ok
  have hln : (pyS d).shown.length ≤ sizeLine := Nat.le_trans (pyS_shown d) (Nat.le_trans hs.ln (by decide))
  have hdp := pyS_depth d
  have hdp2 := hs.dp
  have hu := hr.un
  unfold reprS at q
  generalize hg : pyS d = p at hrd hsh hln hdp q
  have hdd : p.hasDict = true → sysModules ∉ as := fun z => hn (hd (by rw [← pyS_dict, hg]; exact z))
  cases hrd with
  | none => exact PySem.P.repr_of_none ⟨.str _, H, I.tok _, ⟨_, rfl⟩, by simpa only [PyData.shown] using q⟩
  | bool b => exact PySem.P.repr_of_bool ⟨.str _, H, I.tok _, ⟨_, rfl⟩, by simpa only [PyData.shown] using q⟩
  | int i t => exact PySem.P.repr_of_int (by simpa [PyData.showable] using hsh) ⟨.str _, H, I.tok _, ⟨_, rfl⟩, by simpa only [PyData.shown] using q⟩
  | str y t => exact PySem.P.repr_of_str ⟨.str _, H, I.tok _, ⟨_, rfl⟩, by simpa only [PyData.shown] using q⟩ (by simpa only [PyData.shown] using hln)
  | list h1 h2 h3 h4 => exact repr_of_reads' (.list h1 h2 h3 h4) hsh hdd hr.gd (by omega) (fun _ _ e => e) (fun h' u tk hk => ⟨.str _, H, I.kept hk, ⟨_, rfl⟩, q⟩) hln
  | tuple h1 h2 h3 h4 => exact repr_of_reads' (.tuple h1 h2 h3 h4) hsh hdd hr.gd (by omega) (fun _ _ e => e) (fun h' u tk hk => ⟨.str _, H, I.kept hk, ⟨_, rfl⟩, q⟩) hln
  | dict h1 h2 h3 h4 h5 => exact repr_of_reads' (.dict h1 h2 h3 h4 h5) hsh hdd hr.gd (by omega) (fun _ _ e => e) (fun h' u tk hk => ⟨.str _, H, I.kept hk, ⟨_, rfl⟩, q⟩) hln
theorem RepB.rep {K : PySem.W.Frag} {F H : Hp} {y : V} {d : D} (s : Same F H) (h : RepB K F H y d) : Rep K H y d := by
  rcases h with h | ⟨a, xs, ds, rfl, rfl, h1, h2⟩
  · exact h.mono s
  · exact .lst h1 (h2.mono s)
def pRepr : PN := fun ds c => match ds with
  | [d] => Shw 60 16777216 d ∧ (dcS d = false ∧ c (.v (.str (reprS d))))
  | _ => False
def pReprD : PN := fun ds c => match ds with
  | [d] => Shw 60 16777216 d ∧ c (.v (.str (reprS d)))
  | _ => False
theorem pReprD_at {d : D} {c : RV → Prop} : pReprD [d] c = (Shw 60 16777216 d ∧ c (.v (.str (reprS d)))) := rfl
theorem n_reprD {k : Nat} (hr : GRoom k X.A) (hs : sysB X.K = true) : ON X (.builtin "repr") (rRepr X) pReprD := ⟨call_repr hr, fun F H xs ds c Q s r hp hQ => by
  unfold pReprD at hp
  split at hp
  · next d =>
    obtain ⟨y, rfl, r1⟩ := repBs1 r
    exact ⟨y, d, rfl, r1.rep s, hp.1, fun _ => hs, vres s (.str _) hp.2 hQ⟩
  · exact hp.elim⟩
end
section
variable {X : Cx} {W : WX} {pos : Pos}
def wDic1 (key : Key) (d : D) : WE := fun _ r om c => c (.v (.dct [key] [d])) r om
theorem de_dic1 {key : Key} {y : V} {d : D} {k v : Expr} {wk wv : WE} (hk : DE X W k (tC (kV key)) wk) (hv : DE X W v (tC y) wv) (hr : ∀ F, Rep X.K F y d) : DE X W (.Dict [some k] [v] pos) (tDisp [(tC (kV key), tC y)]) (wDic1 key d) :=
  ⟨pe_disp (pps_cons hk.p hv.p pps_nil) rfl rfl (by simp) (by simp), fun B F om H st r xq c Q R hx hQ hw p hp => by
    obtain ⟨s2, R2⟩ := R.alloc (o := .dK [(key, y)]) hp
    refine ⟨upd_same, [(key, y)], rfl, by simp, ?_⟩
    rw [L2.upd_upd]
    exact hQ (.v (.dct [key] [d])) _ _ _ _ _ R2 s2 trivial (Rep.dct (ks := [key]) (xs := [y]) upd_same rfl (.cons (hr _) .nil)) hw⟩
end
theorem Shw.up {n m n' m' : Nat} {d : D} (h : Shw n m d) (hn : n ≤ n') (hm : m ≤ m') : Shw n' m' d := ⟨h.ok, Nat.le_trans h.dp hn, Nat.le_trans h.ln hm⟩
theorem Shw.all {n m : Nat} : ∀ {ds : List D}, (∀ d ∈ ds, Shw n m d) → okSs ds = true ∧ dpSs ds ≤ n ∧ lnSs ds ≤ ds.length * (m + 2)
  | [], _ => ⟨rfl, Nat.zero_le _, Nat.zero_le _⟩
  | d :: ds, h => by
    obtain ⟨h1, h2, h3⟩ := Shw.all (ds := ds) fun e me => h e (List.mem_cons_of_mem _ me)
    have h0 := h d List.mem_cons_self
    refine ⟨by simp only [okSs, h0.ok, h1, Bool.and_self], ?_, ?_⟩
    · have := h0.dp; simp only [dpSs]; omega
    · have := h0.ln; simp only [lnSs, List.length_cons, Nat.succ_mul]; omega
theorem Shw.lst {n m : Nat} {ds : List D} (h : ∀ d ∈ ds, Shw n m d) : Shw (n + 1) (ds.length * (m + 2) + 3) (.lst ds) := by
  obtain ⟨h1, h2, h3⟩ := Shw.all h
  exact ⟨by simpa only [okS] using h1, by simp only [dpS]; omega, by simp only [lnS]; omega⟩
theorem Shw.tup {n m : Nat} {ds : List D} (h : ∀ d ∈ ds, Shw n m d) : Shw (n + 1) (ds.length * (m + 2) + 3) (.tup ds) := by
  obtain ⟨h1, h2, h3⟩ := Shw.all h
  exact ⟨by simpa only [okS] using h1, by simp only [dpS]; omega, by simp only [lnS]; omega⟩
theorem Shw.non : Shw 0 4 .non := ⟨rfl, Nat.le_refl _, Nat.le_refl _⟩
theorem Shw.bl (b : Bool) : Shw 0 5 (.bl b) := ⟨rfl, Nat.le_refl _, Nat.le_refl _⟩
theorem Shw.int {i : Int} {k : Nat} (hk : 0 < k) (hk2 : k ≤ 1920) (h : i.natAbs < 10 ^ k) (h2 : i.natAbs < 2 ^ 1920) : Shw 0 (k + 1) (.int i) := by
  refine ⟨?_, Nat.le_refl _, ?_⟩
  · simp only [okS, decide_eq_true_eq]
    by_cases h0 : i.natAbs = 0
    · rw [h0]; simp
    · exact (Nat.log2_lt h0).2 h2
  · simp only [lnS]
    rw [ofString_length]
    exact int_text_length_le10 hk h
end DL

set_option Elab.async false
set_option linter.all false
set_option maxRecDepth 100000
set_option maxHeartbeats 1000000
namespace DL
open PySem L2
section
variable {X : Cx} {W : WX} {pos : Pos}
structure DPs (X : Cx) (W : WX) (pos : Pos) (keys : List (Option Expr)) (values : List Expr) (kvs : List (Key × V)) (ds : List D) : Prop where
  p : PPs X pos keys values (kvs.map fun kv => (tC (kV kv.1), tC kv.2))
  ln : keys.length = kvs.length ∧ values.length = kvs.length
  all : keys.all (·.isSome) = true
  rp : ∀ F, RepA X.K F (kvs.map (·.2)) ds
def wDicN (ks : List Key) (ds : List D) : WE := fun _ r om c => c (.v (.dct ks ds)) r om
def getDc (o : D) (k : Key) : List Key → List D → D
  | j :: ks, d :: ds => if j = k then d else getDc o k ks ds
  | _, _ => o
def kyD : D → Option Key
  | .int i => some (.inl i)
  | .str s => some (.inr s)
  | _ => none
def dctD : D → Option (List Key × List D)
  | .dct ks ds => some (ks, ds)
  | _ => none
def wDcGet (wo : WE) (o : D) (we : WE) : WE := fun xq r om k => wo xq r om fun x r1 om1 => wd (datB r1 om1 x) fun dd => wd (dctD dd) fun p => we xq r1 om1 fun y r2 om2 => wd (datB r2 om2 y) fun e => wd (kyD e) fun key => k (.v (getDc o key p.1 p.2)) r2 om2
end
end DL

set_option Elab.async false
set_option linter.all false
set_option maxRecDepth 100000
namespace DL
open PySem L2
theorem nrfl {α : Sort _} {a b : α} (h : a = b) : a = b := h
theorem u_16 : type_of% @wOrd_q := by intros; apply nrfl; apply wOrd_q <;> assumption
theorem u_18 : type_of% @pNeL_at := by intros; apply nrfl; apply pNeL_at <;> assumption
theorem u_19 : type_of% @pEqL_at := by intros; apply nrfl; apply pEqL_at <;> assumption
theorem u_22 : type_of% @wSeq_e := by intros; apply nrfl; apply wSeq_e <;> assumption
theorem u_37 : type_of% @mRemD_at := by intros; apply nrfl; apply mRemD_at <;> assumption
theorem u_50 : type_of% @wIfS_e := by intros; apply nrfl; apply wIfS_e <;> assumption
theorem u_51 : type_of% @wAsg_e := by intros; apply nrfl; apply wAsg_e <;> assumption
theorem u_52 : type_of% @gN_e := by intros; apply nrfl; apply gN_e <;> assumption
theorem u_53 : type_of% @wRet_e := by intros; apply nrfl; apply wRet_e <;> assumption
theorem u_55 : type_of% @wDrop_e := by intros; apply nrfl; apply wDrop_e <;> assumption
theorem u_56 : type_of% @wNext_e := by intros; apply nrfl; apply wNext_e <;> assumption
theorem u_59 : type_of% @wVar_q := by intros; apply nrfl; apply wVar_q <;> assumption
theorem u_60 : type_of% @wBor_q := by intros; apply nrfl; apply wBor_q <;> assumption
theorem u_61 : type_of% @wMov_q := by intros; apply nrfl; apply wMov_q <;> assumption
theorem u_62 : type_of% @wC.eq_1 := by intros; apply nrfl; apply wC.eq_1 <;> assumption
theorem u_63 : type_of% @wOp.eq_1 := by intros; apply nrfl; apply wOp.eq_1 <;> assumption
theorem u_64 : type_of% @wUn.eq_1 := by intros; apply nrfl; apply wUn.eq_1 <;> assumption
theorem u_65 : type_of% @wCB.eq_1 := by intros; apply nrfl; apply wCB.eq_1 <;> assumption
theorem u_66 : type_of% @wCall_q := by intros; apply nrfl; apply wCall_q <;> assumption
theorem u_77 : type_of% @wTup.eq_1 := by intros; apply nrfl; apply wTup.eq_1 <;> assumption
theorem u_78 : type_of% @wLst.eq_1 := by intros; apply nrfl; apply wLst.eq_1 <;> assumption
theorem u_79 : type_of% @wCons.eq_1 := by intros; apply nrfl; apply wCons.eq_1 <;> assumption
theorem u_80 : type_of% @wNil.eq_1 := by intros; apply nrfl; apply wNil.eq_1 <;> assumption
theorem u_81 : type_of% @wTst.eq_1 := by intros; apply nrfl; apply wTst.eq_1 <;> assumption
theorem u_82 : type_of% @wTru.eq_1 := by intros; apply nrfl; apply wTru.eq_1 <;> assumption
theorem u_83 : type_of% @wAnd_q := by intros; apply nrfl; apply wAnd_q <;> assumption
theorem u_84 : type_of% @wOr_q := by intros; apply nrfl; apply wOr_q <;> assumption
theorem u_85 : type_of% @wNot.eq_1 := by intros; apply nrfl; apply wNot.eq_1 <;> assumption
theorem u_86 : type_of% @wAndV_q := by intros; apply nrfl; apply wAndV_q <;> assumption
theorem u_87 : type_of% @wOrV_q := by intros; apply nrfl; apply wOrV_q <;> assumption
theorem u_88 : type_of% @wNotV.eq_1 := by intros; apply nrfl; apply wNotV.eq_1 <;> assumption
theorem u_89 : type_of% @wChain_q := by intros; apply nrfl; apply wChain_q <;> assumption
theorem u_91 : type_of% @wFor_e := by intros; apply nrfl; apply wFor_e <;> assumption
theorem u_92 : type_of% @wiR1.eq_1 := by intros; apply nrfl; apply wiR1.eq_1 <;> assumption
theorem u_96 : type_of% @wYes.eq_1 := by intros; apply nrfl; apply wYes.eq_1 <;> assumption
theorem u_97 : type_of% @wLc_q := by intros; apply nrfl; apply wLc_q <;> assumption
theorem u_98 : type_of% @wMut.eq_1 := by intros; apply nrfl; apply wMut.eq_1 <;> assumption
theorem u_99 : type_of% @wMut0.eq_1 := by intros; apply nrfl; apply wMut0.eq_1 <;> assumption
theorem u_100 : type_of% @wMutE_q := by intros; apply nrfl; apply wMutE_q <;> assumption
theorem u_101 : type_of% @lstS_q := by intros; apply nrfl; apply lstS_q <;> assumption
theorem u_102 : type_of% @rdL_o := by intros; apply nrfl; apply rdL_o <;> assumption
theorem u_103 : type_of% @rdL_h := by intros; apply nrfl; apply rdL_h <;> assumption
theorem u_104 : type_of% @rdLh_l := by intros; apply nrfl; apply rdLh_l <;> assumption
theorem u_105 : type_of% @wSet_e := by intros; apply nrfl; apply wSet_e <;> assumption
theorem u_111 : type_of% @mApp_at := by intros; apply nrfl; apply mApp_at <;> assumption
theorem u_112 : type_of% @gT_t := by intros; apply nrfl; apply gT_t <;> assumption
theorem u_113 : type_of% @gsNil_e := by intros; apply nrfl; apply gsNil_e <;> assumption
theorem u_114 : type_of% @gsCons_c := by intros; apply nrfl; apply gsCons_c <;> assumption
theorem u_115 : type_of% @deref_non := by intros; apply nrfl; apply deref_non <;> assumption
theorem u_116 : type_of% @deref_bl := by intros; apply nrfl; apply deref_bl <;> assumption
theorem u_117 : type_of% @deref_int := by intros; apply nrfl; apply deref_int <;> assumption
theorem u_118 : type_of% @deref_str := by intros; apply nrfl; apply deref_str <;> assumption
theorem u_119 : type_of% @deref_tup := by intros; apply nrfl; apply deref_tup <;> assumption
theorem u_120 : type_of% @deref_lst := by intros; apply nrfl; apply deref_lst <;> assumption
theorem u_121 : type_of% @deref_frl := by intros; apply nrfl; apply deref_frl <;> assumption
theorem u_122 : type_of% @deref_dct := by intros; apply nrfl; apply deref_dct <;> assumption
theorem u_123 : type_of% @deref_raw := by intros; apply nrfl; apply deref_raw <;> assumption
theorem u_127 : type_of% @datB_v := by intros; apply nrfl; apply datB_v <;> assumption
theorem u_128 : type_of% @datB_o := by intros; apply nrfl; apply datB_o <;> assumption
theorem u_129 : type_of% @datB_b := by intros; apply nrfl; apply datB_b <;> assumption
theorem u_130 : type_of% @datE_v := by intros; apply nrfl; apply datE_v <;> assumption
theorem u_132 : type_of% @datsE_nil := by intros; apply nrfl; apply datsE_nil <;> assumption
theorem u_133 : type_of% @datsE_v := by intros; apply nrfl; apply datsE_v <;> assumption
theorem u_134 : type_of% @datsB_nil := by intros; apply nrfl; apply datsB_nil <;> assumption
theorem u_135 : type_of% @datsB_cons := by intros; apply nrfl; apply datsB_cons <;> assumption
theorem u_136 : type_of% @fz_v := by intros; apply nrfl; apply fz_v <;> assumption
theorem u_137 : type_of% @fz_o := by intros; apply nrfl; apply fz_o <;> assumption
theorem u_138 : type_of% @fz_b := by intros; apply nrfl; apply fz_b <;> assumption
theorem u_139 : type_of% @boolD_bl := by intros; apply nrfl; apply boolD_bl <;> assumption
theorem u_140 : type_of% @truD_bl := by intros; apply nrfl; apply truD_bl <;> assumption
theorem u_145 : type_of% @intD_int := by intros; apply nrfl; apply intD_int <;> assumption
theorem u_146 : type_of% @int1_int := by intros; apply nrfl; apply int1_int <;> assumption
theorem u_148 : type_of% @lenD_lst := by intros; apply nrfl; apply lenD_lst <;> assumption
theorem u_149 : type_of% @lenD_frl := by intros; apply nrfl; apply lenD_frl <;> assumption
theorem u_150 : type_of% @lenD_tup := by intros; apply nrfl; apply lenD_tup <;> assumption
theorem u_151 : type_of% @seqD_lst := by intros; apply nrfl; apply seqD_lst <;> assumption
theorem u_153 : type_of% @seqD_tup := by intros; apply nrfl; apply seqD_tup <;> assumption
theorem u_154 : type_of% @tyD_non := by intros; apply nrfl; apply tyD_non <;> assumption
theorem u_155 : type_of% @tyD_bl := by intros; apply nrfl; apply tyD_bl <;> assumption
theorem u_156 : type_of% @tyD_int := by intros; apply nrfl; apply tyD_int <;> assumption
theorem u_157 : type_of% @tyD_str := by intros; apply nrfl; apply tyD_str <;> assumption
theorem u_158 : type_of% @tyD_tup := by intros; apply nrfl; apply tyD_tup <;> assumption
theorem u_159 : type_of% @tyD_lst := by intros; apply nrfl; apply tyD_lst <;> assumption
theorem u_160 : type_of% @tyD_frl := by intros; apply nrfl; apply tyD_frl <;> assumption
theorem u_161 : type_of% @tyD_dct := by intros; apply nrfl; apply tyD_dct <;> assumption
theorem u_162 : type_of% @pIsi_at := by intros; apply nrfl; apply pIsi_at <;> assumption
theorem u_163 : type_of% @isi_int := by intros; apply nrfl; apply isi_int <;> assumption
theorem u_164 : type_of% @isi_bool := by intros; apply nrfl; apply isi_bool <;> assumption
theorem u_166 : type_of% @isi_list := by intros; apply nrfl; apply isi_list <;> assumption
theorem u_167 : type_of% @isi_tuple := by intros; apply nrfl; apply isi_tuple <;> assumption
theorem u_169 : type_of% @pLen_at := by intros; apply nrfl; apply pLen_at <;> assumption
theorem u_170 : type_of% @pList_at := by intros; apply nrfl; apply pList_at <;> assumption
theorem u_171 : type_of% @pTuple_at := by intros; apply nrfl; apply pTuple_at <;> assumption
theorem u_173 : type_of% @pInt_bl := by intros; apply nrfl; apply pInt_bl <;> assumption
theorem u_176 : type_of% @pIx_l := by intros; apply nrfl; apply pIx_l <;> assumption
theorem u_177 : type_of% @pIx_f := by intros; apply nrfl; apply pIx_f <;> assumption
theorem u_178 : type_of% @pIx_t := by intros; apply nrfl; apply pIx_t <;> assumption
theorem u_179 : type_of% @ixK_0 := by intros; apply nrfl; apply ixK_0 <;> assumption
theorem u_180 : type_of% @ixK_1 := by intros; apply nrfl; apply ixK_1 <;> assumption
theorem u_181 : type_of% @ixK_2 := by intros; apply nrfl; apply ixK_2 <;> assumption
theorem u_182 : type_of% @ixK_3 := by intros; apply nrfl; apply ixK_3 <;> assumption
theorem u_186 : type_of% @List.length_map := by intros; apply nrfl; apply List.length_map <;> assumption
theorem u_189 : type_of% @ixN_1 := by intros; apply nrfl; apply ixN_1 <;> assumption
theorem u_194 : type_of% @noB_v := by intros; apply nrfl; apply noB_v <;> assumption
theorem u_195 : type_of% @noB_o := by intros; apply nrfl; apply noB_o <;> assumption
theorem u_198 : type_of% @startE.eq_1 := by intros; apply nrfl; apply startE.eq_1 <;> assumption
theorem u_199 : type_of% @pSub_i := by intros; apply nrfl; apply pSub_i <;> assumption
theorem u_200 : type_of% @pDiv_i := by intros; apply nrfl; apply pDiv_i <;> assumption
theorem u_201 : type_of% @pMod_i := by intros; apply nrfl; apply pMod_i <;> assumption
theorem u_202 : type_of% @pPow_i := by intros; apply nrfl; apply pPow_i <;> assumption
theorem u_206 : type_of% @pLtA_i := by intros; apply nrfl; apply pLtA_i <;> assumption
theorem u_207 : type_of% @pGtA_i := by intros; apply nrfl; apply pGtA_i <;> assumption
theorem u_208 : type_of% @pLeA_i := by intros; apply nrfl; apply pLeA_i <;> assumption
theorem u_209 : type_of% @pGeA_i := by intros; apply nrfl; apply pGeA_i <;> assumption
theorem u_210 : type_of% @pLtA_tup := by intros; apply nrfl; apply pLtA_tup <;> assumption
theorem u_218 : type_of% @pAdd_int := by intros; apply nrfl; apply pAdd_int <;> assumption
theorem u_219 : type_of% @pAdd_lst := by intros; apply nrfl; apply pAdd_lst <;> assumption
theorem u_220 : type_of% @pAdd_tup := by intros; apply nrfl; apply pAdd_tup <;> assumption
theorem u_222 : type_of% @pMul_int := by intros; apply nrfl; apply pMul_int <;> assumption
theorem u_223 : type_of% @pMul_lst := by intros; apply nrfl; apply pMul_lst <;> assumption
theorem u_225 : type_of% @pEq_int := by intros; apply nrfl; apply pEq_int <;> assumption
theorem u_226 : type_of% @pNe_int := by intros; apply nrfl; apply pNe_int <;> assumption
theorem u_228 : type_of% @pNe_str := by intros; apply nrfl; apply pNe_str <;> assumption
theorem u_229 : type_of% @Option.map_some := by intros; apply nrfl; apply Option.map_some <;> assumption
theorem u_231 : type_of% @Option.bind_some := by intros; apply nrfl; apply Option.bind_some <;> assumption
theorem u_233 : type_of% @List.set_cons_zero := by intros; apply nrfl; apply List.set_cons_zero <;> assumption
theorem u_234 : type_of% @List.set_cons_succ := by intros; apply nrfl; apply List.set_cons_succ <;> assumption
theorem u_235 : type_of% @List.getElem?_cons_zero := by intros; apply nrfl; apply List.getElem?_cons_zero <;> assumption
theorem u_236 : type_of% @List.getElem?_cons_succ := by intros; apply nrfl; apply List.getElem?_cons_succ <;> assumption
theorem u_240 : type_of% @List.length_cons := by intros; apply nrfl; apply List.length_cons <;> assumption
theorem u_241 : type_of% @List.length_nil := by intros; apply nrfl; apply List.length_nil <;> assumption
theorem u_243 : type_of% @List.append_nil := by intros; apply nrfl; apply List.append_nil <;> assumption
theorem u_244 : type_of% @List.nil_append := by intros; apply nrfl; apply List.nil_append <;> assumption
theorem u_245 : type_of% @List.cons_append := by intros; apply nrfl; apply List.cons_append <;> assumption
theorem u_246 : type_of% @List.replicate_succ := by intros; apply nrfl; apply List.replicate_succ <;> assumption
theorem u_247 : type_of% @List.replicate_zero := by intros; apply nrfl; apply List.replicate_zero <;> assumption
theorem u_248 : type_of% @Nat.lt_add_one := @Nat.lt_add_one
theorem u_250 : type_of% @Nat.zero_add := by intros; apply nrfl; apply Nat.zero_add <;> assumption
theorem u_251 : type_of% @true_and := by intros; apply nrfl; apply true_and <;> assumption
theorem u_253 : type_of% @if_true := by intros; apply nrfl; apply if_true <;> assumption
theorem u_254 : type_of% @if_false := by intros; apply nrfl; apply if_false <;> assumption
theorem u_255 : type_of% @Bool.not_true := by intros; apply nrfl; apply Bool.not_true <;> assumption
theorem u_256 : type_of% @Bool.not_false := by intros; apply nrfl; apply Bool.not_false <;> assumption
theorem u_257 : type_of% @Bool.false_eq_true := by intros; apply nrfl; apply Bool.false_eq_true <;> assumption
theorem u_264 : type_of% @Bool.or_false := by intros; apply nrfl; apply Bool.or_false <;> assumption
theorem u_265 : type_of% @Bool.or_true := by intros; apply nrfl; apply Bool.or_true <;> assumption
theorem u_268 : type_of% @decide_true := by intros; apply nrfl; apply decide_true <;> assumption
theorem u_269 : type_of% @decide_false := by intros; apply nrfl; apply decide_false <;> assumption
theorem u_270 : type_of% @wipeE.eq_1 := by intros; apply nrfl; apply wipeE.eq_1 <;> assumption
theorem u_271 : type_of% @wipeE.eq_2 := by intros; apply nrfl; apply wipeE.eq_2 <;> assumption
theorem u_272 : type_of% @wSl.eq_1 := by intros; apply nrfl; apply wSl.eq_1 <;> assumption
theorem u_273 : type_of% @wON.eq_1 := by intros; apply nrfl; apply wON.eq_1 <;> assumption
theorem u_274 : type_of% @wOS.eq_1 := by intros; apply nrfl; apply wOS.eq_1 <;> assumption
theorem u_275 : type_of% @pSl_lst := by intros; apply nrfl; apply pSl_lst <;> assumption
theorem u_276 : type_of% @pSl_frl := by intros; apply nrfl; apply pSl_frl <;> assumption
theorem u_277 : type_of% @pSl_tup := by intros; apply nrfl; apply pSl_tup <;> assumption
theorem u_280 : type_of% @mPopAt_at := by intros; apply nrfl; apply mPopAt_at <;> assumption
theorem u_282 : type_of% @pNeg_int := by intros; apply nrfl; apply pNeg_int <;> assumption
theorem u_283 : type_of% @pAll_at := by intros; apply nrfl; apply pAll_at <;> assumption
theorem u_288 : type_of% @lstO_lst := by intros; apply nrfl; apply lstO_lst <;> assumption
theorem u_292 : type_of% @pSorted_at := by intros; apply nrfl; apply pSorted_at <;> assumption
theorem u_293 : type_of% @pEq_lst := by intros; apply nrfl; apply pEq_lst <;> assumption
theorem u_294 : type_of% @pNe_lst := by intros; apply nrfl; apply pNe_lst <;> assumption
theorem u_319 : type_of% @pNotIn.eq_1 := by intros; apply nrfl; apply pNotIn.eq_1 <;> assumption
theorem u_321 : type_of% @wiA_q := by intros; apply nrfl; apply wiA_q <;> assumption
theorem u_322 : type_of% @wiZipA.eq_1 := by intros; apply nrfl; apply wiZipA.eq_1 <;> assumption
theorem u_324 : type_of% @zipA_l := by intros; apply nrfl; apply zipA_l <;> assumption
theorem u_328 : type_of% @wRaise_e := by intros; apply nrfl; apply wRaise_e <;> assumption
theorem u_331 : type_of% @wTryAs_e := by intros; apply nrfl; apply wTryAs_e <;> assumption
theorem u_333 : type_of% @pNe_blb := by intros; apply nrfl; apply pNe_blb <;> assumption
theorem u_334 : type_of% @wDic0.eq_1 := by intros; apply nrfl; apply wDic0.eq_1 <;> assumption
theorem u_335 : type_of% @wFz.eq_1 := by intros; apply nrfl; apply wFz.eq_1 <;> assumption
theorem u_337 : type_of% @exD.eq_1 := by intros; apply nrfl; apply exD.eq_1 <;> assumption
theorem u_338 : type_of% @pIsX_f := by intros; apply nrfl; apply pIsX_f <;> assumption
theorem u_339 : type_of% @pIsX_t := by intros; apply nrfl; apply pIsX_t <;> assumption
theorem u_340 : type_of% @pIsXT_at := by intros; apply nrfl; apply pIsXT_at <;> assumption
theorem u_341 : type_of% @clsTab_f := by intros; apply nrfl; apply clsTab_f <;> assumption
theorem u_343 : type_of% @anyTab_nil := by intros; apply nrfl; apply anyTab_nil <;> assumption
theorem u_344 : type_of% @anyTab_cons := by intros; apply nrfl; apply anyTab_cons <;> assumption
theorem u_346 : type_of% @orT_f := by intros; apply nrfl; apply orT_f <;> assumption
theorem u_347 : type_of% @deref_exc := by intros; apply nrfl; apply deref_exc <;> assumption
theorem u_348 : type_of% @deref_fn := by intros; apply nrfl; apply deref_fn <;> assumption
theorem u_351 : type_of% @xTry_e := by intros; apply nrfl; apply xTry_e <;> assumption
theorem u_363 : type_of% @pReprD_at := by intros; apply nrfl; apply pReprD_at <;> assumption
theorem u_364 : type_of% @wDic1.eq_1 := by intros; apply nrfl; apply wDic1.eq_1 <;> assumption
theorem u_371 : type_of% @stK_c := by intros; apply nrfl; apply stK_c <;> assumption
theorem u_372 : type_of% @plainD_int := by intros; apply nrfl; apply plainD_int <;> assumption
theorem u_377 : type_of% @plainD_lst := by intros; apply nrfl; apply plainD_lst <;> assumption
theorem u_384 : type_of% @isNum_i := by intros; apply nrfl; apply isNum_i <;> assumption
theorem u_411 : type_of% @pIsB_f := by intros; apply nrfl; apply pIsB_f <;> assumption
theorem u_419 : type_of% @wCallL_q := by intros; apply nrfl; apply wCallL_q <;> assumption
theorem u_421 : type_of% @lf_bl := by intros; apply nrfl; apply lf_bl <;> assumption
theorem u_431 : type_of% @lfR_v := by intros; apply nrfl; apply lfR_v <;> assumption
theorem u_436 : type_of% @wHL_q := by intros; apply nrfl; apply wHL_q <;> assumption
theorem u_437 : type_of% @rdHL_o := by intros; apply nrfl; apply rdHL_o <;> assumption
theorem u_441 : type_of% @mIns_at := by intros; apply nrfl; apply mIns_at <;> assumption
theorem u_444 : type_of% @mRvs_at := by intros; apply nrfl; apply mRvs_at <;> assumption
theorem u_457 : type_of% @wUnpH_e := by intros; apply nrfl; apply wUnpH_e <;> assumption
theorem u_467 : type_of% @eqD_rL := by intros; apply nrfl; apply eqD_rL <;> assumption
theorem u_470 : type_of% @eqD_rL0 := by intros; apply nrfl; apply eqD_rL0 <;> assumption
theorem u_471 : type_of% @eqD_00 := by intros; apply nrfl; apply eqD_00 <;> assumption
theorem u_475 : type_of% @okE_rw := by intros; apply nrfl; apply okE_rw <;> assumption
theorem u_476 : type_of% @okE_rL := by intros; apply nrfl; apply okE_rL <;> assumption
theorem u_478 : type_of% @okE_0L := by intros; apply nrfl; apply okE_0L <;> assumption
theorem u_486 : type_of% @rows_app := by intros; apply nrfl; apply rows_app <;> assumption
theorem u_504 : type_of% @pNotInA_l := by intros; apply nrfl; apply pNotInA_l <;> assumption
theorem u_540 : type_of% @pMulT_tup := by intros; apply nrfl; apply pMulT_tup <;> assumption
theorem u_567 : type_of% @wd_q := by intros; apply nrfl; apply wd_q <;> assumption
theorem u_568 : type_of% @wdK_some := by intros; apply nrfl; apply wdK_some <;> assumption
theorem u_570 : type_of% @cnd_t := by intros; apply nrfl; apply cnd_t <;> assumption
theorem u_571 : type_of% @cnd_f := by intros; apply nrfl; apply cnd_f <;> assumption
theorem u_573 : type_of% @cnd_not := by intros; apply nrfl; apply cnd_not <;> assumption
theorem u_574 : type_of% @rdB_v := by intros; apply nrfl; apply rdB_v <;> assumption
theorem u_575 : type_of% @rdB_o := by intros; apply nrfl; apply rdB_o <;> assumption
theorem u_576 : type_of% @rdV_v := by intros; apply nrfl; apply rdV_v <;> assumption
theorem u_577 : type_of% @rdV_o := by intros; apply nrfl; apply rdV_o <;> assumption
theorem u_578 : type_of% @rdM_v := by intros; apply nrfl; apply rdM_v <;> assumption
theorem u_579 : type_of% @rdM_o := by intros; apply nrfl; apply rdM_o <;> assumption
theorem u_580 : type_of% @rdE_o := by intros; apply nrfl; apply rdE_o <;> assumption
theorem u_581 : type_of% @rdE_h := by intros; apply nrfl; apply rdE_h <;> assumption
theorem u_582 : type_of% @rdEh_l := by intros; apply nrfl; apply rdEh_l <;> assumption
theorem u_583 : type_of% @rdI_l := by intros; apply nrfl; apply rdI_l <;> assumption
theorem u_584 : type_of% @rdI_f := by intros; apply nrfl; apply rdI_f <;> assumption
theorem u_585 : type_of% @rdI_t := by intros; apply nrfl; apply rdI_t <;> assumption
theorem u_586 : type_of% @deref_row := by intros; apply nrfl; apply deref_row <;> assumption
theorem u_587 : type_of% @lenD_row := by intros; apply nrfl; apply lenD_row <;> assumption
theorem u_590 : type_of% @pIx_row := by intros; apply nrfl; apply pIx_row <;> assumption
theorem u_592 : type_of% @len_rows := by intros; apply nrfl; apply len_rows <;> assumption
end DL

set_option Elab.async false
set_option linter.all false
set_option maxRecDepth 100000
set_option maxHeartbeats 4000000
namespace K02
open PySem L2 DL
local macro_rules | `(tactic| fail "ra") => `(tactic| with_reducible assumption)
theorem ca_guard {df : DF} {ds : List D} {om : Om} {k : RV → Om → Prop} {xk : Exn → Om → Prop} {t : Tg (df, k, xk)} (h : callK df ds om k xk t) : callK df ds om k xk t := h
local macro_rules | `(tactic| fail "cl") => `(tactic| ((repeat' apply And.intro) <;> first | assumption | omega | decide | (exact Or.inl ⟨by omega, by omega⟩) | (exact Or.inr (Or.inl ⟨by omega, by omega⟩)) | skip))
local macro_rules | `(tactic| fail "cj") => `(tactic| repeat ((with_reducible apply And.intro); · (solve | (repeat' (with_reducible apply And.intro)) <;> first | omega | assumption | decide | (exact Or.inl ⟨by omega, by omega⟩) | (exact Or.inr (Or.inl ⟨by omega, by omega⟩)))))
theorem sc_is_number : FnScope ["thing"] ["thing"] (defScope s_is_number) := ⟨rfl, rfl, rfl, by decide +kernel, rfl, by decide +kernel, by decide +kernel⟩
theorem sc_is_row : FnScope ["thing", "number"] ["thing"] (defScope s_is_row) := ⟨rfl, rfl, rfl, by decide +kernel, rfl, by decide +kernel, by decide +kernel⟩
theorem sc_is_rows : FnScope ["thing", "row"] ["thing"] (defScope s_is_rows) := ⟨rfl, rfl, rfl, by decide +kernel, rfl, by decide +kernel, by decide +kernel⟩
theorem sc_look : FnScope ["rows", "column", "width"] ["rows", "column"] (defScope s_look) := ⟨rfl, rfl, rfl, by decide +kernel, rfl, by decide +kernel, by decide +kernel⟩
theorem sc_less : FnScope ["one", "other", "column"] ["one", "other", "column"] (defScope s_less) := ⟨rfl, rfl, rfl, by decide +kernel, rfl, by decide +kernel, by decide +kernel⟩
theorem sc_ordered : FnScope ["rows", "column"] ["rows", "column"] (defScope s_ordered) := ⟨rfl, rfl, rfl, by decide +kernel, rfl, by decide +kernel, by decide +kernel⟩
theorem sc_is_ordered : FnScope ["rows", "column", "one", "other"] ["rows", "column"] (defScope s_is_ordered) := ⟨rfl, rfl, rfl, by decide +kernel, rfl, by decide +kernel, by decide +kernel⟩
theorem sc_same_rows : FnScope ["one", "other"] ["one", "other"] (defScope s_same_rows) := ⟨rfl, rfl, rfl, by decide +kernel, rfl, by decide +kernel, by decide +kernel⟩
theorem sc_law_deck : FnScope ["_law_script", "_law_cells", "_law_cell"] ["_law_script"] (defScope s_law_deck) := ⟨rfl, rfl, rfl, by decide +kernel, rfl, by decide +kernel, by decide +kernel⟩
theorem sc_law_next : FnScope ["_law_deck_here", "_law_many", "_law_cells", "_law_count", "_law_rests", "_law_place", "_law_piece", "_law_mixed"] ["_law_deck_here", "_law_many"] (defScope s_law_next) := ⟨rfl, rfl, rfl, by decide +kernel, rfl, by decide +kernel, by decide +kernel⟩
theorem sc_law_whole : FnScope ["_law_thing"] ["_law_thing"] (defScope s_law_whole) := ⟨rfl, rfl, rfl, by decide +kernel, rfl, by decide +kernel, by decide +kernel⟩
theorem sc_law_number : FnScope ["_law_deck_here", "_law_way", "_law_far"] ["_law_deck_here"] (defScope s_law_number) := ⟨rfl, rfl, rfl, by decide +kernel, rfl, by decide +kernel, by decide +kernel⟩
theorem sc_law_rows : FnScope ["_law_deck_here", "_law_width", "_law_few", "_law_rows_here", "_law_k", "_law_part"] ["_law_deck_here", "_law_width"] (defScope s_law_rows) := ⟨rfl, rfl, rfl, by decide +kernel, rfl, by decide +kernel, by decide +kernel⟩
theorem sc_law_first : FnScope ["_law_one", "_law_other_here", "_law_column", "_law_at"] ["_law_one", "_law_other_here", "_law_column"] (defScope s_law_first) := ⟨rfl, rfl, rfl, by decide +kernel, rfl, by decide +kernel, by decide +kernel⟩
theorem sc_law_in_order : FnScope ["_law_rows_here", "_law_column", "_law_found", "_law_row", "_law_at"] ["_law_rows_here", "_law_column"] (defScope s_law_in_order) := ⟨rfl, rfl, rfl, by decide +kernel, rfl, by decide +kernel, by decide +kernel⟩
theorem sc_law_same : FnScope ["_law_one", "_law_other_here", "_law_left", "_law_row"] ["_law_one", "_law_other_here"] (defScope s_law_same) := ⟨rfl, rfl, rfl, by decide +kernel, rfl, by decide +kernel, by decide +kernel⟩
theorem sc_law_alike : FnScope ["_law_found", "_law_due", "_law_row", "_law_number_here"] ["_law_found", "_law_due"] (defScope s_law_alike) := ⟨rfl, rfl, rfl, by decide +kernel, rfl, by decide +kernel, by decide +kernel⟩
theorem sc_law_other : FnScope ["_law_deck_here", "_law_rows_here", "_law_left", "_law_found", "_law_k", "_law_way", "_law_at", "_law_changed", "_law_middle"] ["_law_deck_here", "_law_rows_here"] (defScope s_law_other) := ⟨rfl, rfl, rfl, by decide +kernel, rfl, by decide +kernel, by decide +kernel⟩
theorem sc_law_right : FnScope ["_law_rows_here", "_law_column", "_law_other_here", "_law_handed", "_law_due", "_law_found", "_law_told", "_law_one", "_law_same_here"] ["_law_rows_here", "_law_column", "_law_other_here"] (defScope s_law_right) := ⟨rfl, rfl, rfl, by decide +kernel, rfl, by decide +kernel, by decide +kernel⟩
theorem sc_law_neighbours : FnScope ["_law_rows_here", "_law_column", "_law_at", "_law_pair", "_law_found"] ["_law_rows_here", "_law_column"] (defScope s_law_neighbours) := ⟨rfl, rfl, rfl, by decide +kernel, rfl, by decide +kernel, by decide +kernel⟩
theorem sc_law_no_rows : FnScope ["_law_deck_here", "_law_rows_here", "_law_width", "_law_at", "_law_row", "_law_k", "_law_part", "_law_some"] ["_law_deck_here", "_law_rows_here", "_law_width"] (defScope s_law_no_rows) := ⟨rfl, rfl, rfl, by decide +kernel, rfl, by decide +kernel, by decide +kernel⟩
theorem sc_law_no_column : FnScope ["_law_deck_here", "_law_rows_here", "_law_width", "_law_wide", "_law_far"] ["_law_deck_here", "_law_rows_here", "_law_width"] (defScope s_law_no_column) := ⟨rfl, rfl, rfl, by decide +kernel, rfl, by decide +kernel, by decide +kernel⟩
theorem sc_law_refusal : FnScope ["_law_way", "_law_rows_here", "_law_column", "_law_kinds", "error", "_law_some"] ["_law_way", "_law_rows_here", "_law_column"] (defScope s_law_refusal) := ⟨rfl, rfl, rfl, by decide +kernel, rfl, by decide +kernel, by decide +kernel⟩
theorem sc_law_refused : FnScope ["_law_deck_here", "_law_rows_here", "_law_width", "_law_column", "_law_bad", "_law_no", "_law_held", "_law_way"] ["_law_deck_here", "_law_rows_here", "_law_width", "_law_column"] (defScope s_law_refused) := ⟨rfl, rfl, rfl, by decide +kernel, rfl, by decide +kernel, by decide +kernel⟩
theorem sc_law : FnScope ["_law_script", "_law_deck_here", "_law_turn", "_law_width", "_law_rows_here", "_law_part", "_law_k", "_law_column"] ["_law_script"] (defScope s_law) := ⟨rfl, rfl, rfl, by decide +kernel, rfl, by decide +kernel, by decide +kernel⟩
theorem tab_NoRows_NoRows : XSd.tab "NoRows" (.fn "NoRows") = some true := by decide +kernel
theorem tab_NoRows_NoColumn : XSd.tab "NoRows" (.fn "NoColumn") = some false := by decide +kernel
theorem tab_NoRows_NoTable : XSd.tab "NoRows" (.fn "NoTable") = some false := by decide +kernel
theorem tab_NoRows_NoQuery : XSd.tab "NoRows" (.fn "NoQuery") = some false := by decide +kernel
theorem tab_NoRows_TooMany : XSd.tab "NoRows" (.fn "TooMany") = some false := by decide +kernel
theorem tab_NoRows_NoCount : XSd.tab "NoRows" (.fn "NoCount") = some false := by decide +kernel
theorem tab_NoRows_NotOrdered : XSd.tab "NoRows" (.fn "NotOrdered") = some false := by decide +kernel
theorem tab_NoRows_ValueError : XSd.tab "NoRows" (.raw (.ty "ValueError")) = some true := by decide +kernel
theorem sub_SpillError_NoRows : XSd.sub "SpillError" "NoRows" = some true := by decide +kernel
theorem tab_NoColumn_NoRows : XSd.tab "NoColumn" (.fn "NoRows") = some false := by decide +kernel
theorem tab_NoColumn_NoColumn : XSd.tab "NoColumn" (.fn "NoColumn") = some true := by decide +kernel
theorem tab_NoColumn_NoTable : XSd.tab "NoColumn" (.fn "NoTable") = some false := by decide +kernel
theorem tab_NoColumn_NoQuery : XSd.tab "NoColumn" (.fn "NoQuery") = some false := by decide +kernel
theorem tab_NoColumn_TooMany : XSd.tab "NoColumn" (.fn "TooMany") = some false := by decide +kernel
theorem tab_NoColumn_NoCount : XSd.tab "NoColumn" (.fn "NoCount") = some false := by decide +kernel
theorem tab_NoColumn_NotOrdered : XSd.tab "NoColumn" (.fn "NotOrdered") = some false := by decide +kernel
theorem tab_NoColumn_ValueError : XSd.tab "NoColumn" (.raw (.ty "ValueError")) = some true := by decide +kernel
theorem sub_SpillError_NoColumn : XSd.sub "SpillError" "NoColumn" = some true := by decide +kernel
local macro_rules | `(tactic| fail "ca") => `(tactic| fail)
local macro_rules | `(tactic| fail "le") => `(tactic| first | omega | (simp only [List.length_map, List.length_cons, List.length_nil, List.length_append, rng_len, len_rows, List.length_range, List.length_replicate, lists_len]; omega) | (simp only [List.length_map, List.length_cons, List.length_nil, List.length_append, rng_len, len_rows, List.length_replicate, cutD, List.length_take, List.length_drop]; omega))
local macro_rules | `(tactic| fail "si") => `(tactic| first | (with_reducible assumption) | (with_reducible exact trivial) | omega | (with_reducible rfl) | (exact sz_le (by fail "le")) | (exact Or.inl ⟨by omega, by omega⟩) | (exact Or.inr (Or.inl ⟨by omega, by omega⟩)))
local macro_rules | `(tactic| fail "ix") => `(tactic| first | (with_reducible refine ixK_ints (by omega) (by omega) ?_) | (with_reducible refine ixK_rows (by omega) (by omega) ?_) | (with_reducible refine ixK_lists (by omega) (by omega) ?_) | (with_reducible refine ixK_lastI (by omega) ?_) | (with_reducible refine ixN_K (by omega) (by omega) ?_))
local macro_rules | `(tactic| fail "s1") => `(tactic| first | (with_reducible assumption) | (with_reducible intro _) | (with_reducible apply And.intro) | fail "ca" | fail "u1" | fail "ix" | (with_reducible refine rdDh_of (by fail "ra") ?_) | (with_reducible refine rdRh_of (by fail "ra") ?_) | (with_reducible refine rwK_row (by fail "ra") ?_) | (with_reducible refine cnd_T (by fail "ra") ?_) | (with_reducible refine cnd_F (by fail "ra") ?_) | (with_reducible refine cnd_yes (by omega) ?_) | (with_reducible refine cnd_no (by omega) ?_) | (with_reducible refine cnd_dec ?_ ?_) | (with_reducible refine cnd_of ?_ ?_) | fail "si" | fail)
local macro_rules | `(tactic| fail "go") => `(tactic| repeat' (first | (with_reducible assumption) | (with_reducible intro _) | (with_reducible apply And.intro) | fail "ca" | fail "d1"  | fail "ix" | (with_reducible refine rdDh_of (by fail "ra") ?_) | (with_reducible refine rdRh_of (by fail "ra") ?_) | (with_reducible refine rwK_row (by fail "ra") ?_) | (with_reducible refine cnd_T (by fail "ra") ?_) | (with_reducible refine cnd_F (by fail "ra") ?_) | (with_reducible refine cnd_yes (by omega) ?_) | (with_reducible refine cnd_no (by omega) ?_)  | fail "si" | fail))
local macro_rules | `(tactic| fail "gs") => `(tactic| repeat' (first | (with_reducible assumption) | (with_reducible intro _) | (with_reducible apply And.intro) | fail "ca" | fail "d1"  | fail "ix" | (with_reducible refine rdDh_of (by fail "ra") ?_) | (with_reducible refine rdRh_of (by fail "ra") ?_) | (with_reducible refine rwK_row (by fail "ra") ?_) | (with_reducible refine cnd_T (by fail "ra") ?_) | (with_reducible refine cnd_F (by fail "ra") ?_) | (with_reducible refine cnd_yes (by omega) ?_) | (with_reducible refine cnd_no (by omega) ?_) | (with_reducible refine cnd_dec ?_ ?_) | (with_reducible refine cnd_of ?_ ?_) | fail "si" | fail))
local macro_rules | `(tactic| fail "gu") => `(tactic| repeat' (first | (with_reducible assumption) | (with_reducible intro _) | (with_reducible apply And.intro) | fail "ca" | fail "u1"  | fail "ix" | (with_reducible refine rdDh_of (by fail "ra") ?_) | (with_reducible refine rdRh_of (by fail "ra") ?_) | (with_reducible refine rwK_row (by fail "ra") ?_) | (with_reducible refine cnd_T (by fail "ra") ?_) | (with_reducible refine cnd_F (by fail "ra") ?_) | (with_reducible refine cnd_yes (by omega) ?_) | (with_reducible refine cnd_no (by omega) ?_) | (with_reducible refine cnd_dec ?_ ?_) | (with_reducible refine cnd_of ?_ ?_) | fail "si" | fail))
structure Txt (K : PySem.W.Frag) (mg : Str → Option Value) : Prop where
  x_NoRows : Exc0 K mg "NoRows"
  x_NoColumn : Exc0 K mg "NoColumn"
  g_NoColumn : mg "NoColumn" = some (.ref (He.ga K "NoColumn"))
  g_NoCount : mg "NoCount" = some (.ref (He.ga K "NoCount"))
  g_NoQuery : mg "NoQuery" = some (.ref (He.ga K "NoQuery"))
  g_NoRows : mg "NoRows" = some (.ref (He.ga K "NoRows"))
  g_NoTable : mg "NoTable" = some (.ref (He.ga K "NoTable"))
  g_NotOrdered : mg "NotOrdered" = some (.ref (He.ga K "NotOrdered"))
  g_SpillError : mg "SpillError" = some (.ref (He.ga K "SpillError"))
  g_TooMany : mg "TooMany" = some (.ref (He.ga K "TooMany"))
  sub_NoColumn : ∀ c b, XSd.sub "NoColumn" c = some b → PySem.W.exmOne K (.ref (He.ga K c)) (.ref (He.ga K "NoColumn")) = some b
  sub_NoCount : ∀ c b, XSd.sub "NoCount" c = some b → PySem.W.exmOne K (.ref (He.ga K c)) (.ref (He.ga K "NoCount")) = some b
  sub_NoQuery : ∀ c b, XSd.sub "NoQuery" c = some b → PySem.W.exmOne K (.ref (He.ga K c)) (.ref (He.ga K "NoQuery")) = some b
  sub_NoRows : ∀ c b, XSd.sub "NoRows" c = some b → PySem.W.exmOne K (.ref (He.ga K c)) (.ref (He.ga K "NoRows")) = some b
  sub_NoTable : ∀ c b, XSd.sub "NoTable" c = some b → PySem.W.exmOne K (.ref (He.ga K c)) (.ref (He.ga K "NoTable")) = some b
  sub_NotOrdered : ∀ c b, XSd.sub "NotOrdered" c = some b → PySem.W.exmOne K (.ref (He.ga K c)) (.ref (He.ga K "NotOrdered")) = some b
  sub_SpillError : ∀ c b, XSd.sub "SpillError" c = some b → PySem.W.exmOne K (.ref (He.ga K c)) (.ref (He.ga K "SpillError")) = some b
  sub_TooMany : ∀ c b, XSd.sub "TooMany" c = some b → PySem.W.exmOne K (.ref (He.ga K c)) (.ref (He.ga K "TooMany")) = some b
  tab : ExTab K XSd.tab
  fld : FlTab K XSd.fld
  sys : sysB K = true
  n_ValueError : mg "ValueError" = none
  n_all : mg "all" = none
  n_bool : mg "bool" = none
  n_int : mg "int" = none
  n_isinstance : mg "isinstance" = none
  n_len : mg "len" = none
  n_list : mg "list" = none
  n_range : mg "range" = none
  n_repr : mg "repr" = none
  n_sorted : mg "sorted" = none
  n_tuple : mg "tuple" = none
  n_zip : mg "zip" = none
  c_WIDEST : Cst K mg "WIDEST" (.int 24) (.int 24)
def Dk (om : Om) (a : Addr) (n : Nat) : Prop := ∃ (cs rs : List Int) (c : Int) (b : Addr), a ≠ b ∧ om a = some (.lst [.lst (cs.map D.int), .int c, .h b]) ∧ om b = some (.lst (rs.map D.int)) ∧ rs.length = cs.length ∧ cs ≠ [] ∧ 0 ≤ c ∧ c ≤ n
theorem Dk.mono {om : Om} {a : Addr} {n m : Nat} (h : Dk om a n) (hm : n ≤ m) : Dk om a m := by
  obtain ⟨cs, rs, c, b, h1, h2, h3, h4, h5, h6, h7⟩ := h
  exact ⟨cs, rs, c, b, h1, h2, h3, h4, h5, h6, by omega⟩
theorem Dk.new {om : Om} {a b : Addr} {cs rs : List Int} (h : oset om b (.lst (rs.map D.int)) a = none) (h5 : cs ≠ []) (h4 : rs.length = cs.length) : Dk (oset (oset om b (.lst (rs.map D.int))) a (.lst [.lst (cs.map D.int), .int 0, .h b])) a 0 := by
  have ne : a ≠ b := fun e => by rw [e, oset_same] at h; cases h
  exact ⟨cs, rs, 0, b, ne, oset_same, by rw [oset_ne (Ne.symm ne)]; exact oset_same, h4, h5, by omega, by omega⟩
theorem cs_pos {cs : List Int} (h : cs ≠ []) : 0 < cs.length := List.length_pos_iff.mpr h
def deepP : D → Bool
  | .lst ds => ds.all fun e => plainD e && plains e
  | .frl ds => ds.all fun e => plainD e && plains e
  | _ => true
theorem isRow_tup' {d : D} (h : isRow d = true) : ∃ ds, d = .tup ds ∧ 1 ≤ ds.length ∧ ds.length ≤ 24 := by
  cases d with
  | tup ds => simp only [isRow, Bool.and_eq_true, decide_eq_true_eq] at h; exact ⟨ds, rfl, h.1.1, h.1.2⟩
  | _ => cases h
def colOk (w : Nat) : D → Bool
  | .int i => decide (0 ≤ i) && decide (i < (w : Int))
  | _ => false
def widR : D → Nat
  | .lst (r :: _) => widD r
  | .frl (r :: _) => widD r
  | _ => 24
theorem rows_head {ds : List D} {r : D} {tl : List D} (h : rowsL ds = true) (e : ds = r :: tl) : ∃ es, r = .tup es ∧ 1 ≤ es.length ∧ es.length ≤ 24 := by
  subst e
  have := List.all_eq_true.mp h r (by simp)
  simp only [goodRow, Bool.and_eq_true] at this
  exact isRow_tup' this.1
theorem pr_row (r : List Int) : plainD (rowD r) = true ∧ plains (rowD r) = true := ⟨rfl, by
  simp only [rowD, plains, List.all_eq_true]
  intro x mx
  obtain ⟨y, _, rfl⟩ := List.mem_map.mp mx
  rfl⟩
theorem wid_rows {rs : List (List Int)} {w : Nat} (h : ∀ r ∈ rs, r.length = w) : widR (.lst (rowsD rs)) = if rs = [] then 24 else w := by
  cases rs with
  | nil => rfl
  | cons r l => simp only [rowsD, List.map_cons, widR, widD, rowD, List.length_map]; rw [if_neg (by simp)]; exact h r (by simp)
theorem isRows_rows {rs : List (List Int)} {w : Nat} (h : ∀ r ∈ rs, r.length = w) (w0 : 1 ≤ w) (w1 : w ≤ 24) : isRows (.lst (rowsD rs)) = true := by
  show rowsL (rowsD rs) = true
  refine List.all_eq_true.mpr fun x mx => ?_
  obtain ⟨q, mq, rfl⟩ := List.mem_map.mp mx
  have lq := h q mq
  simp only [goodRow, Bool.and_eq_true, decide_eq_true_eq]
  refine ⟨isRow_iff.mpr ⟨q, rfl, by omega, by omega⟩, ?_⟩
  cases rs with
  | nil => cases mq
  | cons r l => simp only [rowsD, List.map_cons, List.headD_cons, widD, rowD, List.length_map]; rw [lq, h r (by simp)]
theorem deep_rows (rs : List (List Int)) : deepP (.lst (rowsD rs)) = true := by
  simp only [deepP, List.all_eq_true, Bool.and_eq_true]
  intro x mx
  obtain ⟨q, _, rfl⟩ := List.mem_map.mp mx
  exact pr_row q

def mnL : List Int → Int
  | [] => 0
  | [x] => x
  | x :: y :: l => min x (mnL (y :: l))
def mxL : List Int → Int
  | [] => 0
  | [x] => x
  | x :: y :: l => max x (mxL (y :: l))
theorem okE_rows (rs : List (List Int)) : okE (.lst (rowsD rs)) := by
  have h1 : ∀ r : List Int, okc (rowD r) = true ∧ dep (rowD r) ≤ 1 := fun r => ⟨by simp only [rowD, okc, okcs_ints], by simp only [rowD, dep, deps_ints]; omega⟩
  have h2 : okcs (rowsD rs) = true ∧ deps (rowsD rs) ≤ 1 := by
    induction rs with
    | nil => exact ⟨rfl, Nat.zero_le _⟩
    | cons r rs ih =>
      have := h1 r
      refine ⟨by simp only [rowsD, List.map_cons, okcs, this.1, Bool.true_and]; exact ih.1, ?_⟩
      have i2 : deps (rowsD rs) ≤ 1 := ih.2
      simp only [rowsD, List.map_cons, deps] at i2 ⊢
      omega
  exact okE_of (by simp only [okc]; exact h2.1) (by simp only [dep]; omega)
def elems : D → List D
  | .lst ds => ds
  | .frl ds => ds
  | _ => []

def BadRows (d : D) : Prop := plainD d = true ∧ deepP d = true ∧ notF d = true ∧ (elems d).length ≤ 1000 ∧ isRows d = false
theorem bad_mid {l r : List (List Int)} {d : D} {w : Nat} (hd : plainD d = true ∧ plains d = true) (hn : l.length + r.length ≤ 900) (hw : ∀ q ∈ l ++ r, q.length = w) (hb : isRow d = false ∨ (l ++ r ≠ [] ∧ widD d ≠ w)) : BadRows (.lst (rowsD l ++ [d] ++ rowsD r)) := by
  refine ⟨rfl, ?_, rfl, ?_, ?_⟩
  · simp only [deepP, List.all_eq_true, Bool.and_eq_true, List.mem_append, List.mem_singleton]
    rintro x ((mx | rfl) | mx)
    · obtain ⟨q, _, rfl⟩ := List.mem_map.mp mx; exact pr_row q
    · exact hd
    · obtain ⟨q, _, rfl⟩ := List.mem_map.mp mx; exact pr_row q
  · simp only [elems, List.length_append, rowsD, List.length_map, List.length_cons, List.length_nil]; omega
  · cases h : isRows (.lst (rowsD l ++ [d] ++ rowsD r)) with
    | false => rfl
    | true =>
      have h' : ∀ x ∈ rowsD l ++ [d] ++ rowsD r, goodRow (widD ((rowsD l ++ [d] ++ rowsD r).headD .non)) x = true := List.all_eq_true.mp h
      have hg := h' d (by simp)
      simp only [goodRow, Bool.and_eq_true, decide_eq_true_eq] at hg
      rcases hb with hb | ⟨hne, hb⟩
      · rw [hg.1] at hb; cases hb
      · obtain ⟨q, mq⟩ := List.exists_mem_of_ne_nil _ hne
        have hq := h' (rowD q) (by
          rcases List.mem_append.mp mq with mq | mq
          · simp only [List.mem_append]; exact .inl (.inl (List.mem_map.mpr ⟨q, mq, rfl⟩))
          · simp only [List.mem_append]; exact .inr (List.mem_map.mpr ⟨q, mq, rfl⟩))
        simp only [goodRow, Bool.and_eq_true, decide_eq_true_eq] at hq
        have lq := hw q mq
        have e1 : widD (rowD q) = q.length := by simp [rowD, widD]
        exact absurd (by rw [hg.2, ← hq.2, e1, lq]) hb
theorem cut_lo (ns : List Int) (z : Nat) (h : z ≤ ns.length) : cutD (ns.map D.int) none (some (z : Int)) = (ns.take z).map D.int := by
  unfold cutD
  rw [HT.sIx_none, HT.sIx_nat, List.length_map, Nat.min_eq_left h, List.drop_zero, Nat.sub_zero, List.map_take]
theorem cut_hi (ns : List Int) (z : Nat) (h : z ≤ ns.length) : cutD (ns.map D.int) (some (z : Int)) none = (ns.drop z).map D.int := by
  unfold cutD
  rw [HT.sIx_none, HT.sIx_nat, List.length_map, Nat.min_eq_left h, List.map_drop, List.take_of_length_le (by simp)]
theorem cutR_lo (rs : List (List Int)) (z : Nat) (h : z ≤ rs.length) : cutD (rowsD rs) none (some (z : Int)) = rowsD (rs.take z) := by
  unfold cutD rowsD
  rw [HT.sIx_none, HT.sIx_nat, List.length_map, Nat.min_eq_left h, List.drop_zero, Nat.sub_zero, List.map_take]
theorem cutR_hi (rs : List (List Int)) (z : Nat) (h : z ≤ rs.length) : cutD (rowsD rs) (some (z : Int)) none = rowsD (rs.drop z) := by
  unfold cutD rowsD
  rw [HT.sIx_none, HT.sIx_nat, List.length_map, Nat.min_eq_left h, List.map_drop, List.take_of_length_le (by simp)]
mutual
def noF : D → Bool
  | .frl _ => false
  | .tup ds => noFs ds
  | .lst ds => noFs ds
  | .dct _ vs => noFs vs
  | _ => true
def noFs : List D → Bool
  | [] => true
  | d :: ds => noF d && noFs ds
end
structure Nc (n m : Nat) (d : D) : Prop extends Shw n m d where
  nf : noF d = true
theorem noFs_all : ∀ {ds : List D}, (∀ d ∈ ds, noF d = true) → noFs ds = true
  | [], _ => rfl
  | d :: ds, h => by simp only [noFs, h d List.mem_cons_self, noFs_all (ds := ds) fun e m => h e (List.mem_cons_of_mem _ m), Bool.and_self]
theorem Nc.up {n m n' m' : Nat} {d : D} (h : Nc n m d) (hn : n ≤ n') (hm : m ≤ m') : Nc n' m' d := ⟨h.toShw.up hn hm, h.nf⟩
theorem Nc.lst {n m : Nat} {ds : List D} (h : ∀ d ∈ ds, Nc n m d) : Nc (n + 1) (ds.length * (m + 2) + 3) (.lst ds) := ⟨Shw.lst fun d me => (h d me).toShw, by simp only [noF]; exact noFs_all fun d me => (h d me).nf⟩
theorem Nc.tup {n m : Nat} {ds : List D} (h : ∀ d ∈ ds, Nc n m d) : Nc (n + 1) (ds.length * (m + 2) + 3) (.tup ds) := ⟨Shw.tup fun d me => (h d me).toShw, by simp only [noF]; exact noFs_all fun d me => (h d me).nf⟩
theorem Nc.int {i : Int} (h : i.natAbs < 10 ^ 62) : Nc 0 63 (.int i) := ⟨Shw.int (by decide) (by decide) h (Nat.lt_trans h (by decide)), rfl⟩
theorem okS_mem : ∀ {ds : List D}, okSs ds = true → ∀ d ∈ ds, okS d = true
  | d :: ds, h, e, m => by
    simp only [okSs, Bool.and_eq_true] at h
    rcases List.mem_cons.mp m with rfl | m
    · exact h.1
    · exact okS_mem h.2 e m
theorem okS_plain {d : D} (h : okS d = true) : plainD d = true := by cases d <;> first | rfl | simp [okS] at h
theorem okS_plains {d : D} (h : okS d = true) : plains d = true := by
  cases d with
  | tup ds => simp only [okS] at h; exact List.all_eq_true.mpr fun x m => okS_plain (okS_mem h x m)
  | lst ds => simp only [okS] at h; exact List.all_eq_true.mpr fun x m => okS_plain (okS_mem h x m)
  | frl ds => simp only [okS] at h; exact List.all_eq_true.mpr fun x m => okS_plain (okS_mem h x m)
  | _ => exact okS_plain h
theorem okS_deep {d : D} (h : okS d = true) : deepP d = true := by
  cases d with
  | lst ds => simp only [okS] at h; exact List.all_eq_true.mpr fun x m => by rw [okS_plain (okS_mem h x m), okS_plains (okS_mem h x m)]; rfl
  | frl ds => simp only [okS] at h; exact List.all_eq_true.mpr fun x m => by rw [okS_plain (okS_mem h x m), okS_plains (okS_mem h x m)]; rfl
  | _ => rfl
theorem eqv_rows (a b : List Int) : PyData.eqv (py (rowD a)) (py (rowD b)) = decide (a = b) := by
  have key : ∀ a b : List Int, PyData.eqvAll (pys (a.map D.int)) (pys (b.map D.int)) = decide (a = b) := fun a => by
    induction a with
    | nil => intro b; cases b <;> simp [pys, PyData.eqvAll]
    | cons x a ih =>
      intro b
      cases b with
      | nil => simp [pys, PyData.eqvAll]
      | cons y b => by_cases h : x = y <;> simp [pys, py, PyData.eqvAll, PyData.eqv, ih b, h]
  simp only [rowD, py, PyData.eqv]
  exact key a b
theorem lessR_eq (c : Nat) (a b : List Int) : lessR c a b = decide (a.getD c 0 < b.getD c 0 ∨ (a.getD c 0 = b.getD c 0 ∧ a < b)) := by
  have h2 : ∀ a b : List Int, PySem.W.dataLt (py (rowD a)) (py (rowD b)) = decide (a < b) := fun a b => by
    have e : ∀ a : List Int, py (rowD a) = .tuple (a.map .int) := fun a => by simp only [rowD, py, pys_ints]
    rw [e, e, PySem.W.dataLt_tuple]
    exact PySem.W.dataLt_ints a b
  have ha : PySem.W.alike (py (rowD a)) (py (rowD b)) = true := by simp only [rowD, py, PySem.W.alike, pys_ints, PySem.W.alike_ints]
  unfold lessR ltD keyD
  have e3 : ∀ a : List Int, py (.tup [.int (a.getD c 0), rowD a]) = .tuple [.int (a.getD c 0), py (rowD a)] := fun a => by simp only [py, pys]
  rw [e3, e3, PySem.W.dataLt_pair rfl ha, h2, eqv_rows, PySem.W.dataLt_int]
  simp only [PyData.eqv, beq_iff_eq]
  by_cases h3 : a = b
  · subst h3
    simp [List.lt_irrefl]
  · generalize a.getD c 0 = x
    generalize b.getD c 0 = y
    by_cases h1 : x = y
    · simp [h1, h3]
    · simp [h1]
def leR (c : Nat) (a b : List Int) : Prop := lessR c b a = false
theorem leR_iff {c : Nat} {a b : List Int} : leR c a b ↔ a.getD c 0 < b.getD c 0 ∨ (a.getD c 0 = b.getD c 0 ∧ a ≤ b) := by
  unfold leR
  rw [lessR_eq, decide_eq_false_iff_not]
  constructor
  · intro h
    rcases Int.lt_trichotomy (a.getD c 0) (b.getD c 0) with h1 | h1 | h1
    · exact .inl h1
    · exact .inr ⟨h1, fun h2 => h (.inr ⟨h1.symm, h2⟩)⟩
    · exact absurd (.inl h1) h
  · rintro (h1 | ⟨h1, h2⟩) (h3 | ⟨h3, h4⟩)
    · omega
    · omega
    · omega
    · exact h2 h4
theorem leR_trans {c : Nat} {a b d : List Int} (h : leR c a b) (g : leR c b d) : leR c a d := by
  rw [leR_iff] at *
  rcases h with h | ⟨h, h'⟩ <;> rcases g with g | ⟨g, g'⟩
  · exact .inl (by omega)
  · exact .inl (by omega)
  · exact .inl (by omega)
  · exact .inr ⟨by omega, List.le_trans h' g'⟩
theorem leR_anti {c : Nat} {a b : List Int} (h : leR c a b) (g : leR c b a) : a = b := by
  rw [leR_iff] at *
  rcases h with h | ⟨h, h'⟩ <;> rcases g with g | ⟨g, g'⟩
  · omega
  · omega
  · omega
  · exact List.le_antisymm h' g'
theorem leR_of_less {c : Nat} {a b : List Int} (h : lessR c a b = true) : leR c a b := by
  rw [leR_iff]
  rw [lessR_eq, decide_eq_true_eq] at h
  rcases h with h | ⟨h, h'⟩
  · exact .inl h
  · exact .inr ⟨h, List.le_of_lt h'⟩
theorem leR_total (c : Nat) (a b : List Int) : leR c a b ∨ leR c b a := by
  cases h : lessR c b a with
  | false => exact .inl h
  | true => exact .inr (leR_of_less h)
def Srt (c : Nat) (rs : List (List Int)) : Prop := rs.Pairwise (leR c)
theorem srt_uniq {c : Nat} : ∀ {l m : List (List Int)}, l.Perm m → Srt c l → Srt c m → l = m
  | [], m, h, _, _ => (List.nil_perm.mp h).symm
  | x :: l, [], h, _, _ => by have := h.length_eq; simp at this
  | x :: l, y :: m, h, hl, hm => by
    obtain ⟨a1, a2⟩ := List.pairwise_cons.mp hl
    obtain ⟨b1, b2⟩ := List.pairwise_cons.mp hm
    have e : x = y := by
      have mx : x ∈ y :: m := h.mem_iff.mp (by simp)
      have my : y ∈ x :: l := h.mem_iff.mpr (by simp)
      rcases List.mem_cons.mp mx with e | mx
      · exact e
      rcases List.mem_cons.mp my with e | my
      · exact e.symm
      exact leR_anti (a1 y my) (b1 x mx)
    subst e
    rw [srt_uniq (List.perm_cons x |>.mp h) a2 b2]
def sortR (c : Nat) (rs : List (List Int)) : List (List Int) := rs.mergeSort fun a b => !lessR c b a
theorem sortR_perm (c : Nat) (rs : List (List Int)) : (sortR c rs).Perm rs := List.mergeSort_perm _ _
theorem sortR_srt (c : Nat) (rs : List (List Int)) : Srt c (sortR c rs) := by
  have h := List.pairwise_mergeSort (le := fun a b : List Int => !lessR c b a) (fun a b d => ?_) (fun a b => ?_) rs
  · exact h.imp fun h => by simpa [leR] using h
  · simp only [Bool.not_eq_true']; exact fun h g => leR_trans h g
  · simp only [Bool.or_eq_true, Bool.not_eq_true']; exact leR_total c a b
theorem sortR_of {c : Nat} {rs zs : List (List Int)} (hp : zs.Perm rs) (hs : Srt c zs) : zs = sortR c rs := srt_uniq (hp.trans (sortR_perm c rs).symm) hs (sortR_srt c rs)
def Wd (w : Nat) (rs : List (List Int)) : Prop := ∀ r ∈ rs, r.length = w
def Srt' (c : Nat) : List (List Int) → Prop
  | a :: b :: l => leR c a b ∧ Srt' c (b :: l)
  | _ => True
theorem col_ok {rs : List (List Int)} {w : Nat} {c : Int} (hr : Wd w rs) (c0 : 0 ≤ c) (c1 : c < w ∨ rs = []) (c2 : c < 24) : colOk (widR (.lst (rowsD rs))) (.int c) = true := by
  rw [wid_rows hr]; simp only [colOk, Bool.and_eq_true, decide_eq_true_eq]; split
  · omega
  · next h0 => have := c1.resolve_right h0; omega
structure Lev (c w : Nat) (V : List (List (List Int))) : Prop where
  wd : ∀ rs ∈ V, Wd w rs
  st : ∀ rs ∈ V, Srt c rs
def srtB (c : Nat) : List (List Int) → Bool
  | a :: b :: l => !lessR c b a && srtB c (b :: l)
  | _ => true
theorem srtB_iff {c : Nat} : ∀ {l : List (List Int)}, srtB c l = true ↔ Srt c l
  | [] => ⟨fun _ => List.Pairwise.nil, fun _ => rfl⟩
  | [x] => ⟨fun _ => List.pairwise_singleton _ _, fun _ => rfl⟩
  | a :: b :: l => by
    have ih := srtB_iff (c := c) (l := b :: l)
    rw [srtB, Bool.and_eq_true, ih, Bool.not_eq_true']
    constructor
    · rintro ⟨h1, h2⟩
      refine List.pairwise_cons.mpr ⟨fun y my => ?_, h2⟩
      rcases List.mem_cons.mp my with rfl | my
      · exact h1
      · exact leR_trans h1 ((List.pairwise_cons.mp h2).1 y my)
    · intro h
      obtain ⟨h1, h2⟩ := List.pairwise_cons.mp h
      exact ⟨h1 b (by simp), h2⟩
theorem keyP_lt (x y : Int) (a b : List Int) : PySem.W.dataLt (.tuple [.int x, .tuple (a.map .int)]) (.tuple [.int y, .tuple (b.map .int)]) = decide (x :: a < y :: b) := by
  have ha : PySem.W.alike (PyData.tuple (a.map .int)) (PyData.tuple (b.map .int)) = true := by simp only [PySem.W.alike, PySem.W.alike_ints]
  have h2 : PySem.W.dataLt (PyData.tuple (a.map .int)) (PyData.tuple (b.map .int)) = decide (a < b) := by
    rw [PySem.W.dataLt_tuple]; exact PySem.W.dataLt_ints a b
  rw [PySem.W.dataLt_pair rfl ha, h2, PySem.W.dataLt_int]
  rw [show decide (x :: a < y :: b) = decide (x < y ∨ x = y ∧ a < b) from decide_eq_decide.mpr List.cons_lt_cons_iff]
  have h9 : PyData.eqv (PyData.tuple (a.map .int)) (PyData.tuple (b.map .int)) = decide (a = b) := by
    have := eqD_iT a b
    simp only [eqD, py, pys_ints] at this
    exact this
  have h7 : ∀ x y : Int, PyData.eqv (.int x) (.int y) = decide (x = y) := fun x y => by simp only [PyData.eqv]; rfl
  simp only [h9, h7, decide_eq_true_eq]
  by_cases h3 : a = b
  · subst h3
    by_cases h1 : x = y <;> simp [List.lt_irrefl, h1]
  · by_cases h1 : x = y
    · simp [h1, h3]
    · simp [h1]
theorem keyR_lt (c : Nat) (a b : List Int) : PySem.W.dataLt (keyR c a) (keyR c b) = decide (a.getD c 0 :: a < b.getD c 0 :: b) := keyP_lt _ _ _ _
theorem ordR_sort (c : Nat) (rs : List (List Int)) : ordR c rs = sortR c rs := by
  have hp : (ordR c rs).Perm rs := List.mergeSort_perm _ _
  refine sortR_of hp ?_
  have h := List.pairwise_mergeSort (le := PySem.W.dataLe false (keyR c)) (fun a b d => ?_) (fun a b => ?_) rs
  · refine h.imp fun {a b} h => ?_
    have h' : (!PySem.W.dataLt (keyR c b) (keyR c a)) = true := h
    rw [keyR_lt, Bool.not_eq_true', decide_eq_false_iff_not, List.cons_lt_cons_iff] at h'
    rw [leR_iff]
    rcases Int.lt_trichotomy (a.getD c 0) (b.getD c 0) with h1 | h1 | h1
    · exact .inl h1
    · exact .inr ⟨h1, fun h2 => h' (.inr ⟨h1.symm, h2⟩)⟩
    · exact absurd (.inl h1) h'
  · show (!PySem.W.dataLt (keyR c b) (keyR c a)) = true → (!PySem.W.dataLt (keyR c d) (keyR c b)) = true → (!PySem.W.dataLt (keyR c d) (keyR c a)) = true
    rw [keyR_lt, keyR_lt, keyR_lt]
    simp only [Bool.not_eq_true', decide_eq_false_iff_not]
    exact fun h g => List.le_trans (α := Int) h g
  · show (!PySem.W.dataLt (keyR c b) (keyR c a) || !PySem.W.dataLt (keyR c a) (keyR c b)) = true
    rw [keyR_lt, keyR_lt]
    simp only [Bool.or_eq_true, Bool.not_eq_true', decide_eq_false_iff_not]
    exact List.le_total (α := Int) _ _
theorem sortR_len' (c : Nat) (rs : List (List Int)) : (sortR c rs).length = rs.length := (sortR_perm c rs).length_eq
theorem Wd.sort {w : Nat} {rs : List (List Int)} (h : Wd w rs) (c : Nat) : Wd w (sortR c rs) := fun r m => h r ((sortR_perm c rs).mem_iff.mp m)
theorem lex_at {x y : Int} (h : x ≠ y) (a b : List Int) : ∀ p : List Int, (p ++ x :: a < p ++ y :: b) ↔ x < y
  | [] => by rw [List.nil_append, List.nil_append, List.cons_lt_cons_iff]; exact ⟨fun g => g.resolve_right fun e => h e.1, .inl⟩
  | z :: p => by
    rw [List.cons_append, List.cons_append, List.cons_lt_cons_iff, lex_at h a b p]
    exact ⟨fun g => g.elim (fun e => absurd e (Int.lt_irrefl _)) (·.2), fun g => .inr ⟨rfl, g⟩⟩
theorem split_at {a : List Int} {i : Nat} (h : i < a.length) : a = a.take i ++ a.getD i 0 :: a.drop (i + 1) := by
  conv => lhs; rw [← List.take_append_drop i a, List.drop_eq_getElem_cons h]
  rw [List.getD_eq_getElem?_getD, List.getElem?_eq_getElem h]; rfl
theorem ins_srt {c : Nat} {l : List (List Int)} {q : List Int} {j : Nat} (hs : Srt c l) (hj : j ≤ l.length) (h1 : ∀ x ∈ l.drop j, leR c q x) (h2 : ∀ x ∈ l.take j, leR c x q) : Srt c (l.take j ++ q :: l.drop j) := by
  have hs' : Srt c (l.take j ++ l.drop j) := by rw [List.take_append_drop]; exact hs
  obtain ⟨a, b, d⟩ := List.pairwise_append.mp hs'
  refine List.pairwise_append.mpr ⟨a, List.pairwise_cons.mpr ⟨h1, b⟩, fun x mx y my => ?_⟩
  rcases List.mem_cons.mp my with rfl | my
  · exact h2 x mx
  · exact d x mx y my
theorem idx_row {bag : List (List Int)} {q : List Int} (h : q ∈ bag) : ∃ j, idxD (rowD q) (rowsD bag) = some j ∧ j < bag.length ∧ (rowsD bag).eraseIdx j = rowsD (bag.erase q) := by
  induction bag with
  | nil => cases h
  | cons x l ih =>
    have e : eqD (rowD x) (rowD q) = decide (x = q) := eqD_iT x q
    by_cases hx : x = q
    · subst hx
      exact ⟨0, by rw [rowsD, List.map_cons, idxD, e, decide_eq_true rfl, if_pos rfl], by simp, by simp [rowsD]⟩
    · have hq : q ∈ l := (List.mem_cons.mp h).resolve_left (fun e => hx e.symm)
      obtain ⟨j, h1, h2, h3⟩ := ih hq
      refine ⟨j + 1, ?_, by simpa using h2, ?_⟩
      · rw [rowsD, List.map_cons, idxD, e, decide_eq_false hx, if_neg (by simp)]
        rw [rowsD] at h1
        rw [h1]; rfl
      · rw [rowsD] at h3
        rw [rowsD, List.map_cons, List.eraseIdx_cons_succ, h3, List.erase_cons_tail (by simpa using hx), rowsD, rowsD, List.map_cons]
theorem okE_row (q : List Int) : okE (rowD q) := okE_of (by simp only [rowD, okc, okcs_ints]) (by simp only [rowD, dep, deps_ints]; omega)
theorem inD_R (a : List Int) (l : List (List Int)) : inD (rowD a) (rowsD l) = decide (a ∈ l) := by
  have e : ∀ x, eqD (rowD x) (rowD a) = decide (x = a) := fun x => eqD_iT x a
  have e' : ∀ x, eqD (rowD a) (rowD x) = decide (a = x) := fun x => eqD_iT a x
  unfold inD rowsD
  rw [List.any_map, Bool.eq_iff_iff]
  simp only [List.any_eq_true, Function.comp, e, e', decide_eq_true_eq]
  exact ⟨fun ⟨x, m, e⟩ => by first | exact e ▸ m | exact e.symm ▸ m, fun m => ⟨a, m, rfl⟩⟩
theorem sortL_iff {a b : List (List Int)} : sortL a = sortL b ↔ a.Perm b := ⟨fun h => (sortL_perm a).symm.trans (h ▸ sortL_perm b), fun h => sortL_of ((sortL_perm a).trans h) (sortL_pw a)⟩
theorem era_rows (L : List (List Int)) (m : Nat) : (rowsD L).eraseIdx m = rowsD (L.eraseIdx m) := by
  induction L generalizing m with
  | nil => rfl
  | cons x l ih => cases m with
    | zero => rfl
    | succ m => simp only [rowsD, List.map_cons, List.eraseIdx_cons_succ] at ih ⊢; rw [ih]
def Rw (d : D) : Prop := Nc 5 5200000 d ∧ (elems d).length ≤ 1000 ∧ ∀ ds, d = .tup ds → ∀ x ∈ ds, (elems x).length ≤ 1000
theorem rows_nc {rs : List (List Int)} (h : ∀ r ∈ rs, r.length ≤ 60 ∧ ∀ x ∈ r, x.natAbs ≤ 10 ^ 60) : ∀ d ∈ rowsD rs, Nc 4 6200 d := by
  intro d md
  obtain ⟨r, mr, rfl⟩ := List.mem_map.mp md
  obtain ⟨h1, h2⟩ := h r mr
  refine (Nc.tup (n := 0) (m := 63) (ds := r.map D.int) fun e me => ?_).up (by decide) (by rw [List.length_map]; omega)
  obtain ⟨x, mx, rfl⟩ := List.mem_map.mp me
  exact Nc.int (Nat.lt_of_le_of_lt (h2 x mx) (by decide))
theorem rw_lst {ds : List D} (h : ∀ d ∈ ds, Nc 4 6200 d) (hl : ds.length ≤ 825) : Rw (.lst ds) := ⟨(Nc.lst h).up (by decide) (by omega), by simp only [elems]; omega, fun _ e => by cases e⟩
theorem nc_row {r : List Int} (h : ∀ x ∈ r, x.natAbs ≤ 10 ^ 60) : ∀ d ∈ r.map D.int, Nc 3 100 d := by
  intro d md
  obtain ⟨x, mx, rfl⟩ := List.mem_map.mp md
  exact (Nc.int (Nat.lt_of_le_of_lt (h x mx) (by decide))).up (by decide) (by decide)
theorem lnSs_ge : ∀ ds : List D, ds.length * 2 ≤ lnSs ds
  | [] => Nat.zero_le _
  | d :: ds => by have := lnSs_ge ds; simp only [lnSs, List.length_cons]; omega
theorem elems_le (d : D) : (elems d).length * 2 ≤ lnS d := by
  cases d with
  | lst ds => have := lnSs_ge ds; simp only [elems, lnS]; omega
  | frl ds => have := lnSs_ge ds; simp only [elems, lnS]; omega
  | _ => simp [elems]
theorem lnS_mem {x : D} : ∀ {ds : List D}, x ∈ ds → lnS x ≤ lnSs ds
  | d :: ds, m => by
    simp only [lnSs]
    rcases List.mem_cons.mp m with rfl | m
    · omega
    · have := lnS_mem m; omega
theorem rw_small {d : D} (h : Nc 3 100 d) : Rw d := ⟨h.up (by decide) (by decide), by have := elems_le d; have := h.ln; omega, by
  rintro ds rfl x m
  have h1 := h.ln
  have h2 := lnS_mem m
  have h3 := elems_le x
  simp only [lnS] at h1
  omega⟩
theorem rw_tup {rs : List (List Int)} (h : ∀ d ∈ rowsD rs, Nc 4 6200 d) (hl : (rowsD rs).length ≤ 825) : Rw (.tup (rowsD rs)) := ⟨(Nc.tup h).up (by decide) (by omega), by simp [elems], fun es e x m => by
  cases e
  obtain ⟨r, _, rfl⟩ := List.mem_map.mp m
  simp [rowD, elems]⟩
theorem row_at {B : Nat} {rs : List (List Int)} (h : ∀ r ∈ rs, r.length ≤ B ∧ ∀ x ∈ r, x.natAbs ≤ 10 ^ 60) (i : Nat) : (rs.getD i []).length ≤ B ∧ ∀ x ∈ rs.getD i [], x.natAbs ≤ 10 ^ 60 := by
  rw [List.getD_eq_getElem?_getD]
  cases e : rs[i]? with
  | none => simp
  | some r => exact h r (List.mem_of_getElem? e)
theorem nc_tup {ds : List D} (h : ∀ d ∈ ds, Nc 3 100 d) (hl : ds.length ≤ 60) : Nc 4 6200 (.tup ds) := (Nc.tup h).up (by decide) (by omega)
theorem nc_lst {ds : List D} (h : ∀ d ∈ ds, Nc 3 100 d) (hl : ds.length ≤ 60) : Nc 4 6200 (.lst ds) := (Nc.lst h).up (by decide) (by omega)
theorem nc_app {n m : Nat} {xs ys : List D} (hx : ∀ d ∈ xs, Nc n m d) (hy : ∀ d ∈ ys, Nc n m d) : ∀ d ∈ xs ++ ys, Nc n m d := fun d md => (List.mem_append.mp md).elim (hx d) (hy d)
theorem nc_one {n m : Nat} {x : D} (hx : Nc n m x) : ∀ d ∈ [x], Nc n m d := fun d md => by rw [List.mem_singleton.mp md]; exact hx

theorem bad_two {rs : List (List Int)} {row : List Int} {d : D} {w : Nat} (m : Nat) (hl : rs.length ≤ 100) (hr : ∀ r ∈ rs, r.length = w ∧ ∀ x ∈ r, x.natAbs ≤ 10 ^ 60) (hrow : row.length = w ∧ ∀ x ∈ row, x.natAbs ≤ 10 ^ 60) (w1 : w ≤ 24) (hd : Nc 4 6200 d) (hb : isRow d = false ∨ widD d ≠ w) :
    Rw (.lst (rowsD (rs.take m) ++ [rowD row, d] ++ rowsD (rs.drop m))) ∧ isRows (.lst (rowsD (rs.take m) ++ [rowD row, d] ++ rowsD (rs.drop m))) = false := by
  have e : rowsD (rs.take m) ++ [rowD row, d] ++ rowsD (rs.drop m) = rowsD (rs.take m ++ [row]) ++ [d] ++ rowsD (rs.drop m) := by simp [rowsD]
  have hall : ∀ q ∈ rs.take m ++ [row] ++ rs.drop m, q.length = w ∧ ∀ x ∈ q, x.natAbs ≤ 10 ^ 60 := fun q mq => by
    rcases List.mem_append.mp mq with mq | mq
    · rcases List.mem_append.mp mq with mq | mq
      · exact hr q (List.mem_of_mem_take mq)
      · rw [List.mem_singleton.mp mq]; exact hrow
    · exact hr q (List.mem_of_mem_drop mq)
  have h60 : ∀ q ∈ rs.take m ++ [row] ++ rs.drop m, q.length ≤ 60 ∧ ∀ x ∈ q, x.natAbs ≤ 10 ^ 60 := fun q mq => ⟨by have := (hall q mq).1; omega, (hall q mq).2⟩
  have lt := List.length_take_le m rs
  rw [e]
  refine ⟨rw_lst (fun x mx => ?_) ?_, (bad_mid (w := w) ⟨okS_plain hd.ok, okS_plains hd.ok⟩ ?_ (fun q mq => (hall q mq).1) (hb.imp_right fun h => ⟨by simp, h⟩)).2.2.2.2⟩
  · rcases List.mem_append.mp mx with mx | mx
    · rcases List.mem_append.mp mx with mx | mx
      · exact rows_nc (fun q mq => h60 q (List.mem_append_left _ mq)) x mx
      · rw [List.mem_singleton.mp mx]; exact hd
    · exact rows_nc (fun q mq => h60 q (List.mem_append_right _ mq)) x mx
  · simp only [List.length_append, len_rows, List.length_cons, List.length_nil, List.length_drop, List.length_take]; omega
  · simp only [List.length_append, List.length_cons, List.length_nil, List.length_drop, List.length_take]; omega
theorem num_row {ds : List D} {d : D} (h : d ∈ ds) (hd : isNum d = false) : isRow (.tup ds) = false := by
  simp only [isRow]
  have : ds.all isNum = false := by
    rw [Bool.eq_false_iff]; intro z
    rw [List.all_eq_true.mp z d h] at hd; cases hd
  rw [this, Bool.and_false]
def RefW (y : Int) (d c : D) (x : Str) : Prop := ((y = 0 ∨ y = 1) ∧ ((isRows d = false ∧ x = "rows") ∨ (isRows d = true ∧ colOk (widR d) c = false ∧ x = "column"))) ∨ ((y = 2 ∨ y = 3) ∧ isRows d = false ∧ x = "rows")
def df_is_number : DF := fun ds om k xk => ∃ (d : D), ds = [d] ∧ (plainD d = true) ∧ (k (.v (.bl (isNum d))) om)
theorem call_is_number {om : Om} {k : RV → Om → Prop} {xk : Exn → Om → Prop} {d : D} (hd : plainD d = true) (h : k (.v (.bl (isNum d))) om) : df_is_number [d] om k xk := ⟨d, rfl, hd, h⟩
def c_is_number : Con := ⟨1, df_is_number, by intro ds om k xk h; obtain ⟨d, rfl, _, _⟩ := h; rfl, by intro ds om k k' xk xk' hk hx h; obtain ⟨d, e_, hd, h⟩ := h; refine ⟨d, e_, hd, ?_⟩; first | exact hk _ _ h | exact hx _ _ h | exact fun hq => hk _ _ (h hq) | (intros; apply hk; apply h <;> assumption) | (simp only [cnd] at h ⊢; grind) | grind⟩
theorem callK_is_number {om : Om} {k : RV → Om → Prop} {xk : Exn → Om → Prop} {d : D} {t : Tg (df_is_number, k, xk)} (hd : plainD d = true) (h : k (.v (.bl (isNum d))) om) : callK df_is_number [d] om k xk t := call_is_number hd h
def w_is_number : WS :=
  (wRet (wAndV (wCB pIsi (wCons (wBor 0) (wCons (wC (.raw (.ty "int"))) wNil))) (wNotV (wCB pIsi (wCons (wBor 0) (wCons (wC (.raw (.ty "bool"))) wNil))))))
theorem d_is_number {P : Program} {w : World} {K : PySem.W.Frag} {mg : Str → Option Value} {base : Heap} {f : Addr} (T : Txt K mg) (cdv : Value) (A : Around) (outer : List PySem.Env) (s : Shared) (H : Hp) (E : XK) (hr : GRoom 0 (A.deeper (PyProof.Rows.envOfC "is_number" (defScope s_is_number) s.heap.objs.size f cdv))) :
    ∃ t, DSs (cxOf (L2.CX P w) P w K mg base ["thing"] "is_number" (defScope s_is_number) f cdv A outer s H E) (fun cls d _ H => E cls d H) (defBody s_is_number) t w_is_number :=
  ⟨_, (dss_one (ds_ret (de_and (de_cb n_isi T.n_isinstance (by decide +kernel) (da_cons (de_bor 0) (da_cons (de_ty T.n_int (by decide +kernel)) da_nil))) (de_one (de_not (de_cb n_isi T.n_isinstance (by decide +kernel) (da_cons (de_bor 0) (da_cons (de_ty T.n_bool (by decide +kernel)) da_nil))))))))⟩
local macro_rules | `(tactic| fail "ca") => `(tactic| (with_reducible refine ca_guard ?_; first | with_reducible refine callK_is_number ?_ ?_))

section
local macro_rules | `(tactic| fail "d1") => `(tactic| simp -dsimp only [↓u_53, ↓u_60, ↓u_62, ↓u_65, ↓u_79, ↓u_80, ↓u_86, ↓u_88, u_115, u_116, u_117, u_118, u_119, u_120, u_121, u_122, u_123, u_127, u_134, u_135, u_136, u_139, u_154, u_155, u_156, u_157, u_158, u_159, u_160, u_161, ↓u_162, u_163, u_164, u_194, ↓u_198, u_229, u_231, u_235, u_240, u_241, u_243, u_247, u_250, u_251, u_255, u_256, u_264, u_265, ↓u_567, ↓u_568, ↓u_570, ↓u_571, ↓u_574, List.map_nil, List.map_cons, Nat.reduceSub, Nat.reduceAdd, Nat.reduceLT, Nat.reduceLeDiff, reduceIte, String.reduceBEq, String.reduceEq, Int.reduceLT, Int.reduceLE, Int.reduceEq, Int.reduceToNat])
local macro_rules | `(tactic| fail "dl") => `(tactic| try fail "d1")
theorem wp_is_number (ds : List D) (om : Om) (k : RV → Om → Prop) (xk : Exn → Om → Prop) (h : df_is_number ds om k xk) : w_is_number (endOf k xk) (startE 1 ds) om := by
  obtain ⟨d, rfl, hd, h⟩ := h
  unfold w_is_number endOf
  cases d with
  | h a => cases hd
  | raw v => cases hd
  | exc c n v => cases hd
  | fn x => cases hd
  | _ => fail "dl"; exact h
end
theorem ok_is_number {P : Program} {w : World} {K : PySem.W.Frag} {mg : Str → Option Value} {base : Heap} {f : Addr} {fd : FuncData} (F : FunD K "is_number" "is_number" (defArgs s_is_number) (defBody s_is_number) (defScope s_is_number) [] [] f fd) (T : Txt K mg) : GFn P w K mg base (L2.CX P w) 1 f fd ["thing"] (toSp K c_is_number) :=
  (fn_ok (c := c_is_number) F sc_is_number rfl (fun cdv A outer s H E hr => d_is_number T cdv A outer s H E hr) wp_is_number)
def df_less : DF := fun ds om k xk => ∃ (a : List Int), ∃ (b : List Int), ∃ (c : Int), ds = [rowD a, rowD b, .int c] ∧ (0 ≤ c) ∧ (c < a.length) ∧ (c < b.length) ∧ (k (.v (.bl (lessR c.toNat a b))) om)
theorem call_less {om : Om} {k : RV → Om → Prop} {xk : Exn → Om → Prop} {a : List Int} {b : List Int} {c : Int} (c0 : 0 ≤ c) (c1 : c < a.length) (c2 : c < b.length) (h : k (.v (.bl (lessR c.toNat a b))) om) : df_less [rowD a, rowD b, .int c] om k xk := ⟨a, b, c, rfl, c0, c1, c2, h⟩
def c_less : Con := ⟨3, df_less, by intro ds om k xk h; obtain ⟨a, b, c, rfl, _, _, _, _⟩ := h; rfl, by intro ds om k k' xk xk' hk hx h; obtain ⟨a, b, c, e_, c0, c1, c2, h⟩ := h; refine ⟨a, b, c, e_, c0, c1, c2, ?_⟩; first | exact hk _ _ h | exact hx _ _ h | exact fun hq => hk _ _ (h hq) | (intros; apply hk; apply h <;> assumption) | (simp only [cnd] at h ⊢; grind) | grind⟩
theorem callK_less {om : Om} {k : RV → Om → Prop} {xk : Exn → Om → Prop} {a : List Int} {b : List Int} {c : Int} {t : Tg (df_less, k, xk)} (c0 : 0 ≤ c) (c1 : c < a.length) (c2 : c < b.length) (h : k (.v (.bl (lessR c.toNat a b))) om) : callK df_less [rowD a, rowD b, .int c] om k xk t := call_less c0 c1 c2 h
def w_less : WS :=
  (wRet (wOp pLtA (wTup (wCons (wOp pIx (wBor 0) (wBor 2)) (wCons (wVar 0) wNil))) (wTup (wCons (wOp pIx (wBor 1) (wBor 2)) (wCons (wVar 1) wNil)))))
theorem d_less {P : Program} {w : World} {K : PySem.W.Frag} {mg : Str → Option Value} {base : Heap} {f : Addr} (T : Txt K mg) (cdv : Value) (A : Around) (outer : List PySem.Env) (s : Shared) (H : Hp) (E : XK) (hr : GRoom 0 (A.deeper (PyProof.Rows.envOfC "less" (defScope s_less) s.heap.objs.size f cdv))) :
    ∃ t, DSs (cxOf (L2.CX P w) P w K mg base ["one", "other", "column"] "less" (defScope s_less) f cdv A outer s H E) (fun cls d _ H => E cls d H) (defBody s_less) t w_less :=
  ⟨_, (dss_one (ds_ret (de_cmp (o_ltA hr) (de_tup (da_cons (de_ix (de_bor 0) (de_bor 2)) (da_cons (de_var 0) da_nil))) (de_tup (da_cons (de_ix (de_bor 1) (de_bor 2)) (da_cons (de_var 1) da_nil))))))⟩
local macro_rules | `(tactic| fail "ca") => `(tactic| (with_reducible refine ca_guard ?_; first | with_reducible refine callK_is_number ?_ ?_ | with_reducible refine callK_less ?_ ?_ ?_ ?_))

section
local macro_rules | `(tactic| fail "d1") => `(tactic| simp -dsimp only [↓u_53, ↓u_59, ↓u_60, ↓u_63, ↓u_77, ↓u_79, ↓u_80, u_117, u_119, u_127, u_132, u_133, u_136, u_194, ↓u_198, ↓u_210, u_229, u_235, u_236, u_240, u_241, u_243, u_247, u_250, u_251, ↓u_567, ↓u_568, ↓u_574, ↓u_576, u_586, ↓u_590, List.map_nil, List.map_cons, Nat.reduceSub, Nat.reduceAdd, Nat.reduceLT, Nat.reduceLeDiff, reduceIte, String.reduceBEq, String.reduceEq, Int.reduceLT, Int.reduceLE, Int.reduceEq, Int.reduceToNat])
local macro_rules | `(tactic| fail "dl") => `(tactic| try fail "d1")
theorem wp_less (ds : List D) (om : Om) (k : RV → Om → Prop) (xk : Exn → Om → Prop) (h : df_less ds om k xk) : w_less (endOf k xk) (startE 3 ds) om := by
  obtain ⟨a, b, c, rfl, c0, c1, c2, h⟩ := h
  unfold w_less endOf
  have hL := okL_key c.toNat a b
  fail "gs"
  · exact hL
  · exact h
end
theorem ok_less {P : Program} {w : World} {K : PySem.W.Frag} {mg : Str → Option Value} {base : Heap} {f : Addr} {fd : FuncData} (F : FunD K "less" "less" (defArgs s_less) (defBody s_less) (defScope s_less) [] [] f fd) (T : Txt K mg) : GFn P w K mg base (L2.CX P w) 1 f fd ["one", "other", "column"] (toSp K c_less) :=
  (fn_ok (c := c_less) F sc_less rfl (fun cdv A outer s H E hr => d_less T cdv A outer s H E hr) wp_less)
def df_law_deck : DF := fun ds om k xk => ∃ (ns : List Int), ds = [.frl (ns.map D.int)] ∧ (ns.length ≤ 63) ∧ (∀ (cs rs : List Int) b, cs ≠ [] → rs.length = cs.length → om b = none → k (.o [.lst (cs.map D.int), .int 0, .h b]) (oset om b (.lst (rs.map D.int))))
theorem call_law_deck {om : Om} {k : RV → Om → Prop} {xk : Exn → Om → Prop} {ns : List Int} (hl : ns.length ≤ 63) (h : ∀ (cs rs : List Int) b, cs ≠ [] → rs.length = cs.length → om b = none → k (.o [.lst (cs.map D.int), .int 0, .h b]) (oset om b (.lst (rs.map D.int)))) : df_law_deck [.frl (ns.map D.int)] om k xk := ⟨ns, rfl, hl, h⟩
def c_law_deck : Con := ⟨1, df_law_deck, by intro ds om k xk h; obtain ⟨ns, rfl, _, _⟩ := h; rfl, by intro ds om k k' xk xk' hk hx h; obtain ⟨ns, e_, hl, h⟩ := h; refine ⟨ns, e_, hl, ?_⟩; first | exact hk _ _ h | exact hx _ _ h | exact fun hq => hk _ _ (h hq) | (intros; apply hk; apply h <;> assumption) | (simp only [cnd] at h ⊢; grind) | grind⟩
theorem callK_law_deck {om : Om} {k : RV → Om → Prop} {xk : Exn → Om → Prop} {ns : List Int} {t : Tg (df_law_deck, k, xk)} (hl : ns.length ≤ 63) (h : ∀ (cs rs : List Int) b, cs ≠ [] → rs.length = cs.length → om b = none → k (.o [.lst (cs.map D.int), .int 0, .h b]) (oset om b (.lst (rs.map D.int)))) : callK df_law_deck [.frl (ns.map D.int)] om k xk t := call_law_deck hl h
def w_law_deck : WS :=
  (wSeq (wAsg (wFz (wOp pAdd (wCB pList (wCons (wSl (wBor 0) wON (wOS (wC (.int 63)))) wNil)) (wOp pMul (wLst (wCons (wC (.int 0)) wNil)) (wCB pInt (wCons (wOp pEq (wCB pLen (wCons (wBor 0) wNil)) (wC (.int 0))) wNil))))) (gN 1)) (wRet (wLst (wCons (wVar 1) (wCons (wC (.int 0)) (wCons (wHL (wLc (wiA (wVar 1)) (gN 2) wYes (wOp pMul (wBor 2) (wCB pInt (wCons (wOp pGeA (wBor 2) (wOp pPow (wC (.int 10)) (wC (.int 18)))) wNil))) [2])) wNil))))))
theorem d_law_deck {P : Program} {w : World} {K : PySem.W.Frag} {mg : Str → Option Value} {base : Heap} {f : Addr} (T : Txt K mg) (cdv : Value) (A : Around) (outer : List PySem.Env) (s : Shared) (H : Hp) (E : XK) (hr : GRoom 0 (A.deeper (PyProof.Rows.envOfC "_law_deck" (defScope s_law_deck) s.heap.objs.size f cdv))) :
    ∃ t, DSs (cxOf (L2.CX P w) P w K mg base ["_law_script", "_law_cells", "_law_cell"] "_law_deck" (defScope s_law_deck) f cdv A outer s H E) (fun cls d _ H => E cls d H) (defBody s_law_deck) t w_law_deck :=
  ⟨_, (dss_cons (ds_set 1 sc_law_deck.nd (de_fz (de_op o_add (de_ct n_list T.n_list (by decide +kernel) (da_cons (de_sl (de_bor 0) do_none (do_some de_int)) da_nil)) (de_op o_mul (de_lst (da_cons de_int da_nil)) (de_ct n_int T.n_int (by decide +kernel) (da_cons (de_cmp (o_eq hr) (de_cb n_len T.n_len (by decide +kernel) (da_cons (de_bor 0) da_nil)) de_int) da_nil)))))) (dss_one (ds_ret (de_lst (da_cons (de_var 1) (da_cons de_int (da_cons (de_hl (de_lc (own := [("_law_cell", 2)]) rfl sc_law_deck.nd (di_any (de_var 1) (K' := K)) (by kernel_rfl) (fun _ _ _ _ _ => (dgv_name 2 sc_law_deck.nd)) (fun _ _ _ _ _ => dts_nil) (fun _ _ _ _ _ => (de_op (o_mul' (K' := K)) (de_bor 2) (de_ct n_int T.n_int (by decide +kernel) (da_cons (de_cmp (o_geA' (K' := K) hr) (de_bor 2) (de_op o_pow de_int de_int)) da_nil)))) s)) da_nil)))))))⟩
local macro_rules | `(tactic| fail "ca") => `(tactic| (with_reducible refine ca_guard ?_; first | with_reducible refine callK_is_number ?_ ?_ | with_reducible refine callK_less ?_ ?_ ?_ ?_ | with_reducible refine callK_law_deck ?_ ?_))

section
local macro_rules | `(tactic| fail "d1") => `(tactic| simp -dsimp only [↓u_22, ↓u_51, ↓u_52, ↓u_53, ↓u_59, ↓u_60, ↓u_62, ↓u_63, ↓u_65, ↓u_78, ↓u_79, ↓u_80, ↓u_96, ↓u_97, u_116, u_117, u_120, u_121, u_127, u_128, u_130, u_132, u_133, u_134, u_135, u_136, u_137, u_145, u_149, u_151, ↓u_169, ↓u_170, ↓u_173, u_186, u_194, u_195, ↓u_198, ↓u_202, ↓u_209, ↓u_219, ↓u_222, ↓u_223, ↓u_225, u_229, u_231, u_233, u_234, u_235, u_236, u_240, u_241, u_244, u_245, u_246, u_247, u_248, u_250, u_251, u_253, u_270, u_271, ↓u_272, ↓u_273, ↓u_274, ↓u_276, ↓u_321, ↓u_335, u_371, ↓u_436, ↓u_437, ↓u_567, ↓u_568, ↓u_574, ↓u_576, ↓u_583, List.length_append, List.map_nil, List.map_append, List.map_cons, Nat.reduceSub, Nat.reduceAdd, Nat.reduceLT, Nat.reduceLeDiff, reduceIte, String.reduceBEq, String.reduceEq, Int.reduceLT, Int.reduceLE, Int.reduceEq, Int.reduceToNat])
local macro_rules | `(tactic| fail "dl") => `(tactic| try fail "d1")
theorem wp_law_deck (ds : List D) (om : Om) (k : RV → Om → Prop) (xk : Exn → Om → Prop) (h : df_law_deck ds om k xk) : w_law_deck (endOf k xk) (startE 3 ds) om := by
  obtain ⟨ns, rfl, hl, h⟩ := h
  unfold w_law_deck endOf
  obtain ⟨ms, em, el, e0⟩ : ∃ ms : List Int, cutD (ns.map D.int) none (some 63) = ms.map D.int ∧ ms.length ≤ 63 ∧ (ns ≠ [] → ms ≠ []) := by
    refine ⟨ns.take 63, ?_, by rw [List.length_take]; omega, fun h e => ?_⟩
    · have := HT.sIx_nat (ns.map D.int).length 63
      unfold cutD
      rw [HT.sIx_none, show (63 : Int) = ((63 : Nat) : Int) from rfl, HT.sIx_nat, List.drop_zero, Nat.sub_zero, List.length_map, List.map_take, List.take_eq_take_iff, List.length_map]
      omega
    · have := congrArg List.length e
      rw [List.length_take, List.length_nil] at this
      exact h (List.eq_nil_of_length_eq_zero (by omega))
  obtain ⟨cs, ecs, hne, hcl⟩ : ∃ cs : List Int, (ms.map D.int ++ (List.replicate (if decide ((ns.length : Int) = 0) = true then 1 else 0 : Int).toNat [D.int 0]).flatten) = cs.map D.int ∧ cs ≠ [] ∧ cs.length ≤ 64 := by
    by_cases h0 : ns = []
    · refine ⟨ms ++ [0], ?_, by simp, by simp; omega⟩
      rw [if_pos (decide_eq_true (by rw [h0]; rfl))]
      simp
    · have hp := List.length_pos_iff.mpr h0
      refine ⟨ms, ?_, e0 h0, by omega⟩
      rw [if_neg (by simp only [decide_eq_true_eq]; omega)]
      simp
  fail "dl"
  rw [em]
  fail "gs"
  · refine sz_le ?_
    have := congrArg List.length ecs
    rw [List.length_append, List.length_map, List.length_map] at this
    omega
  rw [ecs]
  refine lc_map (fun d => match d with | .int x => .int (x * (if decide (10 ^ 18 ≤ x) = true then 1 else 0)) | _ => .non) (sz_le (by rw [List.length_map]; omega)) (fun i d acc nx e hz hn => ?_) ?_
  · obtain ⟨y, my, rfl⟩ := List.mem_map.mp (List.mem_of_getElem? e)
    fail "gs"
  · have em2 : (cs.map D.int).map (fun d => match d with | .int x => D.int (x * (if decide (10 ^ 18 ≤ x) = true then 1 else 0)) | _ => .non) = (cs.map fun x => x * (if decide (10 ^ 18 ≤ x) = true then 1 else 0)).map D.int := by
      rw [List.map_map, List.map_map]; rfl
    rw [em2]
    fail "gs"
    exact h _ _ _ hne (by simp) (by assumption)
end
theorem ok_law_deck {P : Program} {w : World} {K : PySem.W.Frag} {mg : Str → Option Value} {base : Heap} {f : Addr} {fd : FuncData} (F : FunD K "_law_deck" "_law_deck" (defArgs s_law_deck) (defBody s_law_deck) (defScope s_law_deck) [] [] f fd) (T : Txt K mg) : GFn P w K mg base (L2.CX P w) 1 f fd ["_law_script"] (toSp K c_law_deck) :=
  (fn_ok (c := c_law_deck) F sc_law_deck rfl (fun cdv A outer s H E hr => d_law_deck T cdv A outer s H E hr) wp_law_deck)
def df_law_next : DF := fun ds om k xk => ∃ (a : Addr), ∃ (m : Int), ∃ (n : Nat), ds = [.h a, .int m] ∧ (Dk om a n) ∧ (n < 1000000000000) ∧ (0 < m) ∧ (m < 1000000000000000000000000000000) ∧ (∀ z om', 0 ≤ z → z < m → Dk om' a (n + 1) → k (.v (.int z)) om')
theorem call_law_next {om : Om} {k : RV → Om → Prop} {xk : Exn → Om → Prop} {a : Addr} {m : Int} {n : Nat} (ha : Dk om a n) (hn : n < 1000000000000) (m0 : 0 < m) (m1 : m < 1000000000000000000000000000000) (h : ∀ z om', 0 ≤ z → z < m → Dk om' a (n + 1) → k (.v (.int z)) om') : df_law_next [.h a, .int m] om k xk := ⟨a, m, n, rfl, ha, hn, m0, m1, h⟩
def c_law_next : Con := ⟨2, df_law_next, by intro ds om k xk h; obtain ⟨a, m, n, rfl, _, _, _, _, _⟩ := h; rfl, by intro ds om k k' xk xk' hk hx h; obtain ⟨a, m, n, e_, ha, hn, m0, m1, h⟩ := h; refine ⟨a, m, n, e_, ha, hn, m0, m1, ?_⟩; first | exact hk _ _ h | exact hx _ _ h | exact fun hq => hk _ _ (h hq) | (intros; apply hk; apply h <;> assumption) | (simp only [cnd] at h ⊢; grind) | grind⟩
theorem callK_law_next {om : Om} {k : RV → Om → Prop} {xk : Exn → Om → Prop} {a : Addr} {m : Int} {n : Nat} {t : Tg (df_law_next, k, xk)} (ha : Dk om a n) (hn : n < 1000000000000) (m0 : 0 < m) (m1 : m < 1000000000000000000000000000000) (h : ∀ z om', 0 ≤ z → z < m → Dk om' a (n + 1) → k (.v (.int z)) om') : callK df_law_next [.h a, .int m] om k xk t := call_law_next ha hn m0 m1 h
def w_law_next : WS :=
  (wSeq (wUnpH 0 3 (gsCons 2 (gsCons 3 (gsCons 4 gsNil)))) (wSeq (wAsg (wFz (wOp pMod (wBor 3) (wCB pLen (wCons (wBor 2) wNil)))) (gN 5)) (wSeq (wSet 0 (wC (.int 1)) (wOp pAdd (wBor 3) (wC (.int 1)))) (wSeq (wIfS (wTst (wOp pGtA (wOp pIx (wBor 4) (wBor 5)) (wC (.int 0)))) (wSeq (wAsg (wOp pMod (wOp pIx (wBor 4) (wBor 5)) (wBor 1)) (gN 6)) (wSeq (wSet 4 (wBor 5) (wOp pDiv (wOp pIx (wBor 4) (wBor 5)) (wBor 1))) (wRet (wMov 6)))) wNext) (wSeq (wAsg (wFz (wOp pMod (wOp pAdd (wOp pAdd (wOp pIx (wBor 2) (wBor 5)) (wOp pMul (wC (.int 1000003)) (wBor 3))) (wC (.int 77))) (wC (.int 2147483647)))) (gN 7)) (wSeq (wAsg (wFz (wOp pMod (wOp pPow (wBor 7) (wC (.int 5))) (wC (.int 2147483629)))) (gN 7)) (wSeq (wAsg (wFz (wOp pMod (wOp pPow (wOp pAdd (wOp pAdd (wBor 7) (wOp pMul (wC (.int 104729)) (wOp pMod (wBor 3) (wC (.int 9973))))) (wC (.int 1))) (wC (.int 3))) (wC (.int 2305843009213693951)))) (gN 7)) (wRet (wOp pMod (wOp pDiv (wBor 7) (wC (.int 8))) (wBor 1))))))))))
theorem d_law_next {P : Program} {w : World} {K : PySem.W.Frag} {mg : Str → Option Value} {base : Heap} {f : Addr} (T : Txt K mg) (cdv : Value) (A : Around) (outer : List PySem.Env) (s : Shared) (H : Hp) (E : XK) (hr : GRoom 0 (A.deeper (PyProof.Rows.envOfC "_law_next" (defScope s_law_next) s.heap.objs.size f cdv))) :
    ∃ t, DSs (cxOf (L2.CX P w) P w K mg base ["_law_deck_here", "_law_many", "_law_cells", "_law_count", "_law_rests", "_law_place", "_law_piece", "_law_mixed"] "_law_next" (defScope s_law_next) f cdv A outer s H E) (fun cls d _ H => E cls d H) (defBody s_law_next) t w_law_next :=
  ⟨_, (dss_cons (ds_unpH 0 rfl (dgs_cons 2 sc_law_next.nd (dgs_cons 3 sc_law_next.nd (dgs_cons 4 sc_law_next.nd dgs_nil))) (K' := K)) (dss_cons (ds_set 5 sc_law_next.nd (de_fz (de_op o_mod (de_bor 3) (de_cb n_len T.n_len (by decide +kernel) (da_cons (de_bor 2) da_nil))))) (dss_cons (ds_put 0 de_int (de_op o_add (de_bor 3) de_int)) (dss_cons (ds_if (dt_cmp (o_gtA hr) (de_ix (de_bor 4) (de_bor 5)) de_int) (dss_cons (ds_set 6 sc_law_next.nd (de_op o_mod (de_ix (de_bor 4) (de_bor 5)) (de_bor 1))) (dss_cons (ds_put 4 (de_bor 5) (de_op o_div (de_ix (de_bor 4) (de_bor 5)) (de_bor 1))) (dss_one (ds_retV 6)))) dss_nil) (dss_cons (ds_set 7 sc_law_next.nd (de_fz (de_op o_mod (de_op o_add (de_op o_add (de_ix (de_bor 2) (de_bor 5)) (de_op o_mul de_int (de_bor 3))) de_int) de_int))) (dss_cons (ds_set 7 sc_law_next.nd (de_fz (de_op o_mod (de_op o_pow (de_bor 7) de_int) de_int))) (dss_cons (ds_set 7 sc_law_next.nd (de_fz (de_op o_mod (de_op o_pow (de_op o_add (de_op o_add (de_bor 7) (de_op o_mul de_int (de_op o_mod (de_bor 3) de_int))) de_int) de_int) de_int))) (dss_one (ds_ret (de_op o_mod (de_op o_div (de_bor 7) de_int) (de_bor 1)))))))))))⟩
local macro_rules | `(tactic| fail "ca") => `(tactic| (with_reducible refine ca_guard ?_; first | with_reducible refine callK_is_number ?_ ?_ | with_reducible refine callK_less ?_ ?_ ?_ ?_ | with_reducible refine callK_law_deck ?_ ?_ | with_reducible refine callK_law_next (by fail "ra") ?_ ?_ ?_ ?_))

section
local macro_rules | `(tactic| fail "d1") => `(tactic| simp -dsimp only [↓u_22, ↓u_50, ↓u_51, ↓u_52, ↓u_53, ↓u_56, ↓u_60, ↓u_61, ↓u_62, ↓u_63, ↓u_65, ↓u_79, ↓u_80, ↓u_81, ↓u_100, u_101, ↓u_103, ↓u_104, ↓u_105, ↓u_113, ↓u_114, u_116, u_117, u_120, u_127, u_130, u_134, u_135, u_136, u_139, u_145, u_148, ↓u_169, ↓u_176, u_186, u_189, u_194, ↓u_198, ↓u_200, ↓u_201, ↓u_202, ↓u_207, ↓u_218, ↓u_222, u_229, u_231, u_233, u_234, u_235, u_236, u_240, u_241, u_244, u_245, u_246, u_247, u_248, u_250, u_251, ↓u_335, u_371, ↓u_457, ↓u_567, ↓u_568, ↓u_574, ↓u_578, ↓u_581, ↓u_582, List.map_nil, List.map_cons, Nat.reduceSub, Nat.reduceAdd, Nat.reduceLT, Nat.reduceLeDiff, reduceIte, String.reduceBEq, String.reduceEq, Int.reduceLT, Int.reduceLE, Int.reduceEq, Int.reduceToNat])
local macro_rules | `(tactic| fail "dl") => `(tactic| try fail "d1")
theorem wp_law_next (ds : List D) (om : Om) (k : RV → Om → Prop) (xk : Exn → Om → Prop) (h : df_law_next ds om k xk) : w_law_next (endOf k xk) (startE 8 ds) om := by
  obtain ⟨a, m, n, rfl, ha, hn, m0, m1, h⟩ := h
  unfold w_law_next endOf
  obtain ⟨cs, rs, c, b, ne, ea, eb, hl, h0, c0, c1⟩ := ha
  have hp := cs_pos h0
  have m2 : m < 2 ^ 200 := Int.lt_trans m1 (by decide)
  fail "dl"
  refine rdUH_of ea rfl ?_
  try simp -dsimp only [↓u_22, ↓u_50, ↓u_51, ↓u_52, ↓u_53, ↓u_56, ↓u_60, ↓u_61, ↓u_62, ↓u_63, ↓u_65, ↓u_79, ↓u_80, ↓u_81, ↓u_100, u_101, ↓u_103, ↓u_104, ↓u_105, ↓u_113, ↓u_114, u_116, u_117, u_120, u_127, u_130, u_134, u_135, u_136, u_139, u_145, u_148, ↓u_169, ↓u_176, u_186, u_189, u_194, ↓u_198, ↓u_200, ↓u_201, ↓u_202, ↓u_207, ↓u_218, ↓u_222, u_229, u_231, u_233, u_234, u_235, u_236, u_240, u_241, u_244, u_245, u_246, u_247, u_248, u_250, u_251, ↓u_335, u_371, ↓u_457, ↓u_567, ↓u_568, ↓u_574, ↓u_578, ↓u_581, ↓u_582, List.map_nil, List.map_cons, Nat.reduceSub, Nat.reduceAdd, Nat.reduceLT, Nat.reduceLeDiff, reduceIte, String.reduceBEq, String.reduceEq, Int.reduceLT, Int.reduceLE, Int.reduceEq, Int.reduceToNat, ea]
  have ea1 : oset om a (.lst [.lst (cs.map D.int), .int (c + 1), .h b]) a = some (.lst [.lst (cs.map D.int), .int (c + 1), .h b]) := oset_same
  have eb1 : oset om a (.lst [.lst (cs.map D.int), .int (c + 1), .h b]) b = some (.lst (rs.map D.int)) := by rw [oset_ne (Ne.symm ne)]; exact eb
  generalize oset om a (.lst [.lst (cs.map D.int), .int (c + 1), .h b]) = om1 at *
  have hd := deref_h eb1
  have hm0 : 0 ≤ c % (cs.length : Int) := Int.emod_nonneg _ (by omega)
  have hm1 : c % (cs.length : Int) < cs.length := Int.emod_lt_of_pos _ (by omega)
  have fin : ∀ (q : Int) (rs' : List Int) (om2 : Om), rs'.length = rs.length → om2 a = some (.lst [.lst (cs.map D.int), .int (c + 1), .h b]) → om2 b = some (.lst (rs'.map D.int)) → k (.v (.int (q % m))) om2 := fun q rs' om2 g1 g2 g3 =>
    h (q % m) om2 (Int.emod_nonneg _ (by omega)) (Int.emod_lt_of_pos _ m0) ⟨cs, rs', c + 1, b, ne, g2, g3, by omega, h0, by omega, by omega⟩
  generalize c % (cs.length : Int) = pl at *
  refine ⟨by omega, ?_⟩
  try simp -dsimp only [↓u_22, ↓u_50, ↓u_51, ↓u_52, ↓u_53, ↓u_56, ↓u_60, ↓u_61, ↓u_62, ↓u_63, ↓u_65, ↓u_79, ↓u_80, ↓u_81, ↓u_100, u_101, ↓u_103, ↓u_104, ↓u_105, ↓u_113, ↓u_114, u_116, u_117, u_120, u_127, u_130, u_134, u_135, u_136, u_139, u_145, u_148, ↓u_169, ↓u_176, u_186, u_189, u_194, ↓u_198, ↓u_200, ↓u_201, ↓u_202, ↓u_207, ↓u_218, ↓u_222, u_229, u_231, u_233, u_234, u_235, u_236, u_240, u_241, u_244, u_245, u_246, u_247, u_248, u_250, u_251, ↓u_335, u_371, ↓u_457, ↓u_567, ↓u_568, ↓u_574, ↓u_578, ↓u_581, ↓u_582, List.map_nil, List.map_cons, Nat.reduceSub, Nat.reduceAdd, Nat.reduceLT, Nat.reduceLeDiff, reduceIte, String.reduceBEq, String.reduceEq, Int.reduceLT, Int.reduceLE, Int.reduceEq, Int.reduceToNat, hd]
  refine ixK_ints hm0 (by omega) ?_
  fail "dl"
  refine cnd_dec (fun hr => ?_) (fun hr => ?_)
  · try simp -dsimp only [↓u_22, ↓u_50, ↓u_51, ↓u_52, ↓u_53, ↓u_56, ↓u_60, ↓u_61, ↓u_62, ↓u_63, ↓u_65, ↓u_79, ↓u_80, ↓u_81, ↓u_100, u_101, ↓u_103, ↓u_104, ↓u_105, ↓u_113, ↓u_114, u_116, u_117, u_120, u_127, u_130, u_134, u_135, u_136, u_139, u_145, u_148, ↓u_169, ↓u_176, u_186, u_189, u_194, ↓u_198, ↓u_200, ↓u_201, ↓u_202, ↓u_207, ↓u_218, ↓u_222, u_229, u_231, u_233, u_234, u_235, u_236, u_240, u_241, u_244, u_245, u_246, u_247, u_248, u_250, u_251, ↓u_335, u_371, ↓u_457, ↓u_567, ↓u_568, ↓u_574, ↓u_578, ↓u_581, ↓u_582, List.map_nil, List.map_cons, Nat.reduceSub, Nat.reduceAdd, Nat.reduceLT, Nat.reduceLeDiff, reduceIte, String.reduceBEq, String.reduceEq, Int.reduceLT, Int.reduceLE, Int.reduceEq, Int.reduceToNat, hd]
    refine ixK_ints hm0 (by omega) ?_
    try simp -dsimp only [↓u_22, ↓u_50, ↓u_51, ↓u_52, ↓u_53, ↓u_56, ↓u_60, ↓u_61, ↓u_62, ↓u_63, ↓u_65, ↓u_79, ↓u_80, ↓u_81, ↓u_100, u_101, ↓u_103, ↓u_104, ↓u_105, ↓u_113, ↓u_114, u_116, u_117, u_120, u_127, u_130, u_134, u_135, u_136, u_139, u_145, u_148, ↓u_169, ↓u_176, u_186, u_189, u_194, ↓u_198, ↓u_200, ↓u_201, ↓u_202, ↓u_207, ↓u_218, ↓u_222, u_229, u_231, u_233, u_234, u_235, u_236, u_240, u_241, u_244, u_245, u_246, u_247, u_248, u_250, u_251, ↓u_335, u_371, ↓u_457, ↓u_567, ↓u_568, ↓u_574, ↓u_578, ↓u_581, ↓u_582, List.map_nil, List.map_cons, Nat.reduceSub, Nat.reduceAdd, Nat.reduceLT, Nat.reduceLeDiff, reduceIte, String.reduceBEq, String.reduceEq, Int.reduceLT, Int.reduceLE, Int.reduceEq, Int.reduceToNat, hd, eb1]
    refine ⟨m0, ?_⟩
    refine ixK_ints hm0 (by omega) ?_
    try simp -dsimp only [↓u_22, ↓u_50, ↓u_51, ↓u_52, ↓u_53, ↓u_56, ↓u_60, ↓u_61, ↓u_62, ↓u_63, ↓u_65, ↓u_79, ↓u_80, ↓u_81, ↓u_100, u_101, ↓u_103, ↓u_104, ↓u_105, ↓u_113, ↓u_114, u_116, u_117, u_120, u_127, u_130, u_134, u_135, u_136, u_139, u_145, u_148, ↓u_169, ↓u_176, u_186, u_189, u_194, ↓u_198, ↓u_200, ↓u_201, ↓u_202, ↓u_207, ↓u_218, ↓u_222, u_229, u_231, u_233, u_234, u_235, u_236, u_240, u_241, u_244, u_245, u_246, u_247, u_248, u_250, u_251, ↓u_335, u_371, ↓u_457, ↓u_567, ↓u_568, ↓u_574, ↓u_578, ↓u_581, ↓u_582, List.map_nil, List.map_cons, Nat.reduceSub, Nat.reduceAdd, Nat.reduceLT, Nat.reduceLeDiff, reduceIte, String.reduceBEq, String.reduceEq, Int.reduceLT, Int.reduceLE, Int.reduceEq, Int.reduceToNat, hd, eb1]
    refine ⟨⟨m0, m2⟩, ixN_K hm0 (by omega) ?_⟩
    fail "gs"
    exact fin _ (rs.set pl.toNat (rs.getD pl.toNat 0 / m)) _ (by simp) (by rw [oset_ne ne]; exact ea1) (by rw [oset_same, List.map_set])
  · fail "gs"
    exact fin _ rs _ rfl ea1 eb1
end
theorem ok_law_next {P : Program} {w : World} {K : PySem.W.Frag} {mg : Str → Option Value} {base : Heap} {f : Addr} {fd : FuncData} (F : FunD K "_law_next" "_law_next" (defArgs s_law_next) (defBody s_law_next) (defScope s_law_next) [] [] f fd) (T : Txt K mg) : GFn P w K mg base (L2.CX P w) 1 f fd ["_law_deck_here", "_law_many"] (toSp K c_law_next) :=
  (fn_ok (c := c_law_next) F sc_law_next rfl (fun cdv A outer s H E hr => d_law_next T cdv A outer s H E hr) wp_law_next)
def df_law_whole : DF := fun ds om k xk => ∃ (d : D), ds = [d] ∧ (plainD d = true) ∧ (k (.v (.bl (isNum d))) om)
theorem call_law_whole {om : Om} {k : RV → Om → Prop} {xk : Exn → Om → Prop} {d : D} (hd : plainD d = true) (h : k (.v (.bl (isNum d))) om) : df_law_whole [d] om k xk := ⟨d, rfl, hd, h⟩
def c_law_whole : Con := ⟨1, df_law_whole, by intro ds om k xk h; obtain ⟨d, rfl, _, _⟩ := h; rfl, by intro ds om k k' xk xk' hk hx h; obtain ⟨d, e_, hd, h⟩ := h; refine ⟨d, e_, hd, ?_⟩; first | exact hk _ _ h | exact hx _ _ h | exact fun hq => hk _ _ (h hq) | (intros; apply hk; apply h <;> assumption) | (simp only [cnd] at h ⊢; grind) | grind⟩
theorem callK_law_whole {om : Om} {k : RV → Om → Prop} {xk : Exn → Om → Prop} {d : D} {t : Tg (df_law_whole, k, xk)} (hd : plainD d = true) (h : k (.v (.bl (isNum d))) om) : callK df_law_whole [d] om k xk t := call_law_whole hd h
def w_law_whole : WS :=
  (wRet (wAndV (wCB pIsi (wCons (wBor 0) (wCons (wC (.raw (.ty "int"))) wNil))) (wNotV (wCB pIsi (wCons (wBor 0) (wCons (wC (.raw (.ty "bool"))) wNil))))))
theorem d_law_whole {P : Program} {w : World} {K : PySem.W.Frag} {mg : Str → Option Value} {base : Heap} {f : Addr} (T : Txt K mg) (cdv : Value) (A : Around) (outer : List PySem.Env) (s : Shared) (H : Hp) (E : XK) (hr : GRoom 0 (A.deeper (PyProof.Rows.envOfC "_law_whole" (defScope s_law_whole) s.heap.objs.size f cdv))) :
    ∃ t, DSs (cxOf (L2.CX P w) P w K mg base ["_law_thing"] "_law_whole" (defScope s_law_whole) f cdv A outer s H E) (fun cls d _ H => E cls d H) (defBody s_law_whole) t w_law_whole :=
  ⟨_, (dss_one (ds_ret (de_and (de_cb n_isi T.n_isinstance (by decide +kernel) (da_cons (de_bor 0) (da_cons (de_ty T.n_int (by decide +kernel)) da_nil))) (de_one (de_not (de_cb n_isi T.n_isinstance (by decide +kernel) (da_cons (de_bor 0) (da_cons (de_ty T.n_bool (by decide +kernel)) da_nil))))))))⟩
local macro_rules | `(tactic| fail "ca") => `(tactic| (with_reducible refine ca_guard ?_; first | with_reducible refine callK_is_number ?_ ?_ | with_reducible refine callK_less ?_ ?_ ?_ ?_ | with_reducible refine callK_law_deck ?_ ?_ | with_reducible refine callK_law_next (by fail "ra") ?_ ?_ ?_ ?_ | with_reducible refine callK_law_whole ?_ ?_))

section
local macro_rules | `(tactic| fail "d1") => `(tactic| simp -dsimp only [↓u_53, ↓u_60, ↓u_62, ↓u_65, ↓u_79, ↓u_80, ↓u_86, ↓u_88, u_115, u_116, u_117, u_118, u_119, u_120, u_121, u_122, u_123, u_127, u_134, u_135, u_136, u_139, u_154, u_155, u_156, u_157, u_158, u_159, u_160, u_161, ↓u_162, u_163, u_164, u_194, ↓u_198, u_229, u_231, u_235, u_240, u_241, u_243, u_247, u_250, u_251, u_255, u_256, u_264, u_265, ↓u_567, ↓u_568, ↓u_570, ↓u_571, ↓u_574, List.map_nil, List.map_cons, Nat.reduceSub, Nat.reduceAdd, Nat.reduceLT, Nat.reduceLeDiff, reduceIte, String.reduceBEq, String.reduceEq, Int.reduceLT, Int.reduceLE, Int.reduceEq, Int.reduceToNat])
local macro_rules | `(tactic| fail "dl") => `(tactic| try fail "d1")
theorem wp_law_whole (ds : List D) (om : Om) (k : RV → Om → Prop) (xk : Exn → Om → Prop) (h : df_law_whole ds om k xk) : w_law_whole (endOf k xk) (startE 1 ds) om := by
  obtain ⟨d, rfl, hd, h⟩ := h
  unfold w_law_whole endOf
  cases d with
  | h a => cases hd
  | raw v => cases hd
  | exc c n v => cases hd
  | fn x => cases hd
  | _ => fail "dl"; exact h
end
theorem ok_law_whole {P : Program} {w : World} {K : PySem.W.Frag} {mg : Str → Option Value} {base : Heap} {f : Addr} {fd : FuncData} (F : FunD K "_law_whole" "_law_whole" (defArgs s_law_whole) (defBody s_law_whole) (defScope s_law_whole) [] [] f fd) (T : Txt K mg) : GFn P w K mg base (L2.CX P w) 1 f fd ["_law_thing"] (toSp K c_law_whole) :=
  (fn_ok (c := c_law_whole) F sc_law_whole rfl (fun cdv A outer s H E hr => d_law_whole T cdv A outer s H E hr) wp_law_whole)
def df_law_first : DF := fun ds om k xk => ∃ (a : List Int), ∃ (b : List Int), ∃ (c : Int), ds = [rowD a, rowD b, .int c] ∧ (0 ≤ c) ∧ (c < a.length) ∧ (a.length = b.length) ∧ (a.length ≤ 60) ∧ (k (.v (.bl (lessR c.toNat a b))) om)
theorem call_law_first {om : Om} {k : RV → Om → Prop} {xk : Exn → Om → Prop} {a : List Int} {b : List Int} {c : Int} (c0 : 0 ≤ c) (c1 : c < a.length) (hl : a.length = b.length) (l1 : a.length ≤ 60) (h : k (.v (.bl (lessR c.toNat a b))) om) : df_law_first [rowD a, rowD b, .int c] om k xk := ⟨a, b, c, rfl, c0, c1, hl, l1, h⟩
def c_law_first : Con := ⟨3, df_law_first, by intro ds om k xk h; obtain ⟨a, b, c, rfl, _, _, _, _, _⟩ := h; rfl, by intro ds om k k' xk xk' hk hx h; obtain ⟨a, b, c, e_, c0, c1, hl, l1, h⟩ := h; refine ⟨a, b, c, e_, c0, c1, hl, l1, ?_⟩; first | exact hk _ _ h | exact hx _ _ h | exact fun hq => hk _ _ (h hq) | (intros; apply hk; apply h <;> assumption) | (simp only [cnd] at h ⊢; grind) | grind⟩
theorem callK_law_first {om : Om} {k : RV → Om → Prop} {xk : Exn → Om → Prop} {a : List Int} {b : List Int} {c : Int} {t : Tg (df_law_first, k, xk)} (c0 : 0 ≤ c) (c1 : c < a.length) (hl : a.length = b.length) (l1 : a.length ≤ 60) (h : k (.v (.bl (lessR c.toNat a b))) om) : callK df_law_first [rowD a, rowD b, .int c] om k xk t := call_law_first c0 c1 hl l1 h
def w_law_first : WS :=
  (wSeq (wIfS (wTst (wOp pNe (wOp pIx (wBor 0) (wBor 2)) (wOp pIx (wBor 1) (wBor 2)))) (wRet (wOp pLtA (wOp pIx (wBor 0) (wBor 2)) (wOp pIx (wBor 1) (wBor 2)))) wNext) (wSeq (wFor (wiR1 (wCons (wCB pLen (wCons (wBor 0) wNil)) wNil)) (gN 3) (wIfS (wTst (wOp pNe (wOp pIx (wBor 0) (wBor 3)) (wOp pIx (wBor 1) (wBor 3)))) (wRet (wOp pLtA (wOp pIx (wBor 0) (wBor 3)) (wOp pIx (wBor 1) (wBor 3)))) wNext)) (wRet (wC (.bl false)))))
theorem d_law_first {P : Program} {w : World} {K : PySem.W.Frag} {mg : Str → Option Value} {base : Heap} {f : Addr} (T : Txt K mg) (cdv : Value) (A : Around) (outer : List PySem.Env) (s : Shared) (H : Hp) (E : XK) (hr : GRoom 0 (A.deeper (PyProof.Rows.envOfC "_law_first" (defScope s_law_first) s.heap.objs.size f cdv))) :
    ∃ t, DSs (cxOf (L2.CX P w) P w K mg base ["_law_one", "_law_other_here", "_law_column", "_law_at"] "_law_first" (defScope s_law_first) f cdv A outer s H E) (fun cls d _ H => E cls d H) (defBody s_law_first) t w_law_first :=
  ⟨_, (dss_cons (ds_if (dt_cmp (o_ne hr) (de_ix (de_bor 0) (de_bor 2)) (de_ix (de_bor 1) (de_bor 2))) (dss_one (ds_ret (de_cmp (o_ltA hr) (de_ix (de_bor 0) (de_bor 2)) (de_ix (de_bor 1) (de_bor 2))))) dss_nil) (dss_cons (ds_for (passes_of rfl) rfl (di_r1 T.n_range (da_cons (de_cb n_len T.n_len (by decide +kernel) (da_cons (de_bor 0) da_nil)) da_nil)) (dg_name 3 sc_law_first.nd) (dss_one (ds_if (dt_cmp (o_ne hr) (de_ix (de_bor 0) (de_bor 3)) (de_ix (de_bor 1) (de_bor 3))) (dss_one (ds_ret (de_cmp (o_ltA hr) (de_ix (de_bor 0) (de_bor 3)) (de_ix (de_bor 1) (de_bor 3))))) dss_nil))) (dss_one (ds_ret de_bl))))⟩
local macro_rules | `(tactic| fail "ca") => `(tactic| (with_reducible refine ca_guard ?_; first | with_reducible refine callK_is_number ?_ ?_ | with_reducible refine callK_less ?_ ?_ ?_ ?_ | with_reducible refine callK_law_deck ?_ ?_ | with_reducible refine callK_law_next (by fail "ra") ?_ ?_ ?_ ?_ | with_reducible refine callK_law_whole ?_ ?_ | with_reducible refine callK_law_first ?_ ?_ ?_ ?_ ?_))

section
local macro_rules | `(tactic| fail "d1") => `(tactic| simp -dsimp only [↓u_22, ↓u_50, ↓u_52, ↓u_53, ↓u_56, ↓u_60, ↓u_62, ↓u_63, ↓u_65, ↓u_79, ↓u_80, ↓u_81, ↓u_91, ↓u_92, u_116, u_117, u_127, u_134, u_135, u_136, u_139, u_146, ↓u_169, u_194, ↓u_198, ↓u_206, ↓u_226, u_229, u_231, u_233, u_234, u_235, u_236, u_240, u_241, u_244, u_245, u_246, u_247, u_248, u_250, u_251, u_255, u_256, u_268, u_269, u_371, ↓u_567, ↓u_568, ↓u_570, ↓u_571, ↓u_574, u_586, u_587, ↓u_590, List.map_nil, List.map_cons, Nat.reduceSub, Nat.reduceAdd, Nat.reduceLT, Nat.reduceLeDiff, reduceIte, String.reduceBEq, String.reduceEq, Int.reduceLT, Int.reduceLE, Int.reduceEq, Int.reduceToNat])
local macro_rules | `(tactic| fail "dl") => `(tactic| try fail "d1")
theorem wp_law_first (ds : List D) (om : Om) (k : RV → Om → Prop) (xk : Exn → Om → Prop) (h : df_law_first ds om k xk) : w_law_first (endOf k xk) (startE 4 ds) om := by
  obtain ⟨a, b, c, rfl, c0, c1, hl, l1, h⟩ := h
  unfold w_law_first endOf
  rw [lessR_eq] at h
  by_cases h1 : a.getD c.toNat 0 = b.getD c.toNat 0
  · have e : decide (a.getD c.toNat 0 < b.getD c.toNat 0 ∨ (a.getD c.toNat 0 = b.getD c.toNat 0 ∧ a < b)) = decide (a < b) := decide_eq_decide.mpr ⟨fun h => h.elim (fun g => absurd g (by omega)) (fun g => g.2), fun h => .inr ⟨h1, h⟩⟩
    rw [e] at h
    (repeat' (first | (with_reducible assumption) | (with_reducible intro _) | (with_reducible apply And.intro) | fail "ca" | simp -dsimp only [↓u_22, ↓u_50, ↓u_52, ↓u_53, ↓u_56, ↓u_60, ↓u_62, ↓u_63, ↓u_65, ↓u_79, ↓u_80, ↓u_81, ↓u_91, ↓u_92, u_116, u_117, u_127, u_134, u_135, u_136, u_139, u_146, ↓u_169, u_194, ↓u_198, ↓u_206, ↓u_226, u_229, u_231, u_233, u_234, u_235, u_236, u_240, u_241, u_244, u_245, u_246, u_247, u_248, u_250, u_251, u_255, u_256, u_268, u_269, u_371, ↓u_567, ↓u_568, ↓u_570, ↓u_571, ↓u_574, u_586, u_587, ↓u_590, List.map_nil, List.map_cons, Nat.reduceSub, Nat.reduceAdd, Nat.reduceLT, Nat.reduceLeDiff, reduceIte, String.reduceBEq, String.reduceEq, Int.reduceLT, Int.reduceLE, Int.reduceEq, Int.reduceToNat, h1] | fail "ix" | (with_reducible refine rdDh_of (by with_reducible assumption) ?_) | (with_reducible refine rdRh_of (by with_reducible assumption) ?_) | (with_reducible refine rwK_row (by with_reducible assumption) ?_) | (with_reducible refine cnd_T (by with_reducible assumption) ?_) | (with_reducible refine cnd_F (by with_reducible assumption) ?_) | (with_reducible refine cnd_yes (by omega) ?_) | (with_reducible refine cnd_no (by omega) ?_) | (with_reducible refine cnd_dec ?_ ?_) | (with_reducible refine cnd_of ?_ ?_) | fail "si" | fail))
    refine loop_rng (fun i r om' => om' = om ∧ a.take i = b.take i ∧ ∃ x, r = [some (.v (rowD a)), some (.v (rowD b)), some (.v (.int c)), x]) ⟨rfl, rfl, _, rfl⟩ ?_ ?_
    · rintro i r om' nx hi ⟨rfl, ht, x, rfl⟩ hnx
      have hi2 : i < a.length := by omega
      have hi3 : i < b.length := by omega
      have e0 : (0 + (i : Int)).toNat = i := by omega
      unfold stepOf
      by_cases hx : a.getD i 0 = b.getD i 0
      · have : a.take (i + 1) = b.take (i + 1) := by
          rw [List.take_add_one, List.take_add_one, ht, List.getElem?_eq_getElem hi2, List.getElem?_eq_getElem hi3]
          rw [List.getD_eq_getElem?_getD, List.getD_eq_getElem?_getD, List.getElem?_eq_getElem hi2, List.getElem?_eq_getElem hi3] at hx
          simp only [Option.getD_some] at hx
          rw [hx]
        rw [← e0] at hx
        (repeat' (first | (with_reducible assumption) | (with_reducible intro _) | (with_reducible apply And.intro) | fail "ca" | simp -dsimp only [↓u_22, ↓u_50, ↓u_52, ↓u_53, ↓u_56, ↓u_60, ↓u_62, ↓u_63, ↓u_65, ↓u_79, ↓u_80, ↓u_81, ↓u_91, ↓u_92, u_116, u_117, u_127, u_134, u_135, u_136, u_139, u_146, ↓u_169, u_194, ↓u_198, ↓u_206, ↓u_226, u_229, u_231, u_233, u_234, u_235, u_236, u_240, u_241, u_244, u_245, u_246, u_247, u_248, u_250, u_251, u_255, u_256, u_268, u_269, u_371, ↓u_567, ↓u_568, ↓u_570, ↓u_571, ↓u_574, u_586, u_587, ↓u_590, List.map_nil, List.map_cons, Nat.reduceSub, Nat.reduceAdd, Nat.reduceLT, Nat.reduceLeDiff, reduceIte, String.reduceBEq, String.reduceEq, Int.reduceLT, Int.reduceLE, Int.reduceEq, Int.reduceToNat, hx] | fail "ix" | (with_reducible refine rdDh_of (by with_reducible assumption) ?_) | (with_reducible refine rdRh_of (by with_reducible assumption) ?_) | (with_reducible refine rwK_row (by with_reducible assumption) ?_) | (with_reducible refine cnd_T (by with_reducible assumption) ?_) | (with_reducible refine cnd_F (by with_reducible assumption) ?_) | (with_reducible refine cnd_yes (by omega) ?_) | (with_reducible refine cnd_no (by omega) ?_) | (with_reducible refine cnd_dec ?_ ?_) | (with_reducible refine cnd_of ?_ ?_) | fail "si" | fail))
        all_goals exact hnx _ _ ⟨rfl, this, _, rfl⟩
      · have e2 : decide (a < b) = decide (a.getD i 0 < b.getD i 0) := by
          refine decide_eq_decide.mpr ?_
          conv => lhs; rw [split_at hi2, split_at hi3, ht]
          exact lex_at hx _ _ _
        rw [e2] at h
        have h' := h
        rw [← e0] at hx h'
        (repeat' (first | (with_reducible assumption) | (with_reducible intro _) | (with_reducible apply And.intro) | fail "ca" | simp -dsimp only [↓u_22, ↓u_50, ↓u_52, ↓u_53, ↓u_56, ↓u_60, ↓u_62, ↓u_63, ↓u_65, ↓u_79, ↓u_80, ↓u_81, ↓u_91, ↓u_92, u_116, u_117, u_127, u_134, u_135, u_136, u_139, u_146, ↓u_169, u_194, ↓u_198, ↓u_206, ↓u_226, u_229, u_231, u_233, u_234, u_235, u_236, u_240, u_241, u_244, u_245, u_246, u_247, u_248, u_250, u_251, u_255, u_256, u_268, u_269, u_371, ↓u_567, ↓u_568, ↓u_570, ↓u_571, ↓u_574, u_586, u_587, ↓u_590, List.map_nil, List.map_cons, Nat.reduceSub, Nat.reduceAdd, Nat.reduceLT, Nat.reduceLeDiff, reduceIte, String.reduceBEq, String.reduceEq, Int.reduceLT, Int.reduceLE, Int.reduceEq, Int.reduceToNat, hx] | fail "ix" | (with_reducible refine rdDh_of (by with_reducible assumption) ?_) | (with_reducible refine rdRh_of (by with_reducible assumption) ?_) | (with_reducible refine rwK_row (by with_reducible assumption) ?_) | (with_reducible refine cnd_T (by with_reducible assumption) ?_) | (with_reducible refine cnd_F (by with_reducible assumption) ?_) | (with_reducible refine cnd_yes (by omega) ?_) | (with_reducible refine cnd_no (by omega) ?_) | (with_reducible refine cnd_dec ?_ ?_) | (with_reducible refine cnd_of ?_ ?_) | fail "si" | fail))
        all_goals exact h'
    · rintro r om' ⟨rfl, ht, x, rfl⟩
      rw [show (a.length : Int).toNat = a.length by omega, List.take_length] at ht
      rw [hl, List.take_length] at ht
      rw [ht, decide_eq_false (List.lt_irrefl _)] at h
      fail "gs"
  · have e : decide (a.getD c.toNat 0 < b.getD c.toNat 0 ∨ (a.getD c.toNat 0 = b.getD c.toNat 0 ∧ a < b)) = decide (a.getD c.toNat 0 < b.getD c.toNat 0) := decide_eq_decide.mpr ⟨fun h => h.resolve_right fun g => h1 g.1, .inl⟩
    rw [e] at h
    (repeat' (first | (with_reducible assumption) | (with_reducible intro _) | (with_reducible apply And.intro) | fail "ca" | simp -dsimp only [↓u_22, ↓u_50, ↓u_52, ↓u_53, ↓u_56, ↓u_60, ↓u_62, ↓u_63, ↓u_65, ↓u_79, ↓u_80, ↓u_81, ↓u_91, ↓u_92, u_116, u_117, u_127, u_134, u_135, u_136, u_139, u_146, ↓u_169, u_194, ↓u_198, ↓u_206, ↓u_226, u_229, u_231, u_233, u_234, u_235, u_236, u_240, u_241, u_244, u_245, u_246, u_247, u_248, u_250, u_251, u_255, u_256, u_268, u_269, u_371, ↓u_567, ↓u_568, ↓u_570, ↓u_571, ↓u_574, u_586, u_587, ↓u_590, List.map_nil, List.map_cons, Nat.reduceSub, Nat.reduceAdd, Nat.reduceLT, Nat.reduceLeDiff, reduceIte, String.reduceBEq, String.reduceEq, Int.reduceLT, Int.reduceLE, Int.reduceEq, Int.reduceToNat, h1] | fail "ix" | (with_reducible refine rdDh_of (by with_reducible assumption) ?_) | (with_reducible refine rdRh_of (by with_reducible assumption) ?_) | (with_reducible refine rwK_row (by with_reducible assumption) ?_) | (with_reducible refine cnd_T (by with_reducible assumption) ?_) | (with_reducible refine cnd_F (by with_reducible assumption) ?_) | (with_reducible refine cnd_yes (by omega) ?_) | (with_reducible refine cnd_no (by omega) ?_) | (with_reducible refine cnd_dec ?_ ?_) | (with_reducible refine cnd_of ?_ ?_) | fail "si" | fail))
    all_goals first | exact h | trace_state
end
theorem ok_law_first {P : Program} {w : World} {K : PySem.W.Frag} {mg : Str → Option Value} {base : Heap} {f : Addr} {fd : FuncData} (F : FunD K "_law_first" "_law_first" (defArgs s_law_first) (defBody s_law_first) (defScope s_law_first) [] [] f fd) (T : Txt K mg) : GFn P w K mg base (L2.CX P w) 1 f fd ["_law_one", "_law_other_here", "_law_column"] (toSp K c_law_first) :=
  (fn_ok (c := c_law_first) F sc_law_first rfl (fun cdv A outer s H E hr => d_law_first T cdv A outer s H E hr) wp_law_first)
def df_law_same : DF := fun ds om k xk => ∃ (rs : List (List Int)), ∃ (qs : List (List Int)), ds = [.lst (rowsD rs), .lst (rowsD qs)] ∧ (rs.length ≤ 4000) ∧ (qs.length ≤ 4000) ∧ (k (.v (.bl (decide (sortL rs = sortL qs)))) om)
theorem call_law_same {om : Om} {k : RV → Om → Prop} {xk : Exn → Om → Prop} {rs : List (List Int)} {qs : List (List Int)} (hl : rs.length ≤ 4000) (hm : qs.length ≤ 4000) (h : k (.v (.bl (decide (sortL rs = sortL qs)))) om) : df_law_same [.lst (rowsD rs), .lst (rowsD qs)] om k xk := ⟨rs, qs, rfl, hl, hm, h⟩
def c_law_same : Con := ⟨2, df_law_same, by intro ds om k xk h; obtain ⟨rs, qs, rfl, _, _, _⟩ := h; rfl, by intro ds om k k' xk xk' hk hx h; obtain ⟨rs, qs, e_, hl, hm, h⟩ := h; refine ⟨rs, qs, e_, hl, hm, ?_⟩; first | exact hk _ _ h | exact hx _ _ h | exact fun hq => hk _ _ (h hq) | (intros; apply hk; apply h <;> assumption) | (simp only [cnd] at h ⊢; grind) | grind⟩
theorem callK_law_same {om : Om} {k : RV → Om → Prop} {xk : Exn → Om → Prop} {rs : List (List Int)} {qs : List (List Int)} {t : Tg (df_law_same, k, xk)} (hl : rs.length ≤ 4000) (hm : qs.length ≤ 4000) (h : k (.v (.bl (decide (sortL rs = sortL qs)))) om) : callK df_law_same [.lst (rowsD rs), .lst (rowsD qs)] om k xk t := call_law_same hl hm h
def w_law_same : WS :=
  (wSeq (wAsg (wCB pList (wCons (wBor 1) wNil)) (gN 2)) (wSeq (wFor (wiA (wVar 0)) (gN 3) (wSeq (wIfS (wTst (wOp pNotInA (wBor 3) (wBor 2))) (wRet (wC (.bl false))) wNext) (wDrop (wMut 2 mRemD (wCons (wBor 3) wNil))))) (wRet (wOp pEq (wBor 2) (wLst wNil)))))
theorem d_law_same {P : Program} {w : World} {K : PySem.W.Frag} {mg : Str → Option Value} {base : Heap} {f : Addr} (T : Txt K mg) (cdv : Value) (A : Around) (outer : List PySem.Env) (s : Shared) (H : Hp) (E : XK) (hr : GRoom 0 (A.deeper (PyProof.Rows.envOfC "_law_same" (defScope s_law_same) s.heap.objs.size f cdv))) :
    ∃ t, DSs (cxOf (L2.CX P w) P w K mg base ["_law_one", "_law_other_here", "_law_left", "_law_row"] "_law_same" (defScope s_law_same) f cdv A outer s H E) (fun cls d _ H => E cls d H) (defBody s_law_same) t w_law_same :=
  ⟨_, (dss_cons (ds_set 2 sc_law_same.nd (de_ct n_list T.n_list (by decide +kernel) (da_cons (de_bor 1) da_nil))) (dss_cons (ds_for (passes_of rfl) rfl (di_any (de_var 0) (K' := K)) (dg_name 3 sc_law_same.nd) (dss_cons (ds_if (dt_cmp (o_notinA hr) (de_bor 3) (de_bor 2)) (dss_one (ds_ret de_bl)) dss_nil) (dss_one (ds_drop (de_remD 2 hr (de_bor 3) (K' := K)))))) (dss_one (ds_ret (de_cmp (o_eq hr) (de_bor 2) (de_lst da_nil))))))⟩
local macro_rules | `(tactic| fail "ca") => `(tactic| (with_reducible refine ca_guard ?_; first | with_reducible refine callK_is_number ?_ ?_ | with_reducible refine callK_less ?_ ?_ ?_ ?_ | with_reducible refine callK_law_deck ?_ ?_ | with_reducible refine callK_law_next (by fail "ra") ?_ ?_ ?_ ?_ | with_reducible refine callK_law_whole ?_ ?_ | with_reducible refine callK_law_first ?_ ?_ ?_ ?_ ?_ | with_reducible refine callK_law_same ?_ ?_ ?_))

section
local macro_rules | `(tactic| fail "d1") => `(tactic| simp -dsimp only [↓u_22, ↓u_37, ↓u_50, ↓u_51, ↓u_52, ↓u_53, ↓u_55, ↓u_56, ↓u_59, ↓u_60, ↓u_62, ↓u_63, ↓u_65, ↓u_78, ↓u_79, ↓u_80, ↓u_81, ↓u_91, ↓u_98, ↓u_100, u_101, ↓u_102, u_116, u_120, u_127, u_128, u_129, u_132, u_133, u_134, u_135, u_136, u_139, u_151, ↓u_170, u_194, u_195, ↓u_198, u_229, u_231, u_233, u_234, u_235, u_236, u_240, u_241, u_244, u_245, u_246, u_247, u_248, u_250, u_251, u_255, u_256, u_288, ↓u_293, ↓u_319, ↓u_321, u_371, u_470, u_475, u_476, u_478, ↓u_504, ↓u_567, ↓u_568, ↓u_570, ↓u_571, ↓u_574, ↓u_575, ↓u_576, ↓u_580, ↓u_583, u_586, List.map_nil, List.map_cons, Nat.reduceSub, Nat.reduceAdd, Nat.reduceLT, Nat.reduceLeDiff, reduceIte, String.reduceBEq, String.reduceEq, Int.reduceLT, Int.reduceLE, Int.reduceEq, Int.reduceToNat])
local macro_rules | `(tactic| fail "dl") => `(tactic| try fail "d1")
theorem wp_law_same (ds : List D) (om : Om) (k : RV → Om → Prop) (xk : Exn → Om → Prop) (h : df_law_same ds om k xk) : w_law_same (endOf k xk) (startE 4 ds) om := by
  obtain ⟨rs, qs, rfl, hl, hm, h⟩ := h
  unfold w_law_same endOf
  fail "gs"
  refine loop_list (fun i r om' => om' = om ∧ ∃ L x3, (sortL rs = sortL qs ↔ (rs.drop i).Perm L) ∧ L.length ≤ 4000 ∧ r = [some (.v (.lst (rowsD rs))), some (.v (.lst (rowsD qs))), some (.o (rowsD L)), x3]) ⟨rfl, qs, _, sortL_iff, hm, rfl⟩ ?_ ?_
  · rintro i d r om' nx e ⟨rfl, L, x3, hA, hLl, rfl⟩ hnx
    obtain ⟨q, eq, rfl⟩ := rows_get e
    obtain ⟨hi, eqi⟩ := List.getElem?_eq_some_iff.mp eq
    have hd : rs.drop i = q :: rs.drop (i + 1) := by rw [List.drop_eq_getElem_cons hi, eqi]
    rw [hd] at hA
    have hL2 := len_rows L
    have oq := okE_row q
    have oL := okE_rows L
    unfold stepOf
    by_cases hm2 : q ∈ L
    · have hin : inD (rowD q) (rowsD L) = true := by rw [inD_R, decide_eq_true hm2]
      obtain ⟨j, j1, j2, j3⟩ := idx_row hm2
      (repeat' (first | (with_reducible assumption) | (with_reducible intro _) | (with_reducible apply And.intro) | fail "ca" | simp -dsimp only [↓u_22, ↓u_37, ↓u_50, ↓u_51, ↓u_52, ↓u_53, ↓u_55, ↓u_56, ↓u_59, ↓u_60, ↓u_62, ↓u_63, ↓u_65, ↓u_78, ↓u_79, ↓u_80, ↓u_81, ↓u_91, ↓u_98, ↓u_100, u_101, ↓u_102, u_116, u_120, u_127, u_128, u_129, u_132, u_133, u_134, u_135, u_136, u_139, u_151, ↓u_170, u_194, u_195, ↓u_198, u_229, u_231, u_233, u_234, u_235, u_236, u_240, u_241, u_244, u_245, u_246, u_247, u_248, u_250, u_251, u_255, u_256, u_288, ↓u_293, ↓u_319, ↓u_321, u_371, u_470, u_475, u_476, u_478, ↓u_504, ↓u_567, ↓u_568, ↓u_570, ↓u_571, ↓u_574, ↓u_575, ↓u_576, ↓u_580, ↓u_583, u_586, List.map_nil, List.map_cons, Nat.reduceSub, Nat.reduceAdd, Nat.reduceLT, Nat.reduceLeDiff, reduceIte, String.reduceBEq, String.reduceEq, Int.reduceLT, Int.reduceLE, Int.reduceEq, Int.reduceToNat, hin, mRemD_at, j1, j3] | fail "ix" | (with_reducible refine rdDh_of (by with_reducible assumption) ?_) | (with_reducible refine rdRh_of (by with_reducible assumption) ?_) | (with_reducible refine rwK_row (by with_reducible assumption) ?_) | (with_reducible refine cnd_T (by with_reducible assumption) ?_) | (with_reducible refine cnd_F (by with_reducible assumption) ?_) | (with_reducible refine cnd_yes (by omega) ?_) | (with_reducible refine cnd_no (by omega) ?_) | (with_reducible refine cnd_dec ?_ ?_) | (with_reducible refine cnd_of ?_ ?_) | fail "si" | fail))
      exact hnx _ _ ⟨rfl, L.erase q, _, hA.trans (by rw [List.cons_perm_iff_perm_erase]; exact ⟨fun h => h.2, fun h => ⟨hm2, h⟩⟩), by have := List.length_erase_of_mem hm2; omega, rfl⟩
    · have hin : inD (rowD q) (rowsD L) = false := by rw [inD_R, decide_eq_false hm2]
      have : ¬ sortL rs = sortL qs := fun hh => hm2 ((hA.mp hh).mem_iff.mp (by simp))
      rw [decide_eq_false this] at h
      (repeat' (first | (with_reducible assumption) | (with_reducible intro _) | (with_reducible apply And.intro) | fail "ca" | simp -dsimp only [↓u_22, ↓u_37, ↓u_50, ↓u_51, ↓u_52, ↓u_53, ↓u_55, ↓u_56, ↓u_59, ↓u_60, ↓u_62, ↓u_63, ↓u_65, ↓u_78, ↓u_79, ↓u_80, ↓u_81, ↓u_91, ↓u_98, ↓u_100, u_101, ↓u_102, u_116, u_120, u_127, u_128, u_129, u_132, u_133, u_134, u_135, u_136, u_139, u_151, ↓u_170, u_194, u_195, ↓u_198, u_229, u_231, u_233, u_234, u_235, u_236, u_240, u_241, u_244, u_245, u_246, u_247, u_248, u_250, u_251, u_255, u_256, u_288, ↓u_293, ↓u_319, ↓u_321, u_371, u_470, u_475, u_476, u_478, ↓u_504, ↓u_567, ↓u_568, ↓u_570, ↓u_571, ↓u_574, ↓u_575, ↓u_576, ↓u_580, ↓u_583, u_586, List.map_nil, List.map_cons, Nat.reduceSub, Nat.reduceAdd, Nat.reduceLT, Nat.reduceLeDiff, reduceIte, String.reduceBEq, String.reduceEq, Int.reduceLT, Int.reduceLE, Int.reduceEq, Int.reduceToNat, hin] | fail "ix" | (with_reducible refine rdDh_of (by with_reducible assumption) ?_) | (with_reducible refine rdRh_of (by with_reducible assumption) ?_) | (with_reducible refine rwK_row (by with_reducible assumption) ?_) | (with_reducible refine cnd_T (by with_reducible assumption) ?_) | (with_reducible refine cnd_F (by with_reducible assumption) ?_) | (with_reducible refine cnd_yes (by omega) ?_) | (with_reducible refine cnd_no (by omega) ?_) | (with_reducible refine cnd_dec ?_ ?_) | (with_reducible refine cnd_of ?_ ?_) | fail "si" | fail))
      all_goals first | exact h | trace_state
  · rintro r om' ⟨rfl, L, x3, hA, hLl, rfl⟩
    rw [len_rows, List.drop_length] at hA
    have oL := okE_rows L
    have e9 : decide (sortL rs = sortL qs) = decide (L = []) := decide_eq_decide.mpr (hA.trans List.nil_perm)
    rw [e9] at h
    fail "gs"
end
theorem ok_law_same {P : Program} {w : World} {K : PySem.W.Frag} {mg : Str → Option Value} {base : Heap} {f : Addr} {fd : FuncData} (F : FunD K "_law_same" "_law_same" (defArgs s_law_same) (defBody s_law_same) (defScope s_law_same) [] [] f fd) (T : Txt K mg) : GFn P w K mg base (L2.CX P w) 1 f fd ["_law_one", "_law_other_here"] (toSp K c_law_same) :=
  (fn_ok (c := c_law_same) F sc_law_same rfl (fun cdv A outer s H E hr => d_law_same T cdv A outer s H E hr) wp_law_same)
def df_is_row : DF := fun ds om k xk => ∃ (d : D), ds = [d] ∧ (plainD d = true) ∧ (plains d = true) ∧ (k (.v (.bl (isRow d))) om)
theorem call_is_row {om : Om} {k : RV → Om → Prop} {xk : Exn → Om → Prop} {d : D} (hd : plainD d = true) (hp : plains d = true) (h : k (.v (.bl (isRow d))) om) : df_is_row [d] om k xk := ⟨d, rfl, hd, hp, h⟩
def c_is_row : Con := ⟨1, df_is_row, by intro ds om k xk h; obtain ⟨d, rfl, _, _, _⟩ := h; rfl, by intro ds om k k' xk xk' hk hx h; obtain ⟨d, e_, hd, hp, h⟩ := h; refine ⟨d, e_, hd, hp, ?_⟩; first | exact hk _ _ h | exact hx _ _ h | exact fun hq => hk _ _ (h hq) | (intros; apply hk; apply h <;> assumption) | (simp only [cnd] at h ⊢; grind) | grind⟩
theorem callK_is_row {om : Om} {k : RV → Om → Prop} {xk : Exn → Om → Prop} {d : D} {t : Tg (df_is_row, k, xk)} (hd : plainD d = true) (hp : plains d = true) (h : k (.v (.bl (isRow d))) om) : callK df_is_row [d] om k xk t := call_is_row hd hp h
def w_is_row : WS :=
  (wSeq (wIfS (wOr (wNot (wTru (wCB pIsi (wCons (wBor 0) (wCons (wC (.raw (.ty "tuple"))) wNil))))) (wNot (wTst (wChain pLeA pLeA (wC (.int 1)) (wCB pLen (wCons (wBor 0) wNil)) (wC (.int 24)))))) (wRet (wC (.bl false))) wNext) (wRet (wCB pAll (wCons (wLc (wiA (wVar 0)) (gN 1) wYes (wCall df_is_number [] (wCons (wVar 1) wNil)) [1]) wNil))))
theorem d_is_row {P : Program} {w : World} {K : PySem.W.Frag} {mg : Str → Option Value} {base : Heap} {f : Addr} (T : Txt K mg) (D_is_number : Def P w K mg base "is_number" c_is_number 1) (cdv : Value) (A : Around) (outer : List PySem.Env) (s : Shared) (H : Hp) (E : XK) (hr : GRoom 1 (A.deeper (PyProof.Rows.envOfC "is_row" (defScope s_is_row) s.heap.objs.size f cdv))) :
    ∃ t, DSs (cxOf (L2.CX P w) P w K mg base ["thing", "number"] "is_row" (defScope s_is_row) f cdv A outer s H E) (fun cls d _ H => E cls d H) (defBody s_is_row) t w_is_row :=
  ⟨_, (dss_cons (ds_if (DW.dt (dw_or (dt_not (dt_tru (de_cb n_isi T.n_isinstance (by decide +kernel) (da_cons (de_bor 0) (da_cons (de_ty T.n_tuple (by decide +kernel)) da_nil))))) (dw_or1 (dt_not (dt_chain (o_leA hr) (o_leA hr) de_int (de_cb n_len T.n_len (by decide +kernel) (da_cons (de_bor 0) da_nil)) (de_glob T.c_WIDEST)))))) (dss_one (ds_ret de_bl)) dss_nil) (dss_one (ds_ret (de_cb (n_all rfl) T.n_all (by decide +kernel) (da_cons (de_lc (own := [("number", 1)]) rfl sc_is_row.nd (di_any (de_var 0) (K' := K)) (by kernel_rfl) (fun _ _ _ _ _ => (dgv_name 1 sc_is_row.nd)) (fun _ _ _ _ _ => dts_nil) (fun _ _ _ _ _ => (de_call' (K' := K) (c := c_is_number) D_is_number (hr.mono (by decide)) takes0 (da_cons (de_var 1) da_nil))) s) da_nil)))))⟩
local macro_rules | `(tactic| fail "ca") => `(tactic| (with_reducible refine ca_guard ?_; first | with_reducible refine callK_is_number ?_ ?_ | with_reducible refine callK_less ?_ ?_ ?_ ?_ | with_reducible refine callK_law_deck ?_ ?_ | with_reducible refine callK_law_next (by fail "ra") ?_ ?_ ?_ ?_ | with_reducible refine callK_law_whole ?_ ?_ | with_reducible refine callK_law_first ?_ ?_ ?_ ?_ ?_ | with_reducible refine callK_law_same ?_ ?_ ?_ | with_reducible refine callK_is_row ?_ ?_ ?_))

section
local macro_rules | `(tactic| fail "d1") => `(tactic| simp -dsimp only [↓u_22, ↓u_50, ↓u_52, ↓u_53, ↓u_56, ↓u_59, ↓u_60, ↓u_62, ↓u_65, ↓u_66, ↓u_79, ↓u_80, ↓u_81, ↓u_82, ↓u_84, ↓u_85, ↓u_89, ↓u_96, ↓u_97, u_115, u_116, u_117, u_118, u_119, u_120, u_121, u_122, u_123, u_127, u_130, u_132, u_133, u_134, u_135, u_136, u_137, u_139, u_140, u_150, u_154, u_155, u_156, u_157, u_158, u_159, u_160, u_161, ↓u_162, u_167, ↓u_169, u_194, ↓u_198, ↓u_208, u_229, u_231, u_233, u_234, u_235, u_236, u_240, u_241, u_243, u_244, u_245, u_246, u_247, u_248, u_250, u_251, u_253, u_270, u_271, ↓u_283, u_288, ↓u_321, u_371, ↓u_567, ↓u_568, ↓u_570, ↓u_571, ↓u_573, ↓u_574, ↓u_576, ↓u_585, List.map_nil, List.map_cons, Nat.reduceSub, Nat.reduceAdd, Nat.reduceLT, Nat.reduceLeDiff, reduceIte, String.reduceBEq, String.reduceEq, Int.reduceLT, Int.reduceLE, Int.reduceEq, Int.reduceToNat])
local macro_rules | `(tactic| fail "dl") => `(tactic| try fail "d1")
theorem wp_is_row (ds : List D) (om : Om) (k : RV → Om → Prop) (xk : Exn → Om → Prop) (h : df_is_row ds om k xk) : w_is_row (endOf k xk) (startE 2 ds) om := by
  obtain ⟨d, rfl, hd, hp, h⟩ := h
  unfold w_is_row endOf
  cases d with
  | h a => cases hd
  | raw v => cases hd
  | exc c n v => cases hd
  | fn x => cases hd
  | tup es =>
    have hp' : ∀ x ∈ es, plainD x = true := by simpa [plains] using hp
    fail "gs"
    · refine lc_map (fun d => .bl (isNum d)) (sz_le (by omega)) (fun i d acc nx e hz hn => ?_) ?_
      · have hq := hp' d (List.mem_of_getElem? e)
        fail "gs"
      · fail "gs"
        rw [bools_mapf]; fail "gs"
        have e : isRow (.tup es) = (es.map isNum).all id := by
          simp only [isRow]
          have e1 : decide (1 ≤ es.length) = true := by rw [decide_eq_true_eq]; omega
          have e2 : decide (es.length ≤ 24) = true := by rw [decide_eq_true_eq]; omega
          rw [e1, e2, List.all_map]; rfl
        rw [← e]; exact h
    · have e : isRow (.tup es) = false := by
        simp only [isRow]
        have e2 : decide (es.length ≤ 24) = false := by rw [decide_eq_false_iff_not]; omega
        rw [e2]; simp
      rw [← e]; exact h
    · have e : isRow (.tup es) = false := by
        simp only [isRow]
        have e2 : decide (1 ≤ es.length) = false := by rw [decide_eq_false_iff_not]; omega
        rw [e2]; simp
      rw [← e]; exact h
  | _ => fail "gs"; exact h
end
theorem ok_is_row {P : Program} {w : World} {K : PySem.W.Frag} {mg : Str → Option Value} {base : Heap} {f : Addr} {fd : FuncData} (F : FunD K "is_row" "is_row" (defArgs s_is_row) (defBody s_is_row) (defScope s_is_row) [] [] f fd) (T : Txt K mg) (D_is_number : Def P w K mg base "is_number" c_is_number 1) : GFn P w K mg base (L2.CX P w) 2 f fd ["thing"] (toSp K c_is_row) :=
  (fn_ok (c := c_is_row) F sc_is_row rfl (fun cdv A outer s H E hr => d_is_row T D_is_number cdv A outer s H E hr) wp_is_row)
def df_law_number : DF := fun ds om k xk => ∃ (a : Addr), ∃ (n : Nat), ds = [.h a] ∧ (Dk om a n) ∧ (n < 100000000000) ∧ (∀ z om', z.natAbs ≤ 10 ^ 18 → Dk om' a (n + 9) → k (.v (.int z)) om')
theorem call_law_number {om : Om} {k : RV → Om → Prop} {xk : Exn → Om → Prop} {a : Addr} {n : Nat} (ha : Dk om a n) (hn : n < 100000000000) (h : ∀ z om', z.natAbs ≤ 10 ^ 18 → Dk om' a (n + 9) → k (.v (.int z)) om') : df_law_number [.h a] om k xk := ⟨a, n, rfl, ha, hn, h⟩
def c_law_number : Con := ⟨1, df_law_number, by intro ds om k xk h; obtain ⟨a, n, rfl, _, _, _⟩ := h; rfl, by intro ds om k k' xk xk' hk hx h; obtain ⟨a, n, e_, ha, hn, h⟩ := h; refine ⟨a, n, e_, ha, hn, ?_⟩; first | exact hk _ _ h | exact hx _ _ h | exact fun hq => hk _ _ (h hq) | (intros; apply hk; apply h <;> assumption) | (simp only [cnd] at h ⊢; grind) | grind⟩
theorem callK_law_number {om : Om} {k : RV → Om → Prop} {xk : Exn → Om → Prop} {a : Addr} {n : Nat} {t : Tg (df_law_number, k, xk)} (ha : Dk om a n) (hn : n < 100000000000) (h : ∀ z om', z.natAbs ≤ 10 ^ 18 → Dk om' a (n + 9) → k (.v (.int z)) om') : callK df_law_number [.h a] om k xk t := call_law_number ha hn h
def w_law_number : WS :=
  (wSeq (wAsg (wFz (wCall df_law_next [] (wCons (wVar 0) (wCons (wC (.int 6)) wNil)))) (gN 1)) (wSeq (wIfS (wTst (wOp pLtA (wBor 1) (wC (.int 3)))) (wRet (wOp pSub (wCall df_law_next [] (wCons (wVar 0) (wCons (wC (.int 7)) wNil))) (wC (.int 3)))) wNext) (wSeq (wIfS (wTst (wOp pEq (wBor 1) (wC (.int 3)))) (wRet (wOp pSub (wCall df_law_next [] (wCons (wVar 0) (wCons (wC (.int 2001)) wNil))) (wC (.int 1000)))) wNext) (wSeq (wAsg (wFz (wOp pAdd (wOp pMul (wCall df_law_next [] (wCons (wVar 0) (wCons (wOp pPow (wC (.int 10)) (wC (.int 9))) wNil))) (wOp pPow (wC (.int 10)) (wC (.int 9)))) (wCall df_law_next [] (wCons (wVar 0) (wCons (wOp pPow (wC (.int 10)) (wC (.int 9))) wNil))))) (gN 2)) (wRet (wOp pIx (wLst (wCons (wVar 2) (wCons (wOp pSub (wC (.int 0)) (wBor 2)) (wCons (wOp pPow (wC (.int 10)) (wC (.int 18))) (wCons (wOp pSub (wC (.int 0)) (wOp pPow (wC (.int 10)) (wC (.int 18)))) wNil))))) (wCall df_law_next [] (wCons (wVar 0) (wCons (wC (.int 4)) wNil)))))))))
theorem d_law_number {P : Program} {w : World} {K : PySem.W.Frag} {mg : Str → Option Value} {base : Heap} {f : Addr} (T : Txt K mg) (D_law_next : Def P w K mg base "_law_next" c_law_next 1) (cdv : Value) (A : Around) (outer : List PySem.Env) (s : Shared) (H : Hp) (E : XK) (hr : GRoom 1 (A.deeper (PyProof.Rows.envOfC "_law_number" (defScope s_law_number) s.heap.objs.size f cdv))) :
    ∃ t, DSs (cxOf (L2.CX P w) P w K mg base ["_law_deck_here", "_law_way", "_law_far"] "_law_number" (defScope s_law_number) f cdv A outer s H E) (fun cls d _ H => E cls d H) (defBody s_law_number) t w_law_number :=
  ⟨_, (dss_cons (ds_set 1 sc_law_number.nd (de_fz (de_call (c := c_law_next) D_law_next (hr.mono (by decide)) (takes_of rfl rfl rfl rfl) (da_cons (de_var 0) (da_cons de_int da_nil))))) (dss_cons (ds_if (dt_cmp (o_ltA hr) (de_bor 1) de_int) (dss_one (ds_ret (de_op o_sub (de_call (c := c_law_next) D_law_next (hr.mono (by decide)) (takes_of rfl rfl rfl rfl) (da_cons (de_var 0) (da_cons de_int da_nil))) de_int))) dss_nil) (dss_cons (ds_if (dt_cmp (o_eq hr) (de_bor 1) de_int) (dss_one (ds_ret (de_op o_sub (de_call (c := c_law_next) D_law_next (hr.mono (by decide)) (takes_of rfl rfl rfl rfl) (da_cons (de_var 0) (da_cons de_int da_nil))) de_int))) dss_nil) (dss_cons (ds_set 2 sc_law_number.nd (de_fz (de_op o_add (de_op o_mul (de_call (c := c_law_next) D_law_next (hr.mono (by decide)) (takes_of rfl rfl rfl rfl) (da_cons (de_var 0) (da_cons (de_op o_pow de_int de_int) da_nil))) (de_op o_pow de_int de_int)) (de_call (c := c_law_next) D_law_next (hr.mono (by decide)) (takes_of rfl rfl rfl rfl) (da_cons (de_var 0) (da_cons (de_op o_pow de_int de_int) da_nil)))))) (dss_one (ds_ret (de_ix (de_lst (da_cons (de_var 2) (da_cons (de_op o_sub de_int (de_bor 2)) (da_cons (de_op o_pow de_int de_int) (da_cons (de_op o_sub de_int (de_op o_pow de_int de_int)) da_nil))))) (de_call (c := c_law_next) D_law_next (hr.mono (by decide)) (takes_of rfl rfl rfl rfl) (da_cons (de_var 0) (da_cons de_int da_nil))))))))))⟩
local macro_rules | `(tactic| fail "ca") => `(tactic| (with_reducible refine ca_guard ?_; first | with_reducible refine callK_is_number ?_ ?_ | with_reducible refine callK_less ?_ ?_ ?_ ?_ | with_reducible refine callK_law_deck ?_ ?_ | with_reducible refine callK_law_next (by fail "ra") ?_ ?_ ?_ ?_ | with_reducible refine callK_law_whole ?_ ?_ | with_reducible refine callK_law_first ?_ ?_ ?_ ?_ ?_ | with_reducible refine callK_law_same ?_ ?_ ?_ | with_reducible refine callK_is_row ?_ ?_ ?_ | with_reducible refine callK_law_number (by fail "ra") ?_ ?_))

section
local macro_rules | `(tactic| fail "d1") => `(tactic| simp -dsimp only [↓u_22, ↓u_50, ↓u_51, ↓u_52, ↓u_53, ↓u_56, ↓u_59, ↓u_60, ↓u_62, ↓u_63, ↓u_66, ↓u_78, ↓u_79, ↓u_80, ↓u_81, u_116, u_117, u_127, u_128, u_132, u_133, u_136, u_139, ↓u_176, u_194, ↓u_198, ↓u_199, ↓u_202, ↓u_206, ↓u_218, ↓u_222, ↓u_225, u_229, u_233, u_234, u_235, u_236, u_240, u_241, u_243, u_244, u_245, u_246, u_247, u_248, u_250, u_251, ↓u_335, u_371, ↓u_567, ↓u_568, ↓u_574, ↓u_576, List.map_nil, List.map_cons, Nat.reduceSub, Nat.reduceAdd, Nat.reduceLT, Nat.reduceLeDiff, reduceIte, String.reduceBEq, String.reduceEq, Int.reduceLT, Int.reduceLE, Int.reduceEq, Int.reduceToNat])
local macro_rules | `(tactic| fail "dl") => `(tactic| try fail "d1")
theorem wp_law_number (ds : List D) (om : Om) (k : RV → Om → Prop) (xk : Exn → Om → Prop) (h : df_law_number ds om k xk) : w_law_number (endOf k xk) (startE 3 ds) om := by
  obtain ⟨a, n, rfl, ha, hn, h⟩ := h
  unfold w_law_number endOf
  fail "gs"
  all_goals first
    | exact h _ _ (by omega) (Dk.mono (by assumption) (by omega))
    | (refine ixK_pick (by omega) (by simp only [List.length_cons, List.length_nil]; omega) ?_
       intro d hd
       simp only [List.mem_cons, List.not_mem_nil, or_false] at hd
       rcases hd with rfl | rfl | rfl | rfl <;> exact ⟨trivial, h _ _ (by omega) (Dk.mono (by assumption) (by omega))⟩)
end
theorem ok_law_number {P : Program} {w : World} {K : PySem.W.Frag} {mg : Str → Option Value} {base : Heap} {f : Addr} {fd : FuncData} (F : FunD K "_law_number" "_law_number" (defArgs s_law_number) (defBody s_law_number) (defScope s_law_number) [] [] f fd) (T : Txt K mg) (D_law_next : Def P w K mg base "_law_next" c_law_next 1) : GFn P w K mg base (L2.CX P w) 2 f fd ["_law_deck_here"] (toSp K c_law_number) :=
  (fn_ok (c := c_law_number) F sc_law_number rfl (fun cdv A outer s H E hr => d_law_number T D_law_next cdv A outer s H E hr) wp_law_number)
def df_law_in_order : DF := fun ds om k xk => ∃ (rs : List (List Int)), ∃ (c : Int), ∃ (w : Nat), ds = [.lst (rowsD rs), .int c] ∧ (Wd w rs) ∧ (1 ≤ w) ∧ (w ≤ 24) ∧ (0 ≤ c) ∧ (c < w) ∧ (rs.length ≤ 4000) ∧ (k (.o (rowsD (sortR c.toNat rs))) om)
theorem call_law_in_order {om : Om} {k : RV → Om → Prop} {xk : Exn → Om → Prop} {rs : List (List Int)} {c : Int} {w : Nat} (hr : Wd w rs) (w0 : 1 ≤ w) (w1 : w ≤ 24) (c0 : 0 ≤ c) (c1 : c < w) (hl : rs.length ≤ 4000) (h : k (.o (rowsD (sortR c.toNat rs))) om) : df_law_in_order [.lst (rowsD rs), .int c] om k xk := ⟨rs, c, w, rfl, hr, w0, w1, c0, c1, hl, h⟩
def c_law_in_order : Con := ⟨2, df_law_in_order, by intro ds om k xk h; obtain ⟨rs, c, w, rfl, _, _, _, _, _, _, _⟩ := h; rfl, by intro ds om k k' xk xk' hk hx h; obtain ⟨rs, c, w, e_, hr, w0, w1, c0, c1, hl, h⟩ := h; refine ⟨rs, c, w, e_, hr, w0, w1, c0, c1, hl, ?_⟩; first | exact hk _ _ h | exact hx _ _ h | exact fun hq => hk _ _ (h hq) | (intros; apply hk; apply h <;> assumption) | (simp only [cnd] at h ⊢; grind) | grind⟩
theorem callK_law_in_order {om : Om} {k : RV → Om → Prop} {xk : Exn → Om → Prop} {rs : List (List Int)} {c : Int} {w : Nat} {t : Tg (df_law_in_order, k, xk)} (hr : Wd w rs) (w0 : 1 ≤ w) (w1 : w ≤ 24) (c0 : 0 ≤ c) (c1 : c < w) (hl : rs.length ≤ 4000) (h : k (.o (rowsD (sortR c.toNat rs))) om) : callK df_law_in_order [.lst (rowsD rs), .int c] om k xk t := call_law_in_order hr w0 w1 c0 c1 hl h
def w_law_in_order : WS :=
  (wSeq (wAsg (wLst wNil) (gN 2)) (wSeq (wFor (wiA (wVar 0)) (gN 3) (wSeq (wAsg (wFz (wCB pLen (wCons (wBor 2) wNil))) (gN 4)) (wSeq (wWhile (wAnd (wTst (wOp pGtA (wBor 4) (wC (.int 0)))) (wTru (wCall df_law_first [] (wCons (wVar 3) (wCons (wOp pIx (wBor 2) (wOp pSub (wBor 4) (wC (.int 1)))) (wCons (wVar 1) wNil)))))) (wAsg (wFz (wOp pSub (wBor 4) (wC (.int 1)))) (gN 4))) (wDrop (wMut 2 mIns (wCons (wVar 4) (wCons (wVar 3) wNil))))))) (wRet (wMov 2))))
theorem d_law_in_order {P : Program} {w : World} {K : PySem.W.Frag} {mg : Str → Option Value} {base : Heap} {f : Addr} (T : Txt K mg) (D_law_first : Def P w K mg base "_law_first" c_law_first 1) (cdv : Value) (A : Around) (outer : List PySem.Env) (s : Shared) (H : Hp) (E : XK) (hr : GRoom 1 (A.deeper (PyProof.Rows.envOfC "_law_in_order" (defScope s_law_in_order) s.heap.objs.size f cdv))) :
    ∃ t, DSs (cxOf (L2.CX P w) P w K mg base ["_law_rows_here", "_law_column", "_law_found", "_law_row", "_law_at"] "_law_in_order" (defScope s_law_in_order) f cdv A outer s H E) (fun cls d _ H => E cls d H) (defBody s_law_in_order) t w_law_in_order :=
  ⟨_, (dss_cons (ds_set 2 sc_law_in_order.nd (de_lst da_nil)) (dss_cons (ds_for (passes_of rfl) rfl (di_any (de_var 0) (K' := K)) (dg_name 3 sc_law_in_order.nd) (dss_cons (ds_set 4 sc_law_in_order.nd (de_fz (de_cb n_len T.n_len (by decide +kernel) (da_cons (de_bor 2) da_nil)))) (dss_cons (ds_while (passes_of rfl) (DW.dt (dw_and (dt_cmp (o_gtA hr) (de_bor 4) de_int) (dw_and1 (dt_tru (de_call (c := c_law_first) D_law_first (hr.mono (by decide)) (takes_of rfl rfl rfl rfl) (da_cons (de_var 3) (da_cons (de_ix (de_bor 2) (de_op o_sub (de_bor 4) de_int)) (da_cons (de_var 1) da_nil)))))))) (dss_one (ds_set 4 sc_law_in_order.nd (de_fz (de_op o_sub (de_bor 4) de_int))))) (dss_one (ds_drop (de_ins 2 (de_var 4) (de_var 3) (K' := K))))))) (dss_one (ds_retV 2))))⟩
local macro_rules | `(tactic| fail "ca") => `(tactic| (with_reducible refine ca_guard ?_; first | with_reducible refine callK_is_number ?_ ?_ | with_reducible refine callK_less ?_ ?_ ?_ ?_ | with_reducible refine callK_law_deck ?_ ?_ | with_reducible refine callK_law_next (by fail "ra") ?_ ?_ ?_ ?_ | with_reducible refine callK_law_whole ?_ ?_ | with_reducible refine callK_law_first ?_ ?_ ?_ ?_ ?_ | with_reducible refine callK_law_same ?_ ?_ ?_ | with_reducible refine callK_is_row ?_ ?_ ?_ | with_reducible refine callK_law_number (by fail "ra") ?_ ?_ | with_reducible refine callK_law_in_order (by fail "ra") ?_ ?_ ?_ ?_ ?_ ?_))

section
local macro_rules | `(tactic| fail "d1") => `(tactic| simp -dsimp only [↓u_22, ↓u_51, ↓u_52, ↓u_53, ↓u_55, ↓u_59, ↓u_60, ↓u_61, ↓u_62, ↓u_63, ↓u_65, ↓u_66, ↓u_78, ↓u_79, ↓u_80, ↓u_81, ↓u_82, ↓u_83, ↓u_91, ↓u_98, ↓u_100, u_101, ↓u_102, u_116, u_117, u_127, u_129, u_132, u_133, u_134, u_135, u_136, u_138, u_139, u_140, u_148, ↓u_169, ↓u_176, u_194, u_195, ↓u_198, ↓u_199, ↓u_207, u_229, u_231, u_233, u_234, u_235, u_236, u_240, u_241, u_243, u_244, u_245, u_246, u_247, u_248, u_250, u_251, ↓u_321, ↓u_335, u_371, ↓u_441, ↓u_567, ↓u_568, ↓u_570, ↓u_571, ↓u_574, ↓u_575, ↓u_576, ↓u_579, ↓u_580, ↓u_583, u_592, List.map_nil, List.map_append, List.map_cons, Nat.reduceSub, Nat.reduceAdd, Nat.reduceLT, Nat.reduceLeDiff, reduceIte, String.reduceBEq, String.reduceEq, Int.reduceLT, Int.reduceLE, Int.reduceEq, Int.reduceToNat])
local macro_rules | `(tactic| fail "dl") => `(tactic| try fail "d1")
theorem wp_law_in_order (ds : List D) (om : Om) (k : RV → Om → Prop) (xk : Exn → Om → Prop) (h : df_law_in_order ds om k xk) : w_law_in_order (endOf k xk) (startE 5 ds) om := by
  obtain ⟨rs, c, w, rfl, hr, w0, w1, c0, c1, hl, h⟩ := h
  unfold w_law_in_order endOf
  fail "gs"
  refine loop_list (fun i r om' => om' = om ∧ ∃ x3 x4, r = [some (.v (.lst (rowsD rs))), some (.v (.int c)), some (.o (rowsD (sortR c.toNat (rs.take i)))), x3, x4]) ⟨rfl, none, none, by rw [show sortR c.toNat (rs.take 0) = [] by simp [sortR]]; rfl⟩ ?_ ?_
  · rintro i d r om' nx e ⟨rfl, x3, x4, rfl⟩ hnx
    obtain ⟨q, eq, rfl⟩ := rows_get e
    have hi := (List.getElem?_eq_some_iff.mp eq).1
    have lq := hr q (List.mem_of_getElem? eq)
    have ht : rs.take (i + 1) = rs.take i ++ [q] := by rw [List.take_add_one, eq]; rfl
    have hsr := sortR_srt c.toNat (rs.take i)
    have hpm := sortR_perm c.toNat (rs.take i)
    have hwd : Wd w (sortR c.toNat (rs.take i)) := fun r m => hr r (List.mem_of_mem_take (hpm.mem_iff.mp m))
    have hln := hpm.length_eq
    rw [List.length_take] at hln
    have key : ∀ zs : List (List Int), zs.Perm (q :: sortR c.toNat (rs.take i)) → Srt c.toNat zs → zs = sortR c.toNat (rs.take (i + 1)) := fun zs h1 h2 => sortR_of (h1.trans (by rw [ht]; exact (List.Perm.cons q hpm).trans (List.perm_append_singleton q _).symm)) h2
    generalize sortR c.toNat (rs.take i) = S at *
    have lS := len_rows S
    unfold stepOf
    fail "gs"
    refine while_inv (fun M r om2 => om2 = om' ∧ M ≤ S.length ∧ (∀ x ∈ S.drop M, leR c.toNat q x) ∧ r = [some (.v (.lst (rowsD rs))), some (.v (.int c)), some (.o (rowsD S)), some (.v (rowD q)), some (.v (.int (M : Int)))]) (m := S.length) ⟨rfl, Nat.le_refl _, by rw [List.drop_length]; simp, rfl⟩ ?_
    rintro M r om2 ⟨rfl, hM, hd, rfl⟩
    have fin : (∀ x ∈ S.take M, leR c.toNat x q) → S.take M ++ q :: S.drop M = sortR c.toNat (rs.take (i + 1)) := fun h2 => key _ (by
      refine List.perm_middle.trans (List.Perm.cons q ?_)
      rw [List.take_append_drop]) (ins_srt hsr hM hd h2)
    have er : ∀ n : Nat, (rowsD S).take n ++ [rowD q] ++ (rowsD S).drop n = rowsD (S.take n ++ q :: S.drop n) := fun n => by simp [rowsD, List.map_take, List.map_drop]
    cases M with
    | zero =>
      have f0 := fin (by simp)
      fail "gs"
      rw [Int.toNat_natCast, er, f0]
      exact hnx _ _ ⟨rfl, _, _, rfl⟩
    | succ M =>
      have hM2 : M < S.length := by omega
      have et : (((M + 1 : Nat) : Int) - 1).toNat = M := by omega
      have hz : S.getD M [] ∈ S := by rw [List.getD_eq_getElem?_getD, List.getElem?_eq_getElem hM2]; exact List.getElem_mem _
      have lz := hwd _ hz
      have hSM : S.getD M [] = S[M] := by rw [List.getD_eq_getElem?_getD, List.getElem?_eq_getElem hM2]; rfl
      have hdM : S.drop M = S.getD M [] :: S.drop (M + 1) := by rw [List.drop_eq_getElem_cons hM2, hSM]
      cases hle : lessR c.toNat q (S.getD M []) with
      | true =>
        have hq1 := leR_of_less hle
        have hm1 : ∀ x ∈ S.drop M, leR c.toNat q x := fun x mx => by
          rw [hdM] at mx
          rcases List.mem_cons.mp mx with rfl | mx
          · exact hq1
          · exact hd x mx
        rw [← et] at hle lz
        (repeat' (first | (with_reducible assumption) | (with_reducible intro _) | (with_reducible apply And.intro) | fail "ca" | simp -dsimp only [↓u_22, ↓u_51, ↓u_52, ↓u_53, ↓u_55, ↓u_59, ↓u_60, ↓u_61, ↓u_62, ↓u_63, ↓u_65, ↓u_66, ↓u_78, ↓u_79, ↓u_80, ↓u_81, ↓u_82, ↓u_83, ↓u_91, ↓u_98, ↓u_100, u_101, ↓u_102, u_116, u_117, u_127, u_129, u_132, u_133, u_134, u_135, u_136, u_138, u_139, u_140, u_148, ↓u_169, ↓u_176, u_194, u_195, ↓u_198, ↓u_199, ↓u_207, u_229, u_231, u_233, u_234, u_235, u_236, u_240, u_241, u_243, u_244, u_245, u_246, u_247, u_248, u_250, u_251, ↓u_321, ↓u_335, u_371, ↓u_441, ↓u_567, ↓u_568, ↓u_570, ↓u_571, ↓u_574, ↓u_575, ↓u_576, ↓u_579, ↓u_580, ↓u_583, u_592, List.map_nil, List.map_append, List.map_cons, Nat.reduceSub, Nat.reduceAdd, Nat.reduceLT, Nat.reduceLeDiff, reduceIte, String.reduceBEq, String.reduceEq, Int.reduceLT, Int.reduceLE, Int.reduceEq, Int.reduceToNat, hle] | fail "ix" | (with_reducible refine rdDh_of (by with_reducible assumption) ?_) | (with_reducible refine rdRh_of (by with_reducible assumption) ?_) | (with_reducible refine rwK_row (by with_reducible assumption) ?_) | (with_reducible refine cnd_T (by with_reducible assumption) ?_) | (with_reducible refine cnd_F (by with_reducible assumption) ?_) | (with_reducible refine cnd_yes (by omega) ?_) | (with_reducible refine cnd_no (by omega) ?_) | (with_reducible refine cnd_dec ?_ ?_) | (with_reducible refine cnd_of ?_ ?_) | fail "si" | fail))
        exact ⟨M, by omega, by omega, hm1, by rw [show ((M + 1 : Nat) : Int) - 1 = (M : Int) by omega]⟩
      | false =>
        have hq1 : leR c.toNat (S.getD M []) q := hle
        have f1 := fin (fun x mx => by
          rw [List.take_add_one, List.getElem?_eq_getElem hM2, ← hSM] at mx
          rcases List.mem_append.mp mx with mx | mx
          · have hp : Srt c.toNat (S.take M ++ S.drop M) := by rw [List.take_append_drop]; exact hsr
            exact leR_trans ((List.pairwise_append.mp hp).2.2 x mx (S.getD M []) (by rw [hdM]; simp)) hq1
          · simp only [Option.toList_some, List.mem_singleton] at mx
            rw [mx]; exact hq1)
        rw [← et] at hle lz
        (repeat' (first | (with_reducible assumption) | (with_reducible intro _) | (with_reducible apply And.intro) | fail "ca" | simp -dsimp only [↓u_22, ↓u_51, ↓u_52, ↓u_53, ↓u_55, ↓u_59, ↓u_60, ↓u_61, ↓u_62, ↓u_63, ↓u_65, ↓u_66, ↓u_78, ↓u_79, ↓u_80, ↓u_81, ↓u_82, ↓u_83, ↓u_91, ↓u_98, ↓u_100, u_101, ↓u_102, u_116, u_117, u_127, u_129, u_132, u_133, u_134, u_135, u_136, u_138, u_139, u_140, u_148, ↓u_169, ↓u_176, u_194, u_195, ↓u_198, ↓u_199, ↓u_207, u_229, u_231, u_233, u_234, u_235, u_236, u_240, u_241, u_243, u_244, u_245, u_246, u_247, u_248, u_250, u_251, ↓u_321, ↓u_335, u_371, ↓u_441, ↓u_567, ↓u_568, ↓u_570, ↓u_571, ↓u_574, ↓u_575, ↓u_576, ↓u_579, ↓u_580, ↓u_583, u_592, List.map_nil, List.map_append, List.map_cons, Nat.reduceSub, Nat.reduceAdd, Nat.reduceLT, Nat.reduceLeDiff, reduceIte, String.reduceBEq, String.reduceEq, Int.reduceLT, Int.reduceLE, Int.reduceEq, Int.reduceToNat, hle] | fail "ix" | (with_reducible refine rdDh_of (by with_reducible assumption) ?_) | (with_reducible refine rdRh_of (by with_reducible assumption) ?_) | (with_reducible refine rwK_row (by with_reducible assumption) ?_) | (with_reducible refine cnd_T (by with_reducible assumption) ?_) | (with_reducible refine cnd_F (by with_reducible assumption) ?_) | (with_reducible refine cnd_yes (by omega) ?_) | (with_reducible refine cnd_no (by omega) ?_) | (with_reducible refine cnd_dec ?_ ?_) | (with_reducible refine cnd_of ?_ ?_) | fail "si" | fail))
        rw [Int.toNat_natCast, er, f1]
        exact hnx _ _ ⟨rfl, _, _, rfl⟩
  · rintro r om' ⟨rfl, x3, x4, rfl⟩
    rw [len_rows, List.take_length]
    fail "gs"
end
theorem ok_law_in_order {P : Program} {w : World} {K : PySem.W.Frag} {mg : Str → Option Value} {base : Heap} {f : Addr} {fd : FuncData} (F : FunD K "_law_in_order" "_law_in_order" (defArgs s_law_in_order) (defBody s_law_in_order) (defScope s_law_in_order) [] [] f fd) (T : Txt K mg) (D_law_first : Def P w K mg base "_law_first" c_law_first 1) : GFn P w K mg base (L2.CX P w) 2 f fd ["_law_rows_here", "_law_column"] (toSp K c_law_in_order) :=
  (fn_ok (c := c_law_in_order) F sc_law_in_order rfl (fun cdv A outer s H E hr => d_law_in_order T D_law_first cdv A outer s H E hr) wp_law_in_order)
def df_law_alike : DF := fun ds om k xk => ∃ (rs : List (List Int)), ds = [.lst (rowsD rs), .lst (rowsD rs)] ∧ (rs.length ≤ 4000) ∧ (∀ r ∈ rs, r.length ≤ 60) ∧ (k (.v (.bl true)) om)
theorem call_law_alike {om : Om} {k : RV → Om → Prop} {xk : Exn → Om → Prop} {rs : List (List Int)} (hl : rs.length ≤ 4000) (hw : ∀ r ∈ rs, r.length ≤ 60) (h : k (.v (.bl true)) om) : df_law_alike [.lst (rowsD rs), .lst (rowsD rs)] om k xk := ⟨rs, rfl, hl, hw, h⟩
def c_law_alike : Con := ⟨2, df_law_alike, by intro ds om k xk h; obtain ⟨rs, rfl, _, _, _⟩ := h; rfl, by intro ds om k k' xk xk' hk hx h; obtain ⟨rs, e_, hl, hw, h⟩ := h; refine ⟨rs, e_, hl, hw, ?_⟩; first | exact hk _ _ h | exact hx _ _ h | exact fun hq => hk _ _ (h hq) | (intros; apply hk; apply h <;> assumption) | (simp only [cnd] at h ⊢; grind) | grind⟩
theorem callK_law_alike {om : Om} {k : RV → Om → Prop} {xk : Exn → Om → Prop} {rs : List (List Int)} {t : Tg (df_law_alike, k, xk)} (hl : rs.length ≤ 4000) (hw : ∀ r ∈ rs, r.length ≤ 60) (h : k (.v (.bl true)) om) : callK df_law_alike [.lst (rowsD rs), .lst (rowsD rs)] om k xk t := call_law_alike hl hw h
def w_law_alike : WS :=
  (wSeq (wIfS (wOr (wNot (wTru (wCB pIsi (wCons (wBor 0) (wCons (wC (.raw (.ty "list"))) wNil))))) (wTst (wOp pNe (wCB pLen (wCons (wBor 0) wNil)) (wCB pLen (wCons (wBor 1) wNil))))) (wRet (wC (.bl false))) wNext) (wSeq (wFor (wiA (wVar 0)) (gN 2) (wIfS (wOr (wNot (wTru (wCB pIsi (wCons (wBor 2) (wCons (wC (.raw (.ty "tuple"))) wNil))))) (wTst (wOp pNe (wLc (wiA (wVar 2)) (gN 3) (wNot (wTru (wCall df_law_whole [] (wCons (wVar 3) wNil)))) (wVar 3) [3]) (wLst wNil)))) (wRet (wC (.bl false))) wNext)) (wRet (wOp pEq (wBor 0) (wBor 1)))))
theorem d_law_alike {P : Program} {w : World} {K : PySem.W.Frag} {mg : Str → Option Value} {base : Heap} {f : Addr} (T : Txt K mg) (D_law_whole : Def P w K mg base "_law_whole" c_law_whole 1) (cdv : Value) (A : Around) (outer : List PySem.Env) (s : Shared) (H : Hp) (E : XK) (hr : GRoom 1 (A.deeper (PyProof.Rows.envOfC "_law_alike" (defScope s_law_alike) s.heap.objs.size f cdv))) :
    ∃ t, DSs (cxOf (L2.CX P w) P w K mg base ["_law_found", "_law_due", "_law_row", "_law_number_here"] "_law_alike" (defScope s_law_alike) f cdv A outer s H E) (fun cls d _ H => E cls d H) (defBody s_law_alike) t w_law_alike :=
  ⟨_, (dss_cons (ds_if (DW.dt (dw_or (dt_not (dt_tru (de_cb n_isi T.n_isinstance (by decide +kernel) (da_cons (de_bor 0) (da_cons (de_ty T.n_list (by decide +kernel)) da_nil))))) (dw_or1 (dt_cmp (o_ne hr) (de_cb n_len T.n_len (by decide +kernel) (da_cons (de_bor 0) da_nil)) (de_cb n_len T.n_len (by decide +kernel) (da_cons (de_bor 1) da_nil)))))) (dss_one (ds_ret de_bl)) dss_nil) (dss_cons (ds_for (passes_of rfl) rfl (di_any (de_var 0) (K' := K)) (dg_name 2 sc_law_alike.nd) (dss_one (ds_if (DW.dt (dw_or (dt_not (dt_tru (de_cb n_isi T.n_isinstance (by decide +kernel) (da_cons (de_bor 2) (da_cons (de_ty T.n_tuple (by decide +kernel)) da_nil))))) (dw_or1 (dt_cmp (o_ne hr) (de_lc (own := [("_law_number_here", 3)]) rfl sc_law_alike.nd (di_any (de_var 2) (K' := K)) (by kernel_rfl) (fun _ _ _ _ _ => (dgv_name 3 sc_law_alike.nd)) (fun _ _ _ _ _ => (dts_one (dt_not (dt_tru' (K' := K) (de_call' (K' := K) (c := c_law_whole) D_law_whole (hr.mono (by decide)) takes0 (da_cons (de_var 3) da_nil)))))) (fun _ _ _ _ _ => (de_var 3)) s) (de_lst da_nil))))) (dss_one (ds_ret de_bl)) dss_nil))) (dss_one (ds_ret (de_cmp (o_eq hr) (de_bor 0) (de_bor 1))))))⟩
local macro_rules | `(tactic| fail "ca") => `(tactic| (with_reducible refine ca_guard ?_; first | with_reducible refine callK_is_number ?_ ?_ | with_reducible refine callK_less ?_ ?_ ?_ ?_ | with_reducible refine callK_law_deck ?_ ?_ | with_reducible refine callK_law_next (by fail "ra") ?_ ?_ ?_ ?_ | with_reducible refine callK_law_whole ?_ ?_ | with_reducible refine callK_law_first ?_ ?_ ?_ ?_ ?_ | with_reducible refine callK_law_same ?_ ?_ ?_ | with_reducible refine callK_is_row ?_ ?_ ?_ | with_reducible refine callK_law_number (by fail "ra") ?_ ?_ | with_reducible refine callK_law_in_order (by fail "ra") ?_ ?_ ?_ ?_ ?_ ?_ | with_reducible refine callK_law_alike ?_ ?_ ?_))

section
local macro_rules | `(tactic| fail "d1") => `(tactic| simp -dsimp only [↓u_22, ↓u_50, ↓u_52, ↓u_53, ↓u_56, ↓u_59, ↓u_60, ↓u_62, ↓u_63, ↓u_65, ↓u_66, ↓u_78, ↓u_79, ↓u_80, ↓u_81, ↓u_82, ↓u_84, ↓u_85, ↓u_91, ↓u_97, u_116, u_117, u_119, u_120, u_123, u_127, u_128, u_130, u_132, u_133, u_134, u_135, u_136, u_139, u_140, u_148, u_158, u_159, ↓u_162, u_166, u_167, ↓u_169, u_194, ↓u_198, ↓u_226, u_229, u_231, u_233, u_234, u_235, u_236, u_240, u_241, u_243, u_244, u_245, u_246, u_247, u_248, u_250, u_251, u_254, u_255, u_257, u_268, u_270, u_271, ↓u_293, ↓u_294, ↓u_321, u_371, u_372, u_384, u_471, u_476, u_478, ↓u_567, ↓u_568, ↓u_570, ↓u_571, ↓u_573, ↓u_574, ↓u_576, ↓u_583, ↓u_585, u_592, List.map_nil, List.map_cons, Nat.reduceSub, Nat.reduceAdd, Nat.reduceLT, Nat.reduceLeDiff, reduceIte, String.reduceBEq, String.reduceEq, Int.reduceLT, Int.reduceLE, Int.reduceEq, Int.reduceToNat])
local macro_rules | `(tactic| fail "dl") => `(tactic| try fail "d1")
theorem wp_law_alike (ds : List D) (om : Om) (k : RV → Om → Prop) (xk : Exn → Om → Prop) (h : df_law_alike ds om k xk) : w_law_alike (endOf k xk) (startE 4 ds) om := by
  obtain ⟨rs, rfl, hl, hw, h⟩ := h
  unfold w_law_alike endOf
  have oR := okE_rows rs
  have eR : eqD (.lst (rowsD rs)) (.lst (rowsD rs)) = true := eqD_self (by simp only [okc]; exact okcs_rows rs)
  have lR := len_rows rs
  fail "gs"
  refine loop_list (fun i r om' => om' = om ∧ ∃ x2 x3, r = [some (.v (.lst (rowsD rs))), some (.v (.lst (rowsD rs))), x2, x3]) ⟨rfl, _, _, rfl⟩ ?_ ?_
  · rintro i d r om' nx e ⟨rfl, x2, x3, rfl⟩ hnx
    obtain ⟨q, eq, rfl⟩ := rows_get e
    have hq := hw q (List.mem_of_getElem? eq)
    unfold stepOf
    simp only [rowD]
    fail "gs"
    refine lc_list (fun j acc r om2 => om2 = om' ∧ acc = [] ∧ r = [some (.v (.lst (rowsD rs))), some (.v (.lst (rowsD rs))), some (.v (.tup (q.map D.int))), none]) ⟨rfl, rfl, rfl⟩ ?_ ?_
    · rintro j d acc r om2 nx2 e2 ⟨rfl, rfl, rfl⟩ hn2
      obtain ⟨x, ex, rfl⟩ := ints_get' e2
      fail "gs"
      exact hn2 _ _ _ ⟨rfl, rfl, rfl⟩
    · rintro acc r om2 ⟨rfl, rfl, rfl⟩
      fail "gs"
      exact hnx _ _ ⟨rfl, _, _, rfl⟩
  · rintro r om' ⟨rfl, x2, x3, rfl⟩
    (repeat' (first | (with_reducible assumption) | (with_reducible intro _) | (with_reducible apply And.intro) | fail "ca" | simp -dsimp only [↓u_22, ↓u_50, ↓u_52, ↓u_53, ↓u_56, ↓u_59, ↓u_60, ↓u_62, ↓u_63, ↓u_65, ↓u_66, ↓u_78, ↓u_79, ↓u_80, ↓u_81, ↓u_82, ↓u_84, ↓u_85, ↓u_91, ↓u_97, u_116, u_117, u_119, u_120, u_123, u_127, u_128, u_130, u_132, u_133, u_134, u_135, u_136, u_139, u_140, u_148, u_158, u_159, ↓u_162, u_166, u_167, ↓u_169, u_194, ↓u_198, ↓u_226, u_229, u_231, u_233, u_234, u_235, u_236, u_240, u_241, u_243, u_244, u_245, u_246, u_247, u_248, u_250, u_251, u_254, u_255, u_257, u_268, u_270, u_271, ↓u_293, ↓u_294, ↓u_321, u_371, u_372, u_384, u_471, u_476, u_478, ↓u_567, ↓u_568, ↓u_570, ↓u_571, ↓u_573, ↓u_574, ↓u_576, ↓u_583, ↓u_585, u_592, List.map_nil, List.map_cons, Nat.reduceSub, Nat.reduceAdd, Nat.reduceLT, Nat.reduceLeDiff, reduceIte, String.reduceBEq, String.reduceEq, Int.reduceLT, Int.reduceLE, Int.reduceEq, Int.reduceToNat, eR] | fail "ix" | (with_reducible refine rdDh_of (by with_reducible assumption) ?_) | (with_reducible refine rdRh_of (by with_reducible assumption) ?_) | (with_reducible refine rwK_row (by with_reducible assumption) ?_) | (with_reducible refine cnd_T (by with_reducible assumption) ?_) | (with_reducible refine cnd_F (by with_reducible assumption) ?_) | (with_reducible refine cnd_yes (by omega) ?_) | (with_reducible refine cnd_no (by omega) ?_) | (with_reducible refine cnd_dec ?_ ?_) | (with_reducible refine cnd_of ?_ ?_) | fail "si" | fail))
end
theorem ok_law_alike {P : Program} {w : World} {K : PySem.W.Frag} {mg : Str → Option Value} {base : Heap} {f : Addr} {fd : FuncData} (F : FunD K "_law_alike" "_law_alike" (defArgs s_law_alike) (defBody s_law_alike) (defScope s_law_alike) [] [] f fd) (T : Txt K mg) (D_law_whole : Def P w K mg base "_law_whole" c_law_whole 1) : GFn P w K mg base (L2.CX P w) 2 f fd ["_law_found", "_law_due"] (toSp K c_law_alike) :=
  (fn_ok (c := c_law_alike) F sc_law_alike rfl (fun cdv A outer s H E hr => d_law_alike T D_law_whole cdv A outer s H E hr) wp_law_alike)
def df_law_other : DF := fun ds om k xk => ∃ (a : Addr), ∃ (n : Nat), ∃ (rs : List (List Int)), ∃ (w : Nat), ds = [.h a, .lst (rowsD rs)] ∧ (Dk om a n) ∧ (n < 10000000000) ∧ (Wd w rs) ∧ (1 ≤ w) ∧ (w ≤ 24) ∧ (rs.length ≤ 60) ∧ (∀ (os : List (List Int)) om', Wd w os → os.length ≤ 70 → Dk om' a (n + 80) → k (.v (.lst (rowsD os))) om')
theorem call_law_other {om : Om} {k : RV → Om → Prop} {xk : Exn → Om → Prop} {a : Addr} {n : Nat} {rs : List (List Int)} {w : Nat} (ha : Dk om a n) (hn : n < 10000000000) (hr : Wd w rs) (w0 : 1 ≤ w) (w1 : w ≤ 24) (hl : rs.length ≤ 60) (h : ∀ (os : List (List Int)) om', Wd w os → os.length ≤ 70 → Dk om' a (n + 80) → k (.v (.lst (rowsD os))) om') : df_law_other [.h a, .lst (rowsD rs)] om k xk := ⟨a, n, rs, w, rfl, ha, hn, hr, w0, w1, hl, h⟩
def c_law_other : Con := ⟨2, df_law_other, by intro ds om k xk h; obtain ⟨a, n, rs, w, rfl, _, _, _, _, _, _, _⟩ := h; rfl, by intro ds om k k' xk xk' hk hx h; obtain ⟨a, n, rs, w, e_, ha, hn, hr, w0, w1, hl, h⟩ := h; refine ⟨a, n, rs, w, e_, ha, hn, hr, w0, w1, hl, ?_⟩; first | exact hk _ _ h | exact hx _ _ h | exact fun hq => hk _ _ (h hq) | (intros; apply hk; apply h <;> assumption) | (simp only [cnd] at h ⊢; grind) | grind⟩
theorem callK_law_other {om : Om} {k : RV → Om → Prop} {xk : Exn → Om → Prop} {a : Addr} {n : Nat} {rs : List (List Int)} {w : Nat} {t : Tg (df_law_other, k, xk)} (ha : Dk om a n) (hn : n < 10000000000) (hr : Wd w rs) (w0 : 1 ≤ w) (w1 : w ≤ 24) (hl : rs.length ≤ 60) (h : ∀ (os : List (List Int)) om', Wd w os → os.length ≤ 70 → Dk om' a (n + 80) → k (.v (.lst (rowsD os))) om') : callK df_law_other [.h a, .lst (rowsD rs)] om k xk t := call_law_other ha hn hr w0 w1 hl h
def w_law_other : WS :=
  (wSeq (wAsg (wCB pList (wCons (wBor 1) wNil)) (gN 2)) (wSeq (wAsg (wLst wNil) (gN 3)) (wSeq (wFor (wiR1 (wCons (wCB pLen (wCons (wBor 1) wNil)) wNil)) (gN 4) (wDrop (wMut 3 mApp (wCons (wMut 2 mPopAt (wCons (wCall df_law_next [] (wCons (wVar 0) (wCons (wCB pLen (wCons (wBor 2) wNil)) wNil))) wNil)) wNil)))) (wSeq (wAsg (wFz (wCall df_law_next [] (wCons (wVar 0) (wCons (wC (.int 6)) wNil)))) (gN 5)) (wSeq (wIfS (wOr (wTst (wOp pGtA (wBor 5) (wC (.int 2)))) (wTst (wOp pEqL (wBor 3) (wLst wNil)))) (wRet (wFz (wVar 3))) wNext) (wSeq (wAsg (wFz (wCall df_law_next [] (wCons (wVar 0) (wCons (wCB pLen (wCons (wBor 3) wNil)) wNil)))) (gN 6)) (wSeq (wAsg (wFz (wCall df_law_next [] (wCons (wVar 0) (wCons (wCB pLen (wCons (wOp pIx (wBor 3) (wBor 6)) wNil)) wNil)))) (gN 4)) (wSeq (wAsg (wFz (wOp pAdd (wOp pAdd (wSl (wOp pIx (wBor 3) (wBor 6)) wON (wOS (wBor 4))) (wTup (wCons (wOp pAdd (wOp pIx (wOp pIx (wBor 3) (wBor 6)) (wBor 4)) (wC (.int 1))) wNil))) (wSl (wOp pIx (wBor 3) (wBor 6)) (wOS (wOp pAdd (wBor 4) (wC (.int 1)))) wON))) (gN 7)) (wSeq (wAsg (wFz (wOp pIx (wLst (wCons (wLst (wCons (wVar 7) wNil)) (wCons (wLst wNil) (wCons (wLst (wCons (wOp pIx (wBor 3) (wBor 6)) (wCons (wOp pIx (wBor 3) (wBor 6)) wNil))) wNil)))) (wBor 5))) (gN 8)) (wRet (wFz (wOp pAdd (wOp pAdd (wSl (wBor 3) wON (wOS (wBor 6))) (wBor 8)) (wSl (wBor 3) (wOS (wOp pAdd (wBor 6) (wC (.int 1)))) wON)))))))))))))
theorem d_law_other {P : Program} {w : World} {K : PySem.W.Frag} {mg : Str → Option Value} {base : Heap} {f : Addr} (T : Txt K mg) (D_law_next : Def P w K mg base "_law_next" c_law_next 1) (cdv : Value) (A : Around) (outer : List PySem.Env) (s : Shared) (H : Hp) (E : XK) (hr : GRoom 1 (A.deeper (PyProof.Rows.envOfC "_law_other" (defScope s_law_other) s.heap.objs.size f cdv))) :
    ∃ t, DSs (cxOf (L2.CX P w) P w K mg base ["_law_deck_here", "_law_rows_here", "_law_left", "_law_found", "_law_k", "_law_way", "_law_at", "_law_changed", "_law_middle"] "_law_other" (defScope s_law_other) f cdv A outer s H E) (fun cls d _ H => E cls d H) (defBody s_law_other) t w_law_other :=
  ⟨_, (dss_cons (ds_set 2 sc_law_other.nd (de_ct n_list T.n_list (by decide +kernel) (da_cons (de_bor 1) da_nil))) (dss_cons (ds_set 3 sc_law_other.nd (de_lst da_nil)) (dss_cons (ds_for (passes_of rfl) rfl (di_r1 T.n_range (da_cons (de_cb n_len T.n_len (by decide +kernel) (da_cons (de_bor 1) da_nil)) da_nil)) (dg_name 4 sc_law_other.nd) (dss_one (ds_drop (de_app 3 (de_popAt 2 (de_call (c := c_law_next) D_law_next (hr.mono (by decide)) (takes_of rfl rfl rfl rfl) (da_cons (de_var 0) (da_cons (de_cb n_len T.n_len (by decide +kernel) (da_cons (de_bor 2) da_nil)) da_nil)))))))) (dss_cons (ds_set 5 sc_law_other.nd (de_fz (de_call (c := c_law_next) D_law_next (hr.mono (by decide)) (takes_of rfl rfl rfl rfl) (da_cons (de_var 0) (da_cons de_int da_nil))))) (dss_cons (ds_if (DW.dt (dw_or (dt_cmp (o_gtA hr) (de_bor 5) de_int) (dw_or1 (dt_cmp (o_eqL hr) (de_bor 3) (de_lst da_nil))))) (dss_one (ds_ret (de_fz (de_var 3)))) dss_nil) (dss_cons (ds_set 6 sc_law_other.nd (de_fz (de_call (c := c_law_next) D_law_next (hr.mono (by decide)) (takes_of rfl rfl rfl rfl) (da_cons (de_var 0) (da_cons (de_cb n_len T.n_len (by decide +kernel) (da_cons (de_bor 3) da_nil)) da_nil))))) (dss_cons (ds_set 4 sc_law_other.nd (de_fz (de_call (c := c_law_next) D_law_next (hr.mono (by decide)) (takes_of rfl rfl rfl rfl) (da_cons (de_var 0) (da_cons (de_cb n_len T.n_len (by decide +kernel) (da_cons (de_ix (de_bor 3) (de_bor 6)) da_nil)) da_nil))))) (dss_cons (ds_set 7 sc_law_other.nd (de_fz (de_op o_add (de_op o_add (de_sl (de_ix (de_bor 3) (de_bor 6)) do_none (do_some (de_bor 4))) (de_tup (da_cons (de_op o_add (de_ix (de_ix (de_bor 3) (de_bor 6)) (de_bor 4)) de_int) da_nil))) (de_sl (de_ix (de_bor 3) (de_bor 6)) (do_some (de_op o_add (de_bor 4) de_int)) do_none)))) (dss_cons (ds_set 8 sc_law_other.nd (de_fz (de_ix (de_lst (da_cons (de_lst (da_cons (de_var 7) da_nil)) (da_cons (de_lst da_nil) (da_cons (de_lst (da_cons (de_ix (de_bor 3) (de_bor 6)) (da_cons (de_ix (de_bor 3) (de_bor 6)) da_nil))) da_nil)))) (de_bor 5)))) (dss_one (ds_ret (de_fz (de_op o_add (de_op o_add (de_sl (de_bor 3) do_none (do_some (de_bor 6))) (de_bor 8)) (de_sl (de_bor 3) (do_some (de_op o_add (de_bor 6) de_int)) do_none))))))))))))))⟩
local macro_rules | `(tactic| fail "ca") => `(tactic| (with_reducible refine ca_guard ?_; first | with_reducible refine callK_is_number ?_ ?_ | with_reducible refine callK_less ?_ ?_ ?_ ?_ | with_reducible refine callK_law_deck ?_ ?_ | with_reducible refine callK_law_next (by fail "ra") ?_ ?_ ?_ ?_ | with_reducible refine callK_law_whole ?_ ?_ | with_reducible refine callK_law_first ?_ ?_ ?_ ?_ ?_ | with_reducible refine callK_law_same ?_ ?_ ?_ | with_reducible refine callK_is_row ?_ ?_ ?_ | with_reducible refine callK_law_number (by fail "ra") ?_ ?_ | with_reducible refine callK_law_in_order (by fail "ra") ?_ ?_ ?_ ?_ ?_ ?_ | with_reducible refine callK_law_alike ?_ ?_ ?_ | with_reducible refine callK_law_other (by fail "ra") ?_ (by fail "ra") ?_ ?_ ?_ ?_))

section
local macro_rules | `(tactic| fail "d1") => `(tactic| simp -dsimp only [↓u_19, ↓u_22, ↓u_50, ↓u_51, ↓u_52, ↓u_53, ↓u_55, ↓u_56, ↓u_59, ↓u_60, ↓u_62, ↓u_63, ↓u_65, ↓u_66, ↓u_77, ↓u_78, ↓u_79, ↓u_80, ↓u_81, ↓u_84, ↓u_91, ↓u_92, ↓u_98, ↓u_100, u_101, ↓u_102, ↓u_111, u_116, u_117, u_119, u_120, u_127, u_128, u_129, u_132, u_133, u_134, u_135, u_136, u_137, u_138, u_139, u_145, u_146, u_148, u_151, ↓u_169, ↓u_170, ↓u_176, u_186, u_194, u_195, ↓u_198, ↓u_207, ↓u_218, ↓u_219, ↓u_220, u_229, u_231, u_233, u_234, u_235, u_236, u_240, u_241, u_243, u_244, u_245, u_246, u_247, u_248, u_250, u_251, ↓u_272, ↓u_273, ↓u_274, ↓u_275, ↓u_277, ↓u_280, ↓u_335, u_371, u_486, ↓u_567, ↓u_568, ↓u_570, ↓u_574, ↓u_575, ↓u_576, ↓u_577, ↓u_580, u_586, u_587, ↓u_590, u_592, List.length_append, List.map_nil, List.map_append, List.map_cons, Nat.reduceSub, Nat.reduceAdd, Nat.reduceLT, Nat.reduceLeDiff, reduceIte, String.reduceBEq, String.reduceEq, Int.reduceLT, Int.reduceLE, Int.reduceEq, Int.reduceToNat])
local macro_rules | `(tactic| fail "dl") => `(tactic| try fail "d1")
theorem wp_law_other (ds : List D) (om : Om) (k : RV → Om → Prop) (xk : Exn → Om → Prop) (h : df_law_other ds om k xk) : w_law_other (endOf k xk) (startE 9 ds) om := by
  obtain ⟨a, n, rs, w, rfl, ha, hn, hr, w0, w1, hl, h⟩ := h
  unfold w_law_other endOf
  have lR := len_rows rs
  fail "gs"
  refine loop_rng (fun i r om' => ∃ (L F : List (List Int)) (x4 : Option RV), Wd w L ∧ Wd w F ∧ L.length + i = rs.length ∧ F.length = i ∧ Dk om' a (n + i) ∧ r = [some (.v (.h a)), some (.v (.lst (rowsD rs))), some (.o (rowsD L)), some (.o (rowsD F)), x4, none, none, none, none]) ⟨rs, [], _, hr, (fun _ m => nomatch m), by omega, rfl, ha, rfl⟩ ?_ ?_
  · rintro i r om' nx hi ⟨L, F, x4, hL, hF, hlen, hFl, hdk, rfl⟩ hnx
    have lL := len_rows L
    have lF := len_rows F
    unfold stepOf
    fail "gs"
    rename_i z om3 z0 z1 hd3
    have hz2 : z.toNat < L.length := by omega
    have hz : (rowsD L)[z.toNat]? = some (rowD L[z.toNat]) := by rw [rowsD, List.getElem?_map, List.getElem?_eq_getElem hz2]; rfl
    rw [hz]
    fail "gs"
    rw [era_rows]
    refine hnx _ _ ⟨L.eraseIdx z.toNat, F ++ [L[z.toNat]], _, fun q m => hL q (List.mem_of_mem_eraseIdx m), fun q m => ?_, by rw [List.length_eraseIdx_of_lt hz2]; omega, by simp [hFl], hd3.mono (by omega), by simp [rowsD]; rfl⟩
    rcases List.mem_append.mp m with m | m
    · exact hF q m
    · rw [List.mem_singleton.mp m]; exact hL _ (List.getElem_mem _)
  · rintro r om' ⟨L, F, x4, hL, hF, hlen, hFl, hdk, rfl⟩
    have lF := len_rows F
    have hF0 : (rowsD F).isEmpty = false → 0 < F.length := fun h => by
      cases F with
      | nil => cases h
      | cons _ _ => simp
    have hg : ∀ j, j < F.length → (F.getD j []).length = w := fun j hj => hF _ (by rw [List.getD_eq_getElem?_getD, List.getElem?_eq_getElem hj]; exact List.getElem_mem _)
    fail "gs"
    · exact h F _ hF (by omega) (Dk.mono (by assumption) (by omega))
    · exact h F _ hF (by omega) (Dk.mono (by assumption) (by omega))
    · have := hF0 (by assumption); omega
    · rename_i he at_ om5 at0 at1 hd5
      rw [hg _ (by omega)]; omega
    · rename_i he at_ om5 at0 at1 hd5
      rw [hg _ (by omega)]; omega
    · rename_i way om3 w0' w1' hd3 hway he at_ om4 at0 at1 hd4 kk om5 k0 k1 hd5
      obtain ⟨m, rfl⟩ := Int.eq_ofNat_of_zero_le k0
      have hj : at_.toNat < F.length := by omega
      have lq := hg _ hj
      have hqm : F.getD at_.toNat [] ∈ F := by rw [List.getD_eq_getElem?_getD, List.getElem?_eq_getElem hj]; exact List.getElem_mem _
      have e1 := cut_lo (F.getD at_.toNat []) m (by omega)
      have e2 := cut_hi (F.getD at_.toNat []) (m + 1) (by omega)
      have ea := cutR_lo F at_.toNat (by omega)
      have eb := cutR_hi F (at_.toNat + 1) (by omega)
      rw [show ((at_.toNat : Nat) : Int) = at_ by omega] at ea
      rw [show ((at_.toNat + 1 : Nat) : Int) = at_ + 1 by omega] at eb
      rw [show ((m + 1 : Nat) : Int) = (m : Int) + 1 by omega] at e2
      simp only [rowD]
      (repeat' (first | (with_reducible assumption) | (with_reducible intro _) | (with_reducible apply And.intro) | fail "ca" | simp -dsimp only [↓u_19, ↓u_22, ↓u_50, ↓u_51, ↓u_52, ↓u_53, ↓u_55, ↓u_56, ↓u_59, ↓u_60, ↓u_62, ↓u_63, ↓u_65, ↓u_66, ↓u_77, ↓u_78, ↓u_79, ↓u_80, ↓u_81, ↓u_84, ↓u_91, ↓u_92, ↓u_98, ↓u_100, u_101, ↓u_102, ↓u_111, u_116, u_117, u_119, u_120, u_127, u_128, u_129, u_132, u_133, u_134, u_135, u_136, u_137, u_138, u_139, u_145, u_146, u_148, u_151, ↓u_169, ↓u_170, ↓u_176, u_186, u_194, u_195, ↓u_198, ↓u_207, ↓u_218, ↓u_219, ↓u_220, u_229, u_231, u_233, u_234, u_235, u_236, u_240, u_241, u_243, u_244, u_245, u_246, u_247, u_248, u_250, u_251, ↓u_272, ↓u_273, ↓u_274, ↓u_275, ↓u_277, ↓u_280, ↓u_335, u_371, u_486, ↓u_567, ↓u_568, ↓u_570, ↓u_574, ↓u_575, ↓u_576, ↓u_577, ↓u_580, u_586, u_587, ↓u_590, u_592, List.length_append, List.map_nil, List.map_append, List.map_cons, Nat.reduceSub, Nat.reduceAdd, Nat.reduceLT, Nat.reduceLeDiff, reduceIte, String.reduceBEq, String.reduceEq, Int.reduceLT, Int.reduceLE, Int.reduceEq, Int.reduceToNat, e1, e2, ea, eb] | fail "ix" | (with_reducible refine rdDh_of (by with_reducible assumption) ?_) | (with_reducible refine rdRh_of (by with_reducible assumption) ?_) | (with_reducible refine rwK_row (by with_reducible assumption) ?_) | (with_reducible refine cnd_T (by with_reducible assumption) ?_) | (with_reducible refine cnd_F (by with_reducible assumption) ?_) | (with_reducible refine cnd_yes (by omega) ?_) | (with_reducible refine cnd_no (by omega) ?_) | (with_reducible refine cnd_dec ?_ ?_) | (with_reducible refine cnd_of ?_ ?_) | fail "si" | fail))
      simp only [rowD]
      (repeat' (first | (with_reducible assumption) | (with_reducible intro _) | (with_reducible apply And.intro) | fail "ca" | simp -dsimp only [↓u_19, ↓u_22, ↓u_50, ↓u_51, ↓u_52, ↓u_53, ↓u_55, ↓u_56, ↓u_59, ↓u_60, ↓u_62, ↓u_63, ↓u_65, ↓u_66, ↓u_77, ↓u_78, ↓u_79, ↓u_80, ↓u_81, ↓u_84, ↓u_91, ↓u_92, ↓u_98, ↓u_100, u_101, ↓u_102, ↓u_111, u_116, u_117, u_119, u_120, u_127, u_128, u_129, u_132, u_133, u_134, u_135, u_136, u_137, u_138, u_139, u_145, u_146, u_148, u_151, ↓u_169, ↓u_170, ↓u_176, u_186, u_194, u_195, ↓u_198, ↓u_207, ↓u_218, ↓u_219, ↓u_220, u_229, u_231, u_233, u_234, u_235, u_236, u_240, u_241, u_243, u_244, u_245, u_246, u_247, u_248, u_250, u_251, ↓u_272, ↓u_273, ↓u_274, ↓u_275, ↓u_277, ↓u_280, ↓u_335, u_371, u_486, ↓u_567, ↓u_568, ↓u_570, ↓u_574, ↓u_575, ↓u_576, ↓u_577, ↓u_580, u_586, u_587, ↓u_590, u_592, List.length_append, List.map_nil, List.map_append, List.map_cons, Nat.reduceSub, Nat.reduceAdd, Nat.reduceLT, Nat.reduceLeDiff, reduceIte, String.reduceBEq, String.reduceEq, Int.reduceLT, Int.reduceLE, Int.reduceEq, Int.reduceToNat, e1, e2, ea, eb] | fail "ix" | (with_reducible refine rdDh_of (by with_reducible assumption) ?_) | (with_reducible refine rdRh_of (by with_reducible assumption) ?_) | (with_reducible refine rwK_row (by with_reducible assumption) ?_) | (with_reducible refine cnd_T (by with_reducible assumption) ?_) | (with_reducible refine cnd_F (by with_reducible assumption) ?_) | (with_reducible refine cnd_yes (by omega) ?_) | (with_reducible refine cnd_no (by omega) ?_) | (with_reducible refine cnd_dec ?_ ?_) | (with_reducible refine cnd_of ?_ ?_) | fail "si" | fail))
      refine ixK_pickP (fun d => ∃ ms : List (List Int), d = .lst (rowsD ms) ∧ Wd w ms ∧ ms.length ≤ 2) w0' (by simp only [List.length_cons, List.length_nil]; omega) (fun d md => ?_) ?_
      · simp only [List.mem_cons, List.not_mem_nil, or_false] at md
        rcases md with rfl | rfl | rfl
        · refine ⟨[(F.getD at_.toNat []).take m ++ [(F.getD at_.toNat []).getD (m : Int).toNat 0 + 1] ++ (F.getD at_.toNat []).drop (m + 1)], ?_, fun r mr => ?_, by simp⟩
          · simp [rowsD, rowD]
          · rw [List.mem_singleton.mp mr]
            simp only [List.length_append, List.length_take, List.length_drop, List.length_cons, List.length_nil]
            omega
        · exact ⟨[], rfl, (fun _ m => nomatch m), by simp⟩
        · refine ⟨[F.getD at_.toNat [], F.getD at_.toNat []], rfl, fun r mr => ?_, by simp⟩
          simp only [List.mem_cons, List.not_mem_nil, or_false] at mr
          rcases mr with rfl | rfl <;> exact lq
      · rintro _ ⟨ms, rfl, hms, hml⟩
        (repeat' (first | (with_reducible assumption) | (with_reducible intro _) | (with_reducible apply And.intro) | fail "ca" | simp -dsimp only [↓u_19, ↓u_22, ↓u_50, ↓u_51, ↓u_52, ↓u_53, ↓u_55, ↓u_56, ↓u_59, ↓u_60, ↓u_62, ↓u_63, ↓u_65, ↓u_66, ↓u_77, ↓u_78, ↓u_79, ↓u_80, ↓u_81, ↓u_84, ↓u_91, ↓u_92, ↓u_98, ↓u_100, u_101, ↓u_102, ↓u_111, u_116, u_117, u_119, u_120, u_127, u_128, u_129, u_132, u_133, u_134, u_135, u_136, u_137, u_138, u_139, u_145, u_146, u_148, u_151, ↓u_169, ↓u_170, ↓u_176, u_186, u_194, u_195, ↓u_198, ↓u_207, ↓u_218, ↓u_219, ↓u_220, u_229, u_231, u_233, u_234, u_235, u_236, u_240, u_241, u_243, u_244, u_245, u_246, u_247, u_248, u_250, u_251, ↓u_272, ↓u_273, ↓u_274, ↓u_275, ↓u_277, ↓u_280, ↓u_335, u_371, u_486, ↓u_567, ↓u_568, ↓u_570, ↓u_574, ↓u_575, ↓u_576, ↓u_577, ↓u_580, u_586, u_587, ↓u_590, u_592, List.length_append, List.map_nil, List.map_append, List.map_cons, Nat.reduceSub, Nat.reduceAdd, Nat.reduceLT, Nat.reduceLeDiff, reduceIte, String.reduceBEq, String.reduceEq, Int.reduceLT, Int.reduceLE, Int.reduceEq, Int.reduceToNat, ea, eb] | fail "ix" | (with_reducible refine rdDh_of (by with_reducible assumption) ?_) | (with_reducible refine rdRh_of (by with_reducible assumption) ?_) | (with_reducible refine rwK_row (by with_reducible assumption) ?_) | (with_reducible refine cnd_T (by with_reducible assumption) ?_) | (with_reducible refine cnd_F (by with_reducible assumption) ?_) | (with_reducible refine cnd_yes (by omega) ?_) | (with_reducible refine cnd_no (by omega) ?_) | (with_reducible refine cnd_dec ?_ ?_) | (with_reducible refine cnd_of ?_ ?_) | fail "si" | fail))
        refine h _ _ (fun r mr => ?_) ?_ (hd5.mono (by omega))
        · rcases List.mem_append.mp mr with mr | mr
          · rcases List.mem_append.mp mr with mr | mr
            · exact hF r (List.mem_of_mem_take mr)
            · exact hms r mr
          · exact hF r (List.mem_of_mem_drop mr)
        · simp only [List.length_append, List.length_take, List.length_drop]; omega
end
theorem ok_law_other {P : Program} {w : World} {K : PySem.W.Frag} {mg : Str → Option Value} {base : Heap} {f : Addr} {fd : FuncData} (F : FunD K "_law_other" "_law_other" (defArgs s_law_other) (defBody s_law_other) (defScope s_law_other) [] [] f fd) (T : Txt K mg) (D_law_next : Def P w K mg base "_law_next" c_law_next 1) : GFn P w K mg base (L2.CX P w) 2 f fd ["_law_deck_here", "_law_rows_here"] (toSp K c_law_other) :=
  (fn_ok (c := c_law_other) F sc_law_other rfl (fun cdv A outer s H E hr => d_law_other T D_law_next cdv A outer s H E hr) wp_law_other)
def df_law_neighbours : DF := fun ds om k xk => ∃ (rs : List (List Int)), ∃ (c : Int), ∃ (w : Nat), ds = [.lst (rowsD rs), .int c] ∧ (Wd w rs) ∧ (1 ≤ w) ∧ (w ≤ 24) ∧ (0 ≤ c) ∧ (c < w) ∧ (rs.length ≤ 60) ∧ (k (.v (.bl true)) om)
theorem call_law_neighbours {om : Om} {k : RV → Om → Prop} {xk : Exn → Om → Prop} {rs : List (List Int)} {c : Int} {w : Nat} (hr : Wd w rs) (w0 : 1 ≤ w) (w1 : w ≤ 24) (c0 : 0 ≤ c) (c1 : c < w) (hl : rs.length ≤ 60) (h : k (.v (.bl true)) om) : df_law_neighbours [.lst (rowsD rs), .int c] om k xk := ⟨rs, c, w, rfl, hr, w0, w1, c0, c1, hl, h⟩
def c_law_neighbours : Con := ⟨2, df_law_neighbours, by intro ds om k xk h; obtain ⟨rs, c, w, rfl, _, _, _, _, _, _, _⟩ := h; rfl, by intro ds om k k' xk xk' hk hx h; obtain ⟨rs, c, w, e_, hr, w0, w1, c0, c1, hl, h⟩ := h; refine ⟨rs, c, w, e_, hr, w0, w1, c0, c1, hl, ?_⟩; first | exact hk _ _ h | exact hx _ _ h | exact fun hq => hk _ _ (h hq) | (intros; apply hk; apply h <;> assumption) | (simp only [cnd] at h ⊢; grind) | grind⟩
theorem callK_law_neighbours {om : Om} {k : RV → Om → Prop} {xk : Exn → Om → Prop} {rs : List (List Int)} {c : Int} {w : Nat} {t : Tg (df_law_neighbours, k, xk)} (hr : Wd w rs) (w0 : 1 ≤ w) (w1 : w ≤ 24) (c0 : 0 ≤ c) (c1 : c < w) (hl : rs.length ≤ 60) (h : k (.v (.bl true)) om) : callK df_law_neighbours [.lst (rowsD rs), .int c] om k xk t := call_law_neighbours hr w0 w1 c0 c1 hl h
def w_law_neighbours : WS :=
  (wSeq (wFor (wiR1 (wCons (wOp pSub (wCB pLen (wCons (wBor 0) wNil)) (wC (.int 1))) wNil)) (gN 2) (wFor (wiA (wLst (wCons (wTup (wCons (wOp pIx (wBor 0) (wBor 2)) (wCons (wOp pIx (wBor 0) (wOp pAdd (wBor 2) (wC (.int 1)))) wNil))) (wCons (wTup (wCons (wOp pIx (wBor 0) (wOp pAdd (wBor 2) (wC (.int 1)))) (wCons (wOp pIx (wBor 0) (wBor 2)) wNil))) (wCons (wTup (wCons (wOp pIx (wBor 0) (wBor 2)) (wCons (wOp pIx (wBor 0) (wBor 2)) wNil))) wNil))))) (gN 3) (wSeq (wAsg (wFz (wCall df_less [] (wCons (wOp pIx (wBor 3) (wC (.int 0))) (wCons (wOp pIx (wBor 3) (wC (.int 1))) (wCons (wVar 1) wNil))))) (gN 4)) (wIfS (wOr (wNot (wTru (wCB pIsi (wCons (wBor 4) (wCons (wC (.raw (.ty "bool"))) wNil))))) (wTst (wOp pNe (wBor 4) (wCall df_law_first [] (wCons (wOp pIx (wBor 3) (wC (.int 0))) (wCons (wOp pIx (wBor 3) (wC (.int 1))) (wCons (wVar 1) wNil))))))) (wRet (wC (.bl false))) wNext)))) (wRet (wC (.bl true))))
theorem d_law_neighbours {P : Program} {w : World} {K : PySem.W.Frag} {mg : Str → Option Value} {base : Heap} {f : Addr} (T : Txt K mg) (D_law_first : Def P w K mg base "_law_first" c_law_first 1) (D_less : Def P w K mg base "less" c_less 1) (cdv : Value) (A : Around) (outer : List PySem.Env) (s : Shared) (H : Hp) (E : XK) (hr : GRoom 1 (A.deeper (PyProof.Rows.envOfC "_law_neighbours" (defScope s_law_neighbours) s.heap.objs.size f cdv))) :
    ∃ t, DSs (cxOf (L2.CX P w) P w K mg base ["_law_rows_here", "_law_column", "_law_at", "_law_pair", "_law_found"] "_law_neighbours" (defScope s_law_neighbours) f cdv A outer s H E) (fun cls d _ H => E cls d H) (defBody s_law_neighbours) t w_law_neighbours :=
  ⟨_, (dss_cons (ds_for (passes_of rfl) rfl (di_r1 T.n_range (da_cons (de_op o_sub (de_cb n_len T.n_len (by decide +kernel) (da_cons (de_bor 0) da_nil)) de_int) da_nil)) (dg_name 2 sc_law_neighbours.nd) (dss_one (ds_for (passes_of rfl) rfl (di_any (de_lst (da_cons (de_tup (da_cons (de_ix (de_bor 0) (de_bor 2)) (da_cons (de_ix (de_bor 0) (de_op o_add (de_bor 2) de_int)) da_nil))) (da_cons (de_tup (da_cons (de_ix (de_bor 0) (de_op o_add (de_bor 2) de_int)) (da_cons (de_ix (de_bor 0) (de_bor 2)) da_nil))) (da_cons (de_tup (da_cons (de_ix (de_bor 0) (de_bor 2)) (da_cons (de_ix (de_bor 0) (de_bor 2)) da_nil))) da_nil)))) (K' := K)) (dg_name 3 sc_law_neighbours.nd) (dss_cons (ds_set 4 sc_law_neighbours.nd (de_fz (de_call (c := c_less) D_less (hr.mono (by decide)) (takes_of rfl rfl rfl rfl) (da_cons (de_ix (de_bor 3) de_int) (da_cons (de_ix (de_bor 3) de_int) (da_cons (de_var 1) da_nil)))))) (dss_one (ds_if (DW.dt (dw_or (dt_not (dt_tru (de_cb n_isi T.n_isinstance (by decide +kernel) (da_cons (de_bor 4) (da_cons (de_ty T.n_bool (by decide +kernel)) da_nil))))) (dw_or1 (dt_cmp (o_ne hr) (de_bor 4) (de_call (c := c_law_first) D_law_first (hr.mono (by decide)) (takes_of rfl rfl rfl rfl) (da_cons (de_ix (de_bor 3) de_int) (da_cons (de_ix (de_bor 3) de_int) (da_cons (de_var 1) da_nil)))))))) (dss_one (ds_ret de_bl)) dss_nil)))))) (dss_one (ds_ret de_bl)))⟩
local macro_rules | `(tactic| fail "ca") => `(tactic| (with_reducible refine ca_guard ?_; first | with_reducible refine callK_is_number ?_ ?_ | with_reducible refine callK_less ?_ ?_ ?_ ?_ | with_reducible refine callK_law_deck ?_ ?_ | with_reducible refine callK_law_next (by fail "ra") ?_ ?_ ?_ ?_ | with_reducible refine callK_law_whole ?_ ?_ | with_reducible refine callK_law_first ?_ ?_ ?_ ?_ ?_ | with_reducible refine callK_law_same ?_ ?_ ?_ | with_reducible refine callK_is_row ?_ ?_ ?_ | with_reducible refine callK_law_number (by fail "ra") ?_ ?_ | with_reducible refine callK_law_in_order (by fail "ra") ?_ ?_ ?_ ?_ ?_ ?_ | with_reducible refine callK_law_alike ?_ ?_ ?_ | with_reducible refine callK_law_other (by fail "ra") ?_ (by fail "ra") ?_ ?_ ?_ ?_ | with_reducible refine callK_law_neighbours (by fail "ra") ?_ ?_ ?_ ?_ ?_ ?_))

section
local macro_rules | `(tactic| fail "d1") => `(tactic| simp -dsimp only [↓u_22, ↓u_50, ↓u_51, ↓u_52, ↓u_53, ↓u_56, ↓u_59, ↓u_60, ↓u_62, ↓u_63, ↓u_65, ↓u_66, ↓u_77, ↓u_78, ↓u_79, ↓u_80, ↓u_81, ↓u_82, ↓u_84, ↓u_85, ↓u_91, ↓u_92, u_116, u_117, u_119, u_120, u_123, u_127, u_132, u_133, u_134, u_135, u_136, u_137, u_139, u_140, u_146, u_148, u_155, ↓u_162, u_164, ↓u_169, ↓u_176, ↓u_178, ↓u_179, ↓u_180, u_194, ↓u_198, ↓u_199, ↓u_218, u_229, u_231, u_233, u_234, u_235, u_236, u_240, u_241, u_243, u_244, u_245, u_246, u_247, u_248, u_250, u_251, u_255, u_268, ↓u_321, ↓u_333, ↓u_335, u_371, ↓u_567, ↓u_568, ↓u_570, ↓u_571, ↓u_573, ↓u_574, ↓u_576, ↓u_583, u_592, List.map_nil, List.map_cons, Nat.reduceSub, Nat.reduceAdd, Nat.reduceLT, Nat.reduceLeDiff, reduceIte, String.reduceBEq, String.reduceEq, Int.reduceLT, Int.reduceLE, Int.reduceEq, Int.reduceToNat])
local macro_rules | `(tactic| fail "dl") => `(tactic| try fail "d1")
local macro_rules | `(tactic| fail "u1") => `(tactic| simp -dsimp only [↓u_22, ↓u_50, ↓u_51, ↓u_52, ↓u_53, ↓u_56, ↓u_59, ↓u_60, ↓u_62, ↓u_63, ↓u_65, ↓u_66, ↓u_77, ↓u_78, ↓u_79, ↓u_80, ↓u_81, ↓u_82, ↓u_84, ↓u_85, ↓u_91, ↓u_92, u_116, u_117, u_119, u_120, u_123, u_127, u_132, u_133, u_134, u_135, u_136, u_137, u_139, u_140, u_146, u_148, u_155, ↓u_162, u_164, ↓u_169, ↓u_176, ↓u_178, ↓u_179, ↓u_180, u_194, ↓u_198, ↓u_199, ↓u_218, u_229, u_231, u_233, u_234, u_235, u_236, u_240, u_241, u_243, u_244, u_245, u_246, u_247, u_248, u_250, u_251, u_255, u_268, ↓u_321, ↓u_333, ↓u_335, u_371, ↓u_567, ↓u_568, ↓u_570, ↓u_571, ↓u_573, ↓u_574, ↓u_576, ↓u_583, u_592, List.map_nil, List.map_cons, Nat.reduceSub, Nat.reduceAdd, Nat.reduceLT, Nat.reduceLeDiff, reduceIte, String.reduceBEq, String.reduceEq, Int.reduceLT, Int.reduceLE, Int.reduceEq, Int.reduceToNat, ↓lcK_nil, ↓lcK_cons, ↓scK_nil, ↓scK_cons, ↓loopK_nil, ↓loopK_e, zipD_cons, zipD_nil, zipD_nilr, enumD_z, enumZ_nil, enumZ_cons, Int.reduceAdd, bools_nil, bools_cons, nums_nil, nums_cons, List.all_cons, List.all_nil, List.any_cons, List.any_nil, id, Bool.and_true, Bool.and_false, Bool.true_and, Bool.false_and])
theorem wp_law_neighbours (ds : List D) (om : Om) (k : RV → Om → Prop) (xk : Exn → Om → Prop) (h : df_law_neighbours ds om k xk) : w_law_neighbours (endOf k xk) (startE 5 ds) om := by
  obtain ⟨rs, c, w, rfl, hr, w0, w1, c0, c1, hl, h⟩ := h
  unfold w_law_neighbours endOf
  have lR := len_rows rs
  fail "gs"
  refine loop_rng (fun i r om' => om' = om ∧ ∃ x2 x3 x4, r = [some (.v (.lst (rowsD rs))), some (.v (.int c)), x2, x3, x4]) ⟨rfl, _, _, _, rfl⟩ ?_ ?_
  · rintro i r om' nx hi ⟨rfl, x2, x3, x4, rfl⟩ hnx
    have hg : ∀ j, j < rs.length → (rs.getD j []).length = w := fun j hj => hr _ (by rw [List.getD_eq_getElem?_getD, List.getElem?_eq_getElem hj]; exact List.getElem_mem _)
    have g1 := hg (0 + (i : Int)).toNat (by omega)
    have g2 := hg (0 + (i : Int) + 1).toNat (by omega)
    unfold stepOf
    fail "gu"
    exact hnx _ _ ⟨rfl, _, _, _, rfl⟩
  · rintro r om' ⟨rfl, x2, x3, x4, rfl⟩
    fail "gs"
end
theorem ok_law_neighbours {P : Program} {w : World} {K : PySem.W.Frag} {mg : Str → Option Value} {base : Heap} {f : Addr} {fd : FuncData} (F : FunD K "_law_neighbours" "_law_neighbours" (defArgs s_law_neighbours) (defBody s_law_neighbours) (defScope s_law_neighbours) [] [] f fd) (T : Txt K mg) (D_law_first : Def P w K mg base "_law_first" c_law_first 1) (D_less : Def P w K mg base "less" c_less 1) : GFn P w K mg base (L2.CX P w) 2 f fd ["_law_rows_here", "_law_column"] (toSp K c_law_neighbours) :=
  (fn_ok (c := c_law_neighbours) F sc_law_neighbours rfl (fun cdv A outer s H E hr => d_law_neighbours T D_law_first D_less cdv A outer s H E hr) wp_law_neighbours)
def df_law_no_rows : DF := fun ds om k xk => ∃ (a : Addr), ∃ (n : Nat), ∃ (rs : List (List Int)), ∃ (w : Int), ds = [.h a, .lst (rowsD rs), .int w] ∧ (Dk om a n) ∧ (n < 10000000000) ∧ (1 ≤ w) ∧ (w ≤ 24) ∧ (rs.length ≤ 5) ∧ (∀ r ∈ rs, r.length = w.toNat ∧ ∀ x ∈ r, x.natAbs ≤ 10 ^ 60) ∧ (∀ d om', Rw d → isRows d = false → Dk om' a (n + 6) → k (.v d) om')
theorem call_law_no_rows {om : Om} {k : RV → Om → Prop} {xk : Exn → Om → Prop} {a : Addr} {n : Nat} {rs : List (List Int)} {w : Int} (ha : Dk om a n) (hn : n < 10000000000) (w0 : 1 ≤ w) (w1 : w ≤ 24) (hl : rs.length ≤ 5) (hr : ∀ r ∈ rs, r.length = w.toNat ∧ ∀ x ∈ r, x.natAbs ≤ 10 ^ 60) (h : ∀ d om', Rw d → isRows d = false → Dk om' a (n + 6) → k (.v d) om') : df_law_no_rows [.h a, .lst (rowsD rs), .int w] om k xk := ⟨a, n, rs, w, rfl, ha, hn, w0, w1, hl, hr, h⟩
def c_law_no_rows : Con := ⟨3, df_law_no_rows, by intro ds om k xk h; obtain ⟨a, n, rs, w, rfl, _, _, _, _, _, _, _⟩ := h; rfl, by intro ds om k k' xk xk' hk hx h; obtain ⟨a, n, rs, w, e_, ha, hn, w0, w1, hl, hr, h⟩ := h; refine ⟨a, n, rs, w, e_, ha, hn, w0, w1, hl, hr, ?_⟩; first | exact hk _ _ h | exact hx _ _ h | exact fun hq => hk _ _ (h hq) | (intros; apply hk; apply h <;> assumption) | (simp only [cnd] at h ⊢; grind) | grind⟩
theorem callK_law_no_rows {om : Om} {k : RV → Om → Prop} {xk : Exn → Om → Prop} {a : Addr} {n : Nat} {rs : List (List Int)} {w : Int} {t : Tg (df_law_no_rows, k, xk)} (ha : Dk om a n) (hn : n < 10000000000) (w0 : 1 ≤ w) (w1 : w ≤ 24) (hl : rs.length ≤ 5) (hr : ∀ r ∈ rs, r.length = w.toNat ∧ ∀ x ∈ r, x.natAbs ≤ 10 ^ 60) (h : ∀ d om', Rw d → isRows d = false → Dk om' a (n + 6) → k (.v d) om') : callK df_law_no_rows [.h a, .lst (rowsD rs), .int w] om k xk t := call_law_no_rows ha hn w0 w1 hl hr h
def w_law_no_rows : WS :=
  (wSeq (wAsg (wFz (wCall df_law_next [] (wCons (wVar 0) (wCons (wOp pAdd (wCB pLen (wCons (wBor 1) wNil)) (wC (.int 1))) wNil)))) (gN 3)) (wSeq (wAsg (wFz (wOp pMulT (wTup (wCons (wC (.int 1)) wNil)) (wBor 2))) (gN 4)) (wSeq (wAsg (wFz (wCall df_law_next [] (wCons (wVar 0) (wCons (wVar 2) wNil)))) (gN 5)) (wSeq (wAsg (wFz (wOp pIx (wLst (wCons (wC .non) (wCons (wC (.bl true)) (wCons (wC (.bl false)) (wCons (wC (.str "1")) (wCons (wTup (wCons (wC (.int 1)) wNil)) (wCons (wLst (wCons (wC (.int 1)) wNil)) wNil))))))) (wCall df_law_next [] (wCons (wVar 0) (wCons (wC (.int 6)) wNil))))) (gN 6)) (wSeq (wAsg (wFz (wLst (wCons (wOp pAdd (wBor 4) (wTup (wCons (wC (.int 0)) wNil))) (wCons (wSl (wBor 4) (wOS (wC (.int 1))) wON) (wCons (wCB pList (wCons (wBor 4) wNil)) (wCons (wOp pAdd (wOp pAdd (wSl (wBor 4) wON (wOS (wBor 5))) (wTup (wCons (wVar 6) wNil))) (wSl (wBor 4) (wOS (wOp pAdd (wBor 5) (wC (.int 1)))) wON)) (wCons (wC .non) (wCons (wC (.int 1)) (wCons (wC (.str "")) (wCons (wC (.bl true)) (wCons (wTup wNil) wNil))))))))))) (gN 7)) (wSeq (wIfS (wTst (wOp pEq (wCall df_law_next [] (wCons (wVar 0) (wCons (wC (.int 8)) wNil))) (wC (.int 0)))) (wRet (wFz (wOp pIx (wLst (wCons (wC .non) (wCons (wC (.bl true)) (wCons (wC (.int 0)) (wCons (wC (.str "")) (wCons (wC (.str "row")) (wCons (wTup wNil) (wCons (wTup (wCons (wVar 4) wNil)) (wCons wDic0 (wCons (wDic1 (Sum.inl (1)) (.int 1)) wNil)))))))))) (wCall df_law_next [] (wCons (wVar 0) (wCons (wC (.int 9)) wNil)))))) wNext) (wRet (wFz (wOp pAdd (wOp pAdd (wSl (wBor 1) wON (wOS (wBor 3))) (wLst (wCons (wVar 4) (wCons (wOp pIx (wBor 7) (wCall df_law_next [] (wCons (wVar 0) (wCons (wC (.int 9)) wNil)))) wNil)))) (wSl (wBor 1) (wOS (wBor 3)) wON))))))))))
theorem d_law_no_rows {P : Program} {w : World} {K : PySem.W.Frag} {mg : Str → Option Value} {base : Heap} {f : Addr} (T : Txt K mg) (D_law_next : Def P w K mg base "_law_next" c_law_next 1) (cdv : Value) (A : Around) (outer : List PySem.Env) (s : Shared) (H : Hp) (E : XK) (hr : GRoom 1 (A.deeper (PyProof.Rows.envOfC "_law_no_rows" (defScope s_law_no_rows) s.heap.objs.size f cdv))) :
    ∃ t, DSs (cxOf (L2.CX P w) P w K mg base ["_law_deck_here", "_law_rows_here", "_law_width", "_law_at", "_law_row", "_law_k", "_law_part", "_law_some"] "_law_no_rows" (defScope s_law_no_rows) f cdv A outer s H E) (fun cls d _ H => E cls d H) (defBody s_law_no_rows) t w_law_no_rows :=
  ⟨_, (dss_cons (ds_set 3 sc_law_no_rows.nd (de_fz (de_call (c := c_law_next) D_law_next (hr.mono (by decide)) (takes_of rfl rfl rfl rfl) (da_cons (de_var 0) (da_cons (de_op o_add (de_cb n_len T.n_len (by decide +kernel) (da_cons (de_bor 1) da_nil)) de_int) da_nil))))) (dss_cons (ds_set 4 sc_law_no_rows.nd (de_fz (de_op o_mulT (de_tup (da_cons de_int da_nil)) (de_bor 2)))) (dss_cons (ds_set 5 sc_law_no_rows.nd (de_fz (de_call (c := c_law_next) D_law_next (hr.mono (by decide)) (takes_of rfl rfl rfl rfl) (da_cons (de_var 0) (da_cons (de_var 2) da_nil))))) (dss_cons (ds_set 6 sc_law_no_rows.nd (de_fz (de_ix (de_lst (da_cons de_non (da_cons de_bl (da_cons de_bl (da_cons de_str (da_cons (de_tup (da_cons de_int da_nil)) (da_cons (de_lst (da_cons de_int da_nil)) da_nil))))))) (de_call (c := c_law_next) D_law_next (hr.mono (by decide)) (takes_of rfl rfl rfl rfl) (da_cons (de_var 0) (da_cons de_int da_nil)))))) (dss_cons (ds_set 7 sc_law_no_rows.nd (de_fz (de_lst (da_cons (de_op o_add (de_bor 4) (de_tup (da_cons de_int da_nil))) (da_cons (de_sl (de_bor 4) (do_some de_int) do_none) (da_cons (de_ct n_list T.n_list (by decide +kernel) (da_cons (de_bor 4) da_nil)) (da_cons (de_op o_add (de_op o_add (de_sl (de_bor 4) do_none (do_some (de_bor 5))) (de_tup (da_cons (de_var 6) da_nil))) (de_sl (de_bor 4) (do_some (de_op o_add (de_bor 5) de_int)) do_none)) (da_cons de_non (da_cons de_int (da_cons de_str (da_cons de_bl (da_cons (de_tup da_nil) da_nil)))))))))))) (dss_cons (ds_if (dt_cmp (o_eq hr) (de_call (c := c_law_next) D_law_next (hr.mono (by decide)) (takes_of rfl rfl rfl rfl) (da_cons (de_var 0) (da_cons de_int da_nil))) de_int) (dss_one (ds_ret (de_fz (de_ix (de_lst (da_cons de_non (da_cons de_bl (da_cons de_int (da_cons de_str (da_cons de_str (da_cons (de_tup da_nil) (da_cons (de_tup (da_cons (de_var 4) da_nil)) (da_cons de_dic0 (da_cons (de_dic1 (key := (Sum.inl (1))) (d := (.int 1)) de_int de_int (fun _ => .int _)) da_nil)))))))))) (de_call (c := c_law_next) D_law_next (hr.mono (by decide)) (takes_of rfl rfl rfl rfl) (da_cons (de_var 0) (da_cons de_int da_nil))))))) dss_nil) (dss_one (ds_ret (de_fz (de_op o_add (de_op o_add (de_sl (de_bor 1) do_none (do_some (de_bor 3))) (de_lst (da_cons (de_var 4) (da_cons (de_ix (de_bor 7) (de_call (c := c_law_next) D_law_next (hr.mono (by decide)) (takes_of rfl rfl rfl rfl) (da_cons (de_var 0) (da_cons de_int da_nil)))) da_nil)))) (de_sl (de_bor 1) (do_some (de_bor 3)) do_none)))))))))))⟩
local macro_rules | `(tactic| fail "ca") => `(tactic| (with_reducible refine ca_guard ?_; first | with_reducible refine callK_is_number ?_ ?_ | with_reducible refine callK_less ?_ ?_ ?_ ?_ | with_reducible refine callK_law_deck ?_ ?_ | with_reducible refine callK_law_next (by fail "ra") ?_ ?_ ?_ ?_ | with_reducible refine callK_law_whole ?_ ?_ | with_reducible refine callK_law_first ?_ ?_ ?_ ?_ ?_ | with_reducible refine callK_law_same ?_ ?_ ?_ | with_reducible refine callK_is_row ?_ ?_ ?_ | with_reducible refine callK_law_number (by fail "ra") ?_ ?_ | with_reducible refine callK_law_in_order (by fail "ra") ?_ ?_ ?_ ?_ ?_ ?_ | with_reducible refine callK_law_alike ?_ ?_ ?_ | with_reducible refine callK_law_other (by fail "ra") ?_ (by fail "ra") ?_ ?_ ?_ ?_ | with_reducible refine callK_law_neighbours (by fail "ra") ?_ ?_ ?_ ?_ ?_ ?_ | with_reducible refine callK_law_no_rows (by fail "ra") ?_ ?_ ?_ ?_ ?_ ?_))

section
local macro_rules | `(tactic| fail "d1") => `(tactic| simp -dsimp only [↓u_22, ↓u_50, ↓u_51, ↓u_52, ↓u_53, ↓u_56, ↓u_59, ↓u_60, ↓u_62, ↓u_63, ↓u_65, ↓u_66, ↓u_77, ↓u_78, ↓u_79, ↓u_80, ↓u_81, u_116, u_117, u_119, u_120, u_127, u_128, u_132, u_133, u_134, u_135, u_136, u_137, u_139, u_145, u_148, u_153, ↓u_169, ↓u_170, ↓u_176, u_186, u_194, ↓u_198, ↓u_218, ↓u_219, ↓u_220, ↓u_225, u_229, u_231, u_233, u_234, u_235, u_236, u_240, u_241, u_243, u_244, u_245, u_246, u_247, u_248, u_250, u_251, ↓u_272, ↓u_273, ↓u_274, ↓u_275, ↓u_277, ↓u_334, ↓u_335, ↓u_364, u_371, ↓u_540, ↓u_567, ↓u_568, ↓u_574, ↓u_576, u_592, List.length_append, List.map_nil, List.map_cons, Nat.reduceSub, Nat.reduceAdd, Nat.reduceLT, Nat.reduceLeDiff, reduceIte, String.reduceBEq, String.reduceEq, Int.reduceLT, Int.reduceLE, Int.reduceEq, Int.reduceToNat])
local macro_rules | `(tactic| fail "dl") => `(tactic| try fail "d1")
theorem wp_law_no_rows (ds : List D) (om : Om) (k : RV → Om → Prop) (xk : Exn → Om → Prop) (h : df_law_no_rows ds om k xk) : w_law_no_rows (endOf k xk) (startE 8 ds) om := by
  obtain ⟨a, n, rs, w, rfl, ha, hn, w0, w1, hl, hr, h⟩ := h
  unfold w_law_no_rows endOf
  have lR := len_rows rs
  obtain ⟨row, hrow⟩ : ∃ row, row = List.replicate w.toNat (1 : Int) := ⟨_, rfl⟩
  have lrow : row.length = w.toNat := by rw [hrow, List.length_replicate]
  have brow : ∀ x ∈ row, x.natAbs ≤ 10 ^ 60 := fun x m => by rw [hrow] at m; rw [List.eq_of_mem_replicate m]; decide
  have erow : (List.replicate w.toNat [D.int 1]).flatten = row.map D.int := by
    rw [hrow]
    generalize w.toNat = m
    induction m with
    | zero => rfl
    | succ m ih => simp [List.replicate_succ]
  (repeat' (first | (with_reducible assumption) | (with_reducible intro _) | (with_reducible apply And.intro) | fail "ca" | simp -dsimp only [↓u_22, ↓u_50, ↓u_51, ↓u_52, ↓u_53, ↓u_56, ↓u_59, ↓u_60, ↓u_62, ↓u_63, ↓u_65, ↓u_66, ↓u_77, ↓u_78, ↓u_79, ↓u_80, ↓u_81, u_116, u_117, u_119, u_120, u_127, u_128, u_132, u_133, u_134, u_135, u_136, u_137, u_139, u_145, u_148, u_153, ↓u_169, ↓u_170, ↓u_176, u_186, u_194, ↓u_198, ↓u_218, ↓u_219, ↓u_220, ↓u_225, u_229, u_231, u_233, u_234, u_235, u_236, u_240, u_241, u_243, u_244, u_245, u_246, u_247, u_248, u_250, u_251, ↓u_272, ↓u_273, ↓u_274, ↓u_275, ↓u_277, ↓u_334, ↓u_335, ↓u_364, u_371, ↓u_540, ↓u_567, ↓u_568, ↓u_574, ↓u_576, u_592, List.length_append, List.map_nil, List.map_cons, Nat.reduceSub, Nat.reduceAdd, Nat.reduceLT, Nat.reduceLeDiff, reduceIte, String.reduceBEq, String.reduceEq, Int.reduceLT, Int.reduceLE, Int.reduceEq, Int.reduceToNat, erow] | fail "ix" | (with_reducible refine rdDh_of (by with_reducible assumption) ?_) | (with_reducible refine rdRh_of (by with_reducible assumption) ?_) | (with_reducible refine rwK_row (by with_reducible assumption) ?_) | (with_reducible refine cnd_T (by with_reducible assumption) ?_) | (with_reducible refine cnd_F (by with_reducible assumption) ?_) | (with_reducible refine cnd_yes (by omega) ?_) | (with_reducible refine cnd_no (by omega) ?_) | (with_reducible refine cnd_dec ?_ ?_) | (with_reducible refine cnd_of ?_ ?_) | fail "si" | fail))
  · simp
  rename_i at_ om1 at0 at1 d1 kk om2 k0 k1 d2 pp om3 p0 p1 d3
  refine ixK_pickP (fun d => Nc 3 100 d ∧ isNum d = false) p0 (by simp only [List.length_cons, List.length_nil]; omega) (fun d md => ?_) ?_
  · simp only [List.mem_cons, List.not_mem_nil, or_false] at md
    rcases md with rfl | rfl | rfl | rfl | rfl | rfl <;> exact ⟨⟨⟨by decide +kernel, by decide +kernel, by decide +kernel⟩, by decide +kernel⟩, rfl⟩
  rintro part ⟨hpart, hpnum⟩
  obtain ⟨m, rfl⟩ := Int.eq_ofNat_of_zero_le k0
  have e1 := cut_lo row m (by omega)
  have e2 := cut_hi row (m + 1) (by omega)
  have e3 := cut_hi row 1 (by omega)
  rw [show ((m + 1 : Nat) : Int) = (m : Int) + 1 by omega] at e2
  rw [show ((1 : Nat) : Int) = 1 from rfl] at e3
  have n1 := nc_row brow
  have row24 : row.length ≤ 24 := by omega
  have ea := cutR_lo rs at_.toNat (by omega)
  have eb := cutR_hi rs at_.toNat (by omega)
  rw [show ((at_.toNat : Nat) : Int) = at_ by omega] at ea eb
  have s1 : ∀ z : Int, z.natAbs ≤ 10 ^ 60 → Nc 3 100 (.int z) := fun z hz => (Nc.int (Nat.lt_of_le_of_lt hz (by decide))).up (by decide) (by decide)
  have hb2 := fun {d : D} (h1 : Nc 4 6200 d) h2 => bad_two (rs := rs) (row := row) (d := d) (w := w.toNat) at_.toNat (by omega) hr ⟨lrow, brow⟩ (by omega) h1 h2
  (repeat' (first | (with_reducible assumption) | (with_reducible intro _) | (with_reducible apply And.intro) | fail "ca" | simp -dsimp only [↓u_22, ↓u_50, ↓u_51, ↓u_52, ↓u_53, ↓u_56, ↓u_59, ↓u_60, ↓u_62, ↓u_63, ↓u_65, ↓u_66, ↓u_77, ↓u_78, ↓u_79, ↓u_80, ↓u_81, u_116, u_117, u_119, u_120, u_127, u_128, u_132, u_133, u_134, u_135, u_136, u_137, u_139, u_145, u_148, u_153, ↓u_169, ↓u_170, ↓u_176, u_186, u_194, ↓u_198, ↓u_218, ↓u_219, ↓u_220, ↓u_225, u_229, u_231, u_233, u_234, u_235, u_236, u_240, u_241, u_243, u_244, u_245, u_246, u_247, u_248, u_250, u_251, ↓u_272, ↓u_273, ↓u_274, ↓u_275, ↓u_277, ↓u_334, ↓u_335, ↓u_364, u_371, ↓u_540, ↓u_567, ↓u_568, ↓u_574, ↓u_576, u_592, List.length_append, List.map_nil, List.map_cons, Nat.reduceSub, Nat.reduceAdd, Nat.reduceLT, Nat.reduceLeDiff, reduceIte, String.reduceBEq, String.reduceEq, Int.reduceLT, Int.reduceLE, Int.reduceEq, Int.reduceToNat, e1, e2, e3] | fail "ix" | (with_reducible refine rdDh_of (by with_reducible assumption) ?_) | (with_reducible refine rdRh_of (by with_reducible assumption) ?_) | (with_reducible refine rwK_row (by with_reducible assumption) ?_) | (with_reducible refine cnd_T (by with_reducible assumption) ?_) | (with_reducible refine cnd_F (by with_reducible assumption) ?_) | (with_reducible refine cnd_yes (by omega) ?_) | (with_reducible refine cnd_no (by omega) ?_) | (with_reducible refine cnd_dec ?_ ?_) | (with_reducible refine cnd_of ?_ ?_) | fail "si" | fail))
  · refine ixK_pickP (fun d => Rw d ∧ isRows d = false) (by omega) (by simp only [List.length_cons, List.length_nil]; omega) (fun d md => ?_) ?_
    · simp only [List.mem_cons, List.not_mem_nil, or_false] at md
      rcases md with rfl | rfl | rfl | rfl | rfl | rfl | rfl | rfl | rfl
      all_goals first
        | exact ⟨rw_tup (rs := [row]) (fun d md => by rw [show d = .tup (row.map D.int) by simpa [rowsD, rowD] using md]; exact nc_tup n1 (by rw [List.length_map]; omega)) (by simp [rowsD]), rfl⟩
        | exact ⟨rw_small ⟨⟨by decide +kernel, by decide +kernel, by decide +kernel⟩, by decide +kernel⟩, rfl⟩
    · rintro d ⟨h1, h2⟩
      exact ⟨trivial, h d _ h1 h2 (Dk.mono (by assumption) (by omega))⟩
  · refine ixK_pickP (fun d => Nc 4 6200 d ∧ (isRow d = false ∨ widD d ≠ w.toNat)) (by omega) (by simp only [List.length_cons, List.length_nil]; omega) (fun d md => ?_) ?_
    · simp only [List.mem_cons, List.not_mem_nil, or_false] at md
      rcases md with rfl | rfl | rfl | rfl | rfl | rfl | rfl | rfl | rfl
      · exact ⟨nc_tup (nc_app n1 (nc_one (s1 0 (by decide)))) (by simp only [List.length_append, List.length_map, List.length_cons, List.length_nil]; omega), .inr (by simp only [widD, List.length_append, List.length_map, List.length_cons, List.length_nil]; omega)⟩
      · exact ⟨nc_tup (nc_row fun x m => brow x (List.mem_of_mem_drop m)) (by rw [List.length_map, List.length_drop]; omega), .inr (by simp only [widD, List.length_map, List.length_drop]; omega)⟩
      · exact ⟨nc_lst n1 (by rw [List.length_map]; omega), .inl rfl⟩
      · exact ⟨nc_tup (nc_app (nc_app (nc_row fun x m => brow x (List.mem_of_mem_take m)) (nc_one hpart)) (nc_row fun x m => brow x (List.mem_of_mem_drop m))) (by simp only [List.length_append, List.length_map, List.length_take, List.length_drop, List.length_cons, List.length_nil]; omega), .inl (num_row (d := part) (by simp) hpnum)⟩
      all_goals exact ⟨Nc.up (n := 3) (m := 100) ⟨⟨by decide +kernel, by decide +kernel, by decide +kernel⟩, by decide +kernel⟩ (by decide) (by decide), .inl rfl⟩
    · rintro d ⟨h1, h2⟩
      obtain ⟨b1, b2⟩ := hb2 h1 h2
      simp only [rowD] at b1 b2
      (repeat' (first | (with_reducible assumption) | (with_reducible intro _) | (with_reducible apply And.intro) | fail "ca" | simp -dsimp only [↓u_22, ↓u_50, ↓u_51, ↓u_52, ↓u_53, ↓u_56, ↓u_59, ↓u_60, ↓u_62, ↓u_63, ↓u_65, ↓u_66, ↓u_77, ↓u_78, ↓u_79, ↓u_80, ↓u_81, u_116, u_117, u_119, u_120, u_127, u_128, u_132, u_133, u_134, u_135, u_136, u_137, u_139, u_145, u_148, u_153, ↓u_169, ↓u_170, ↓u_176, u_186, u_194, ↓u_198, ↓u_218, ↓u_219, ↓u_220, ↓u_225, u_229, u_231, u_233, u_234, u_235, u_236, u_240, u_241, u_243, u_244, u_245, u_246, u_247, u_248, u_250, u_251, ↓u_272, ↓u_273, ↓u_274, ↓u_275, ↓u_277, ↓u_334, ↓u_335, ↓u_364, u_371, ↓u_540, ↓u_567, ↓u_568, ↓u_574, ↓u_576, u_592, List.length_append, List.map_nil, List.map_cons, Nat.reduceSub, Nat.reduceAdd, Nat.reduceLT, Nat.reduceLeDiff, reduceIte, String.reduceBEq, String.reduceEq, Int.reduceLT, Int.reduceLE, Int.reduceEq, Int.reduceToNat, ea, eb] | fail "ix" | (with_reducible refine rdDh_of (by with_reducible assumption) ?_) | (with_reducible refine rdRh_of (by with_reducible assumption) ?_) | (with_reducible refine rwK_row (by with_reducible assumption) ?_) | (with_reducible refine cnd_T (by with_reducible assumption) ?_) | (with_reducible refine cnd_F (by with_reducible assumption) ?_) | (with_reducible refine cnd_yes (by omega) ?_) | (with_reducible refine cnd_no (by omega) ?_) | (with_reducible refine cnd_dec ?_ ?_) | (with_reducible refine cnd_of ?_ ?_) | fail "si" | fail))
      exact h _ _ b1 b2 (Dk.mono (by assumption) (by omega))
end
theorem ok_law_no_rows {P : Program} {w : World} {K : PySem.W.Frag} {mg : Str → Option Value} {base : Heap} {f : Addr} {fd : FuncData} (F : FunD K "_law_no_rows" "_law_no_rows" (defArgs s_law_no_rows) (defBody s_law_no_rows) (defScope s_law_no_rows) [] [] f fd) (T : Txt K mg) (D_law_next : Def P w K mg base "_law_next" c_law_next 1) : GFn P w K mg base (L2.CX P w) 2 f fd ["_law_deck_here", "_law_rows_here", "_law_width"] (toSp K c_law_no_rows) :=
  (fn_ok (c := c_law_no_rows) F sc_law_no_rows rfl (fun cdv A outer s H E hr => d_law_no_rows T D_law_next cdv A outer s H E hr) wp_law_no_rows)
def df_law_no_column : DF := fun ds om k xk => ∃ (a : Addr), ∃ (n : Nat), ∃ (rs : List (List Int)), ∃ (w : Int), ds = [.h a, .lst (rowsD rs), .int w] ∧ (Dk om a n) ∧ (n < 100000000000) ∧ (1 ≤ w) ∧ (w ≤ 24) ∧ (rs.length ≤ 5) ∧ (∀ d om', Nc 3 100 d → colOk (if rs = [] then 24 else w.toNat) d = false → Dk om' a (n + 6) → k (.v d) om')
theorem call_law_no_column {om : Om} {k : RV → Om → Prop} {xk : Exn → Om → Prop} {a : Addr} {n : Nat} {rs : List (List Int)} {w : Int} (ha : Dk om a n) (hn : n < 100000000000) (w0 : 1 ≤ w) (w1 : w ≤ 24) (hl : rs.length ≤ 5) (h : ∀ d om', Nc 3 100 d → colOk (if rs = [] then 24 else w.toNat) d = false → Dk om' a (n + 6) → k (.v d) om') : df_law_no_column [.h a, .lst (rowsD rs), .int w] om k xk := ⟨a, n, rs, w, rfl, ha, hn, w0, w1, hl, h⟩
def c_law_no_column : Con := ⟨3, df_law_no_column, by intro ds om k xk h; obtain ⟨a, n, rs, w, rfl, _, _, _, _, _, _⟩ := h; rfl, by intro ds om k k' xk xk' hk hx h; obtain ⟨a, n, rs, w, e_, ha, hn, w0, w1, hl, h⟩ := h; refine ⟨a, n, rs, w, e_, ha, hn, w0, w1, hl, ?_⟩; first | exact hk _ _ h | exact hx _ _ h | exact fun hq => hk _ _ (h hq) | (intros; apply hk; apply h <;> assumption) | (simp only [cnd] at h ⊢; grind) | grind⟩
theorem callK_law_no_column {om : Om} {k : RV → Om → Prop} {xk : Exn → Om → Prop} {a : Addr} {n : Nat} {rs : List (List Int)} {w : Int} {t : Tg (df_law_no_column, k, xk)} (ha : Dk om a n) (hn : n < 100000000000) (w0 : 1 ≤ w) (w1 : w ≤ 24) (hl : rs.length ≤ 5) (h : ∀ d om', Nc 3 100 d → colOk (if rs = [] then 24 else w.toNat) d = false → Dk om' a (n + 6) → k (.v d) om') : callK df_law_no_column [.h a, .lst (rowsD rs), .int w] om k xk t := call_law_no_column ha hn w0 w1 hl h
def w_law_no_column : WS :=
  (wSeq (wAsg (wVar 2) (gN 3)) (wSeq (wIfS (wTst (wOp pEq (wBor 1) (wLst wNil))) (wAsg (wC (.int 24)) (gN 3)) wNext) (wSeq (wAsg (wFz (wOp pAdd (wOp pPow (wC (.int 10)) (wC (.int 21))) (wCall df_law_next [] (wCons (wVar 0) (wCons (wOp pPow (wC (.int 10)) (wC (.int 9))) wNil))))) (gN 4)) (wRet (wOp pIx (wLst (wCons (wVar 3) (wCons (wUn pNeg (wC (.int 1))) (wCons (wVar 4) (wCons (wOp pSub (wC (.int 0)) (wBor 4)) (wCons (wOp pAdd (wBor 3) (wC (.int 1))) (wCons (wC .non) (wCons (wC (.bl true)) (wCons (wC (.bl false)) (wCons (wC (.str "0")) (wCons (wTup (wCons (wC (.int 0)) wNil)) (wCons (wLst wNil) (wCons wDic0 wNil))))))))))))) (wCall df_law_next [] (wCons (wVar 0) (wCons (wC (.int 12)) wNil))))))))
theorem d_law_no_column {P : Program} {w : World} {K : PySem.W.Frag} {mg : Str → Option Value} {base : Heap} {f : Addr} (T : Txt K mg) (D_law_next : Def P w K mg base "_law_next" c_law_next 1) (cdv : Value) (A : Around) (outer : List PySem.Env) (s : Shared) (H : Hp) (E : XK) (hr : GRoom 1 (A.deeper (PyProof.Rows.envOfC "_law_no_column" (defScope s_law_no_column) s.heap.objs.size f cdv))) :
    ∃ t, DSs (cxOf (L2.CX P w) P w K mg base ["_law_deck_here", "_law_rows_here", "_law_width", "_law_wide", "_law_far"] "_law_no_column" (defScope s_law_no_column) f cdv A outer s H E) (fun cls d _ H => E cls d H) (defBody s_law_no_column) t w_law_no_column :=
  ⟨_, (dss_cons (ds_set 3 sc_law_no_column.nd (de_var 2)) (dss_cons (ds_if (dt_cmp (o_eq hr) (de_bor 1) (de_lst da_nil)) (dss_one (ds_set 3 sc_law_no_column.nd de_int)) dss_nil) (dss_cons (ds_set 4 sc_law_no_column.nd (de_fz (de_op o_add (de_op o_pow de_int de_int) (de_call (c := c_law_next) D_law_next (hr.mono (by decide)) (takes_of rfl rfl rfl rfl) (da_cons (de_var 0) (da_cons (de_op o_pow de_int de_int) da_nil)))))) (dss_one (ds_ret (de_ix (de_lst (da_cons (de_var 3) (da_cons (de_neg un_neg s_neg de_int) (da_cons (de_var 4) (da_cons (de_op o_sub de_int (de_bor 4)) (da_cons (de_op o_add (de_bor 3) de_int) (da_cons de_non (da_cons de_bl (da_cons de_bl (da_cons de_str (da_cons (de_tup (da_cons de_int da_nil)) (da_cons (de_lst da_nil) (da_cons de_dic0 da_nil))))))))))))) (de_call (c := c_law_next) D_law_next (hr.mono (by decide)) (takes_of rfl rfl rfl rfl) (da_cons (de_var 0) (da_cons de_int da_nil)))))))))⟩
local macro_rules | `(tactic| fail "ca") => `(tactic| (with_reducible refine ca_guard ?_; first | with_reducible refine callK_is_number ?_ ?_ | with_reducible refine callK_less ?_ ?_ ?_ ?_ | with_reducible refine callK_law_deck ?_ ?_ | with_reducible refine callK_law_next (by fail "ra") ?_ ?_ ?_ ?_ | with_reducible refine callK_law_whole ?_ ?_ | with_reducible refine callK_law_first ?_ ?_ ?_ ?_ ?_ | with_reducible refine callK_law_same ?_ ?_ ?_ | with_reducible refine callK_is_row ?_ ?_ ?_ | with_reducible refine callK_law_number (by fail "ra") ?_ ?_ | with_reducible refine callK_law_in_order (by fail "ra") ?_ ?_ ?_ ?_ ?_ ?_ | with_reducible refine callK_law_alike ?_ ?_ ?_ | with_reducible refine callK_law_other (by fail "ra") ?_ (by fail "ra") ?_ ?_ ?_ ?_ | with_reducible refine callK_law_neighbours (by fail "ra") ?_ ?_ ?_ ?_ ?_ ?_ | with_reducible refine callK_law_no_rows (by fail "ra") ?_ ?_ ?_ ?_ ?_ ?_ | with_reducible refine callK_law_no_column (by fail "ra") ?_ ?_ ?_ ?_ ?_))

section
local macro_rules | `(tactic| fail "d1") => `(tactic| simp -dsimp only [↓u_22, ↓u_50, ↓u_51, ↓u_52, ↓u_53, ↓u_56, ↓u_59, ↓u_60, ↓u_62, ↓u_63, ↓u_64, ↓u_66, ↓u_77, ↓u_78, ↓u_79, ↓u_80, ↓u_81, u_116, u_117, u_120, u_127, u_128, u_132, u_133, u_136, u_137, u_139, ↓u_176, u_194, ↓u_198, ↓u_199, ↓u_202, ↓u_218, u_229, u_233, u_234, u_235, u_236, u_240, u_241, u_243, u_244, u_245, u_246, u_247, u_248, u_250, u_251, ↓u_282, ↓u_293, ↓u_334, ↓u_335, u_371, u_470, u_476, u_478, ↓u_567, ↓u_568, ↓u_574, ↓u_576, List.map_nil, List.map_cons, Nat.reduceSub, Nat.reduceAdd, Nat.reduceLT, Nat.reduceLeDiff, reduceIte, String.reduceBEq, String.reduceEq, Int.reduceLT, Int.reduceLE, Int.reduceEq, Int.reduceToNat])
local macro_rules | `(tactic| fail "dl") => `(tactic| try fail "d1")
theorem wp_law_no_column (ds : List D) (om : Om) (k : RV → Om → Prop) (xk : Exn → Om → Prop) (h : df_law_no_column ds om k xk) : w_law_no_column (endOf k xk) (startE 5 ds) om := by
  obtain ⟨a, n, rs, w, rfl, ha, hn, w0, w1, hl, h⟩ := h
  unfold w_law_no_column endOf
  have hi : ∀ z : Int, z.natAbs ≤ 10 ^ 24 → Nc 3 100 (.int z) := fun z hz => (Nc.int (Nat.lt_of_le_of_lt hz (by decide))).up (by decide) (by decide)
  have hc : ∀ (W : Nat) (z : Int), (z < 0 ∨ (W : Int) ≤ z) → colOk W (.int z) = false := fun W z h => by
    simp only [colOk, Bool.and_eq_false_iff, decide_eq_false_iff_not]; omega
  fail "gs"
  all_goals
    refine ixK_pickP (fun d => Nc 3 100 d ∧ colOk (if rs = [] then 24 else w.toNat) d = false) (by omega) (by simp only [List.length_cons, List.length_nil]; omega) (fun d md => ?_) ?_
  · subst_vars
    simp only [List.mem_cons, List.not_mem_nil, or_false] at md
    rw [if_pos rfl]
    rcases md with rfl | rfl | rfl | rfl | rfl | rfl | rfl | rfl | rfl | rfl | rfl | rfl
    all_goals first
      | exact ⟨hi _ (by omega), hc _ _ (by omega)⟩
      | exact ⟨⟨⟨by decide +kernel, by decide +kernel, by decide +kernel⟩, by decide +kernel⟩, rfl⟩
  · rintro d ⟨h1, h2⟩
    exact ⟨trivial, h d _ h1 h2 (Dk.mono (by assumption) (by omega))⟩
  · simp only [List.mem_cons, List.not_mem_nil, or_false] at md
    rw [if_neg (by assumption)]
    rcases md with rfl | rfl | rfl | rfl | rfl | rfl | rfl | rfl | rfl | rfl | rfl | rfl
    all_goals first
      | exact ⟨hi _ (by omega), hc _ _ (by omega)⟩
      | exact ⟨⟨⟨by decide +kernel, by decide +kernel, by decide +kernel⟩, by decide +kernel⟩, rfl⟩
  · rintro d ⟨h1, h2⟩
    exact ⟨trivial, h d _ h1 h2 (Dk.mono (by assumption) (by omega))⟩
end
theorem ok_law_no_column {P : Program} {w : World} {K : PySem.W.Frag} {mg : Str → Option Value} {base : Heap} {f : Addr} {fd : FuncData} (F : FunD K "_law_no_column" "_law_no_column" (defArgs s_law_no_column) (defBody s_law_no_column) (defScope s_law_no_column) [] [] f fd) (T : Txt K mg) (D_law_next : Def P w K mg base "_law_next" c_law_next 1) : GFn P w K mg base (L2.CX P w) 2 f fd ["_law_deck_here", "_law_rows_here", "_law_width"] (toSp K c_law_no_column) :=
  (fn_ok (c := c_law_no_column) F sc_law_no_column rfl (fun cdv A outer s H E hr => d_law_no_column T D_law_next cdv A outer s H E hr) wp_law_no_column)
def df_is_rows : DF := fun ds om k xk => ∃ (d : D), ds = [d] ∧ (plainD d = true) ∧ (deepP d = true) ∧ (k (.v (.bl (isRows d))) om)
theorem call_is_rows {om : Om} {k : RV → Om → Prop} {xk : Exn → Om → Prop} {d : D} (hd : plainD d = true) (hp : deepP d = true) (h : k (.v (.bl (isRows d))) om) : df_is_rows [d] om k xk := ⟨d, rfl, hd, hp, h⟩
def c_is_rows : Con := ⟨1, df_is_rows, by intro ds om k xk h; obtain ⟨d, rfl, _, _, _⟩ := h; rfl, by intro ds om k k' xk xk' hk hx h; obtain ⟨d, e_, hd, hp, h⟩ := h; refine ⟨d, e_, hd, hp, ?_⟩; first | exact hk _ _ h | exact hx _ _ h | exact fun hq => hk _ _ (h hq) | (intros; apply hk; apply h <;> assumption) | (simp only [cnd] at h ⊢; grind) | grind⟩
theorem callK_is_rows {om : Om} {k : RV → Om → Prop} {xk : Exn → Om → Prop} {d : D} {t : Tg (df_is_rows, k, xk)} (hd : plainD d = true) (hp : deepP d = true) (h : k (.v (.bl (isRows d))) om) : callK df_is_rows [d] om k xk t := call_is_rows hd hp h
def w_is_rows : WS :=
  (wSeq (wIfS (wNot (wTru (wCB pIsi (wCons (wBor 0) (wCons (wC (.raw (.ty "list"))) wNil))))) (wRet (wC (.bl false))) wNext) (wSeq (wFor (wiA (wVar 0)) (gN 1) (wIfS (wOr (wNot (wTru (wCall df_is_row [] (wCons (wVar 1) wNil)))) (wTst (wOp pNe (wCB pLen (wCons (wBor 1) wNil)) (wCB pLen (wCons (wOp pIx (wBor 0) (wC (.int 0))) wNil))))) (wRet (wC (.bl false))) wNext)) (wRet (wC (.bl true)))))
theorem d_is_rows {P : Program} {w : World} {K : PySem.W.Frag} {mg : Str → Option Value} {base : Heap} {f : Addr} (T : Txt K mg) (D_is_row : Def P w K mg base "is_row" c_is_row 2) (cdv : Value) (A : Around) (outer : List PySem.Env) (s : Shared) (H : Hp) (E : XK) (hr : GRoom 2 (A.deeper (PyProof.Rows.envOfC "is_rows" (defScope s_is_rows) s.heap.objs.size f cdv))) :
    ∃ t, DSs (cxOf (L2.CX P w) P w K mg base ["thing", "row"] "is_rows" (defScope s_is_rows) f cdv A outer s H E) (fun cls d _ H => E cls d H) (defBody s_is_rows) t w_is_rows :=
  ⟨_, (dss_cons (ds_if (dt_not (dt_tru (de_cb n_isi T.n_isinstance (by decide +kernel) (da_cons (de_bor 0) (da_cons (de_ty T.n_list (by decide +kernel)) da_nil))))) (dss_one (ds_ret de_bl)) dss_nil) (dss_cons (ds_for (passes_of rfl) rfl (di_any (de_var 0) (K' := K)) (dg_name 1 sc_is_rows.nd) (dss_one (ds_if (DW.dt (dw_or (dt_not (dt_tru (de_call (c := c_is_row) D_is_row (hr.mono (by decide)) (takes_of rfl rfl rfl rfl) (da_cons (de_var 1) da_nil)))) (dw_or1 (dt_cmp (o_ne hr) (de_cb n_len T.n_len (by decide +kernel) (da_cons (de_bor 1) da_nil)) (de_cb n_len T.n_len (by decide +kernel) (da_cons (de_ix (de_bor 0) de_int) da_nil)))))) (dss_one (ds_ret de_bl)) dss_nil))) (dss_one (ds_ret de_bl))))⟩
local macro_rules | `(tactic| fail "ca") => `(tactic| (with_reducible refine ca_guard ?_; first | with_reducible refine callK_is_number ?_ ?_ | with_reducible refine callK_less ?_ ?_ ?_ ?_ | with_reducible refine callK_law_deck ?_ ?_ | with_reducible refine callK_law_next (by fail "ra") ?_ ?_ ?_ ?_ | with_reducible refine callK_law_whole ?_ ?_ | with_reducible refine callK_law_first ?_ ?_ ?_ ?_ ?_ | with_reducible refine callK_law_same ?_ ?_ ?_ | with_reducible refine callK_is_row ?_ ?_ ?_ | with_reducible refine callK_law_number (by fail "ra") ?_ ?_ | with_reducible refine callK_law_in_order (by fail "ra") ?_ ?_ ?_ ?_ ?_ ?_ | with_reducible refine callK_law_alike ?_ ?_ ?_ | with_reducible refine callK_law_other (by fail "ra") ?_ (by fail "ra") ?_ ?_ ?_ ?_ | with_reducible refine callK_law_neighbours (by fail "ra") ?_ ?_ ?_ ?_ ?_ ?_ | with_reducible refine callK_law_no_rows (by fail "ra") ?_ ?_ ?_ ?_ ?_ ?_ | with_reducible refine callK_law_no_column (by fail "ra") ?_ ?_ ?_ ?_ ?_ | with_reducible refine callK_is_rows ?_ ?_ ?_))

section
local macro_rules | `(tactic| fail "d1") => `(tactic| simp -dsimp only [↓u_22, ↓u_50, ↓u_52, ↓u_53, ↓u_56, ↓u_59, ↓u_60, ↓u_62, ↓u_63, ↓u_65, ↓u_66, ↓u_79, ↓u_80, ↓u_81, ↓u_82, ↓u_84, ↓u_85, ↓u_91, u_115, u_116, u_117, u_118, u_119, u_120, u_121, u_122, u_123, u_127, u_132, u_133, u_134, u_135, u_136, u_139, u_140, u_150, u_154, u_155, u_156, u_157, u_158, u_159, u_160, u_161, ↓u_162, u_166, ↓u_169, ↓u_176, ↓u_177, ↓u_179, u_194, ↓u_198, ↓u_226, u_229, u_231, u_233, u_234, u_235, u_236, u_240, u_241, u_243, u_244, u_245, u_246, u_247, u_248, u_250, u_251, ↓u_321, u_371, ↓u_567, ↓u_568, ↓u_570, ↓u_571, ↓u_573, ↓u_574, ↓u_576, ↓u_583, ↓u_584, List.map_nil, List.map_cons, Nat.reduceSub, Nat.reduceAdd, Nat.reduceLT, Nat.reduceLeDiff, reduceIte, String.reduceBEq, String.reduceEq, Int.reduceLT, Int.reduceLE, Int.reduceEq, Int.reduceToNat])
local macro_rules | `(tactic| fail "dl") => `(tactic| try fail "d1")
theorem wp_is_rows (ds : List D) (om : Om) (k : RV → Om → Prop) (xk : Exn → Om → Prop) (h : df_is_rows ds om k xk) : w_is_rows (endOf k xk) (startE 2 ds) om := by
  obtain ⟨d, rfl, hd, hp, h⟩ := h
  unfold w_is_rows endOf
  cases d with
  | h a => cases hd
  | raw v => cases hd
  | exc c n v => cases hd
  | fn x => cases hd
  | lst ds =>
    have hpl : ∀ x ∈ ds, plainD x = true ∧ plains x = true := by simpa [deepP] using hp
    have hR : isRows (.lst ds) = rowsL ds := rfl
    rw [hR] at h
    fail "gs"
    refine loop_list (fun i r om' => om' = om ∧ (∀ x ∈ ds.take i, goodRow (widD (ds.headD .non)) x = true) ∧ ∃ y, r = [some (.v (.lst ds)), y]) ⟨rfl, by simp, _, rfl⟩ ?_ ?_
    · rintro i x r om' nx e ⟨rfl, hg, y, rfl⟩ hnx
      have hi := (List.getElem?_eq_some_iff.mp e).1
      obtain ⟨p1, p2⟩ := hpl x (List.mem_of_getElem? e)
      have bad : goodRow (widD (ds.headD .non)) x = false → k (.v (.bl false)) om' := fun hb => by
        have : rowsL ds = false := by
          cases hr : rowsL ds with
          | false => rfl
          | true => rw [List.all_eq_true.mp hr x (List.mem_of_getElem? e)] at hb; cases hb
        rw [this] at h
        exact h
      have good : goodRow (widD (ds.headD .non)) x = true → ∀ y, nx [some (.v (.lst ds)), y] om' := fun hb y => hnx _ _ ⟨rfl, fun z mz => by
        rw [List.take_add_one, e] at mz
        rcases List.mem_append.mp mz with mz | mz
        · exact hg z mz
        · rw [Option.toList_some, List.mem_singleton] at mz; rw [mz]; exact hb, _, rfl⟩
      unfold stepOf
      cases hrow : isRow x
      · have hb := bad (by simp only [goodRow, hrow, Bool.false_and])
        fail "gs"
      · obtain ⟨es, rfl, l1, l2⟩ := isRow_tup' hrow
        obtain ⟨hs, tl, hds⟩ : ∃ hs tl, ds = .tup hs :: tl := by
          cases ds with
          | nil => simp at hi
          | cons z tl =>
            cases i with
            | zero => cases e; exact ⟨es, tl, rfl⟩
            | succ i =>
              have hz := hg z (by simp)
              simp only [goodRow, Bool.and_eq_true] at hz
              obtain ⟨zs, rfl, _, _⟩ := isRow_tup' hz.1
              exact ⟨zs, tl, rfl⟩
        have hw : goodRow (widD (ds.headD .non)) (.tup es) = decide (es.length = hs.length) := by
          rw [hds]; simp only [goodRow, hrow, Bool.true_and, widD, List.headD_cons]; rfl
        rw [hw] at bad good
        by_cases hl : es.length = hs.length
        · have hb := good (decide_eq_true hl)
          subst hds
          fail "gs"
          exact hb _
        · have hb := bad (decide_eq_false hl)
          subst hds
          fail "gs"
    · rintro r om' ⟨rfl, hg, y, rfl⟩
      have : rowsL ds = true := List.all_eq_true.mpr fun x mx => hg x (by rw [List.take_length]; exact mx)
      rw [this] at h
      fail "gs"
  | frl ds =>
    have hpl : ∀ x ∈ ds, plainD x = true ∧ plains x = true := by simpa [deepP] using hp
    have hR : isRows (.frl ds) = rowsL ds := rfl
    rw [hR] at h
    fail "gs"
    refine loop_list (fun i r om' => om' = om ∧ (∀ x ∈ ds.take i, goodRow (widD (ds.headD .non)) x = true) ∧ ∃ y, r = [some (.v (.frl ds)), y]) ⟨rfl, by simp, _, rfl⟩ ?_ ?_
    · rintro i x r om' nx e ⟨rfl, hg, y, rfl⟩ hnx
      have hi := (List.getElem?_eq_some_iff.mp e).1
      obtain ⟨p1, p2⟩ := hpl x (List.mem_of_getElem? e)
      have bad : goodRow (widD (ds.headD .non)) x = false → k (.v (.bl false)) om' := fun hb => by
        have : rowsL ds = false := by
          cases hr : rowsL ds with
          | false => rfl
          | true => rw [List.all_eq_true.mp hr x (List.mem_of_getElem? e)] at hb; cases hb
        rw [this] at h
        exact h
      have good : goodRow (widD (ds.headD .non)) x = true → ∀ y, nx [some (.v (.frl ds)), y] om' := fun hb y => hnx _ _ ⟨rfl, fun z mz => by
        rw [List.take_add_one, e] at mz
        rcases List.mem_append.mp mz with mz | mz
        · exact hg z mz
        · rw [Option.toList_some, List.mem_singleton] at mz; rw [mz]; exact hb, _, rfl⟩
      unfold stepOf
      cases hrow : isRow x
      · have hb := bad (by simp only [goodRow, hrow, Bool.false_and])
        fail "gs"
      · obtain ⟨es, rfl, l1, l2⟩ := isRow_tup' hrow
        obtain ⟨hs, tl, hds⟩ : ∃ hs tl, ds = .tup hs :: tl := by
          cases ds with
          | nil => simp at hi
          | cons z tl =>
            cases i with
            | zero => cases e; exact ⟨es, tl, rfl⟩
            | succ i =>
              have hz := hg z (by simp)
              simp only [goodRow, Bool.and_eq_true] at hz
              obtain ⟨zs, rfl, _, _⟩ := isRow_tup' hz.1
              exact ⟨zs, tl, rfl⟩
        have hw : goodRow (widD (ds.headD .non)) (.tup es) = decide (es.length = hs.length) := by
          rw [hds]; simp only [goodRow, hrow, Bool.true_and, widD, List.headD_cons]; rfl
        rw [hw] at bad good
        by_cases hl : es.length = hs.length
        · have hb := good (decide_eq_true hl)
          subst hds
          fail "gs"
          exact hb _
        · have hb := bad (decide_eq_false hl)
          subst hds
          fail "gs"
    · rintro r om' ⟨rfl, hg, y, rfl⟩
      have : rowsL ds = true := List.all_eq_true.mpr fun x mx => hg x (by rw [List.take_length]; exact mx)
      rw [this] at h
      fail "gs"
  | _ => fail "gs"; exact h
end
theorem ok_is_rows {P : Program} {w : World} {K : PySem.W.Frag} {mg : Str → Option Value} {base : Heap} {f : Addr} {fd : FuncData} (F : FunD K "is_rows" "is_rows" (defArgs s_is_rows) (defBody s_is_rows) (defScope s_is_rows) [] [] f fd) (T : Txt K mg) (D_is_row : Def P w K mg base "is_row" c_is_row 2) : GFn P w K mg base (L2.CX P w) 3 f fd ["thing"] (toSp K c_is_rows) :=
  (fn_ok (c := c_is_rows) F sc_is_rows rfl (fun cdv A outer s H E hr => d_is_rows T D_is_row cdv A outer s H E hr) wp_is_rows)
def df_law_rows : DF := fun ds om k xk => ∃ (a : Addr), ∃ (n : Nat), ∃ (w : Int), ds = [.h a, .int w] ∧ (Dk om a n) ∧ (n < 10000000000) ∧ (1 ≤ w) ∧ (w ≤ 24) ∧ (∀ rs om', rs.length ≤ 9 → (∀ r ∈ rs, r.length = w.toNat ∧ ∀ x ∈ r, x.natAbs ≤ 10 ^ 18) → Dk om' a (n + 3000) → k (.o (rowsD rs)) om')
theorem call_law_rows {om : Om} {k : RV → Om → Prop} {xk : Exn → Om → Prop} {a : Addr} {n : Nat} {w : Int} (ha : Dk om a n) (hn : n < 10000000000) (w0 : 1 ≤ w) (w1 : w ≤ 24) (h : ∀ rs om', rs.length ≤ 9 → (∀ r ∈ rs, r.length = w.toNat ∧ ∀ x ∈ r, x.natAbs ≤ 10 ^ 18) → Dk om' a (n + 3000) → k (.o (rowsD rs)) om') : df_law_rows [.h a, .int w] om k xk := ⟨a, n, w, rfl, ha, hn, w0, w1, h⟩
def c_law_rows : Con := ⟨2, df_law_rows, by intro ds om k xk h; obtain ⟨a, n, w, rfl, _, _, _, _, _⟩ := h; rfl, by intro ds om k k' xk xk' hk hx h; obtain ⟨a, n, w, e_, ha, hn, w0, w1, h⟩ := h; refine ⟨a, n, w, e_, ha, hn, w0, w1, ?_⟩; first | exact hk _ _ h | exact hx _ _ h | exact fun hq => hk _ _ (h hq) | (intros; apply hk; apply h <;> assumption) | (simp only [cnd] at h ⊢; grind) | grind⟩
theorem callK_law_rows {om : Om} {k : RV → Om → Prop} {xk : Exn → Om → Prop} {a : Addr} {n : Nat} {w : Int} {t : Tg (df_law_rows, k, xk)} (ha : Dk om a n) (hn : n < 10000000000) (w0 : 1 ≤ w) (w1 : w ≤ 24) (h : ∀ rs om', rs.length ≤ 9 → (∀ r ∈ rs, r.length = w.toNat ∧ ∀ x ∈ r, x.natAbs ≤ 10 ^ 18) → Dk om' a (n + 3000) → k (.o (rowsD rs)) om') : callK df_law_rows [.h a, .int w] om k xk t := call_law_rows ha hn w0 w1 h
def w_law_rows : WS :=
  (wSeq (wAsg (wFz (wCall df_law_next [] (wCons (wVar 0) (wCons (wC (.int 3)) wNil)))) (gN 2)) (wSeq (wAsg (wLst wNil) (gN 3)) (wSeq (wFor (wiR1 (wCons (wCall df_law_next [] (wCons (wVar 0) (wCons (wC (.int 10)) wNil))) wNil)) (gN 4) (wIfS (wAnd (wTst (wOp pNeL (wBor 3) (wLst wNil))) (wTst (wOp pEq (wCall df_law_next [] (wCons (wVar 0) (wCons (wC (.int 5)) wNil))) (wC (.int 0))))) (wDrop (wMut 3 mApp (wCons (wOp pIx (wBor 3) (wCall df_law_next [] (wCons (wVar 0) (wCons (wCB pLen (wCons (wBor 3) wNil)) wNil)))) wNil))) (wIfS (wTst (wOp pGtA (wBor 2) (wC (.int 0)))) (wDrop (wMut 3 mApp (wCons (wCB pTuple (wCons (wLc (wiR1 (wCons (wBor 1) wNil)) (gN 5) wYes (wCall df_law_next [] (wCons (wVar 0) (wCons (wOp pAdd (wC (.int 1)) (wBor 2)) wNil))) [5]) wNil)) wNil))) (wDrop (wMut 3 mApp (wCons (wCB pTuple (wCons (wLc (wiR1 (wCons (wBor 1) wNil)) (gN 5) wYes (wCall df_law_number [] (wCons (wVar 0) wNil)) [5]) wNil)) wNil)))))) (wRet (wMov 3)))))
theorem d_law_rows {P : Program} {w : World} {K : PySem.W.Frag} {mg : Str → Option Value} {base : Heap} {f : Addr} (T : Txt K mg) (D_law_next : Def P w K mg base "_law_next" c_law_next 1) (D_law_number : Def P w K mg base "_law_number" c_law_number 2) (cdv : Value) (A : Around) (outer : List PySem.Env) (s : Shared) (H : Hp) (E : XK) (hr : GRoom 2 (A.deeper (PyProof.Rows.envOfC "_law_rows" (defScope s_law_rows) s.heap.objs.size f cdv))) :
    ∃ t, DSs (cxOf (L2.CX P w) P w K mg base ["_law_deck_here", "_law_width", "_law_few", "_law_rows_here", "_law_k", "_law_part"] "_law_rows" (defScope s_law_rows) f cdv A outer s H E) (fun cls d _ H => E cls d H) (defBody s_law_rows) t w_law_rows :=
  ⟨_, (dss_cons (ds_set 2 sc_law_rows.nd (de_fz (de_call (c := c_law_next) D_law_next (hr.mono (by decide)) (takes_of rfl rfl rfl rfl) (da_cons (de_var 0) (da_cons de_int da_nil))))) (dss_cons (ds_set 3 sc_law_rows.nd (de_lst da_nil)) (dss_cons (ds_for (passes_of rfl) rfl (di_r1 T.n_range (da_cons (de_call (c := c_law_next) D_law_next (hr.mono (by decide)) (takes_of rfl rfl rfl rfl) (da_cons (de_var 0) (da_cons de_int da_nil))) da_nil)) (dg_name 4 sc_law_rows.nd) (dss_one (ds_if (DW.dt (dw_and (dt_cmp (o_neL hr) (de_bor 3) (de_lst da_nil)) (dw_and1 (dt_cmp (o_eq hr) (de_call (c := c_law_next) D_law_next (hr.mono (by decide)) (takes_of rfl rfl rfl rfl) (da_cons (de_var 0) (da_cons de_int da_nil))) de_int)))) (dss_one (ds_drop (de_app 3 (de_ix (de_bor 3) (de_call (c := c_law_next) D_law_next (hr.mono (by decide)) (takes_of rfl rfl rfl rfl) (da_cons (de_var 0) (da_cons (de_cb n_len T.n_len (by decide +kernel) (da_cons (de_bor 3) da_nil)) da_nil))))))) (dss_one (ds_if (dt_cmp (o_gtA hr) (de_bor 2) de_int) (dss_one (ds_drop (de_app 3 (de_ct n_tuple T.n_tuple (by decide +kernel) (da_cons (de_lc (own := [("_law_part", 5)]) rfl sc_law_rows.nd (di_r1 T.n_range (da_cons (de_bor 1) da_nil)) (by kernel_rfl) (fun _ _ _ _ _ => (dgv_name 5 sc_law_rows.nd)) (fun _ _ _ _ _ => dts_nil) (fun _ _ _ _ _ => (de_call' (K' := K) (c := c_law_next) D_law_next (hr.mono (by decide)) takes0 (da_cons (de_var 0) (da_cons (de_op (o_add' (K' := K)) de_int (de_bor 2)) da_nil)))) s) da_nil))))) (dss_one (ds_drop (de_app 3 (de_ct n_tuple T.n_tuple (by decide +kernel) (da_cons (de_lc (own := [("_law_part", 5)]) rfl sc_law_rows.nd (di_r1 T.n_range (da_cons (de_bor 1) da_nil)) (by kernel_rfl) (fun _ _ _ _ _ => (dgv_name 5 sc_law_rows.nd)) (fun _ _ _ _ _ => dts_nil) (fun _ _ _ _ _ => (de_call' (K' := K) (c := c_law_number) D_law_number (hr.mono (by decide)) takes0 (da_cons (de_var 0) da_nil))) s) da_nil)))))))))) (dss_one (ds_retV 3)))))⟩
local macro_rules | `(tactic| fail "ca") => `(tactic| (with_reducible refine ca_guard ?_; first | with_reducible refine callK_is_number ?_ ?_ | with_reducible refine callK_less ?_ ?_ ?_ ?_ | with_reducible refine callK_law_deck ?_ ?_ | with_reducible refine callK_law_next (by fail "ra") ?_ ?_ ?_ ?_ | with_reducible refine callK_law_whole ?_ ?_ | with_reducible refine callK_law_first ?_ ?_ ?_ ?_ ?_ | with_reducible refine callK_law_same ?_ ?_ ?_ | with_reducible refine callK_is_row ?_ ?_ ?_ | with_reducible refine callK_law_number (by fail "ra") ?_ ?_ | with_reducible refine callK_law_in_order (by fail "ra") ?_ ?_ ?_ ?_ ?_ ?_ | with_reducible refine callK_law_alike ?_ ?_ ?_ | with_reducible refine callK_law_other (by fail "ra") ?_ (by fail "ra") ?_ ?_ ?_ ?_ | with_reducible refine callK_law_neighbours (by fail "ra") ?_ ?_ ?_ ?_ ?_ ?_ | with_reducible refine callK_law_no_rows (by fail "ra") ?_ ?_ ?_ ?_ ?_ ?_ | with_reducible refine callK_law_no_column (by fail "ra") ?_ ?_ ?_ ?_ ?_ | with_reducible refine callK_is_rows ?_ ?_ ?_ | with_reducible refine callK_law_rows (by fail "ra") ?_ ?_ ?_ ?_))

section
local macro_rules | `(tactic| fail "d1") => `(tactic| simp -dsimp only [↓u_18, ↓u_22, ↓u_50, ↓u_51, ↓u_52, ↓u_53, ↓u_55, ↓u_59, ↓u_60, ↓u_61, ↓u_62, ↓u_63, ↓u_65, ↓u_66, ↓u_78, ↓u_79, ↓u_80, ↓u_81, ↓u_83, ↓u_91, ↓u_92, ↓u_96, ↓u_97, ↓u_98, ↓u_100, u_101, ↓u_102, ↓u_111, u_116, u_117, u_120, u_127, u_128, u_129, u_130, u_132, u_133, u_134, u_135, u_136, u_137, u_138, u_139, u_146, u_148, u_151, ↓u_169, ↓u_171, ↓u_176, u_186, u_194, u_195, ↓u_198, ↓u_207, ↓u_218, ↓u_225, u_229, u_231, u_233, u_234, u_235, u_236, u_240, u_241, u_243, u_244, u_245, u_246, u_247, u_248, u_250, u_251, u_253, u_270, u_271, ↓u_335, u_371, ↓u_567, ↓u_568, ↓u_571, ↓u_573, ↓u_574, ↓u_575, ↓u_576, ↓u_579, ↓u_580, u_592, List.length_append, List.map_nil, List.map_append, List.map_cons, Nat.reduceSub, Nat.reduceAdd, Nat.reduceLT, Nat.reduceLeDiff, reduceIte, String.reduceBEq, String.reduceEq, Int.reduceLT, Int.reduceLE, Int.reduceEq, Int.reduceToNat])
local macro_rules | `(tactic| fail "dl") => `(tactic| try fail "d1")
theorem wp_law_rows (ds : List D) (om : Om) (k : RV → Om → Prop) (xk : Exn → Om → Prop) (h : df_law_rows ds om k xk) : w_law_rows (endOf k xk) (startE 6 ds) om := by
  obtain ⟨a, n, w, rfl, ha, hn, w0, w1, h⟩ := h
  unfold w_law_rows endOf
  fail "gs"
  rename_i m om1 m0 m1 d1 m2 om2 m3 m4 d2
  refine loop_rng (fun i r om' => Dk om' a (n + 2 + i * 300) ∧ ∃ (rs : List (List Int)) (x4 : Option RV), rs.length = i ∧ (∀ r ∈ rs, r.length = w.toNat ∧ ∀ x ∈ r, x.natAbs ≤ 10 ^ 18) ∧ r = [some (.v (.h a)), some (.v (.int w)), some (.v (.int m)), some (.o (rowsD rs)), x4, none]) ⟨Dk.mono d2 (by omega), [], none, rfl, by simp, rfl⟩ ?_ ?_
  · rintro i r om2 nx hi ⟨d2, rs, x4, rfl, hrs, rfl⟩ hnx
    have key : ∀ (q : List Int) om3 x4, q.length = w.toNat → (∀ x ∈ q, x.natAbs ≤ 10 ^ 18) → Dk om3 a (n + 2 + rs.length * 300 + 300) → nx [some (.v (.h a)), some (.v (.int w)), some (.v (.int m)), some (.o (rowsD rs ++ [rowD q])), x4, none] om3 := fun q om3 x4 h1 h2 h3 =>
      hnx _ _ ⟨Dk.mono h3 (by omega), rs ++ [q], x4, by simp, fun r mr => by
        rcases List.mem_append.mp mr with mr | mr
        · exact hrs r mr
        · rw [List.mem_singleton.mp mr]; exact ⟨h1, h2⟩, by simp [rowsD]⟩
    have hne : (rowsD rs).isEmpty = false → (0 : Int) < (rs.length : Int) := fun h => by
      cases rs with
      | nil => cases h
      | cons _ _ => simp only [List.length_cons]; omega
    have hg : ∀ j, j < rs.length → (rs.getD j []).length = w.toNat ∧ ∀ x ∈ rs.getD j [], x.natAbs ≤ 10 ^ 18 := fun j hj => hrs _ (by rw [List.getD_eq_getElem?_getD, List.getElem?_eq_getElem hj]; exact List.getElem_mem _)
    unfold stepOf; fail "gs"
    all_goals first
      | exact hne (by assumption)
      | exact key _ _ _ (hg _ (by omega)).1 (hg _ (by omega)).2 (Dk.mono (by assumption) (by omega))
      | (refine lc_list (fun j acc r om3 => Dk om3 a (n + 2 + rs.length * 300 + 1 + j * 9) ∧ r = [some (.v (.h a)), some (.v (.int w)), some (.v (.int m)), some (.o (rowsD rs)), some (.v (.int (0 + (rs.length : Int)))), none] ∧ ∃ q : List Int, acc = q.map D.int ∧ q.length = j ∧ ∀ x ∈ q, x.natAbs ≤ 10 ^ 18) ⟨Dk.mono (by assumption) (by omega), rfl, [], rfl, rfl, by simp⟩ ?_ ?_
         · rintro j d acc r om3 nx2 e ⟨d3, rfl, q, rfl, rfl, hq⟩ hn2
           have hj := (rng_get e).1
           obtain rfl := (rng_get e).2
           fail "gs"
           all_goals
             refine hn2 _ _ _ ⟨Dk.mono (by assumption) (by omega), rfl, q ++ [_], by rw [List.map_append]; rfl, by simp, fun x mx => ?_⟩
             rcases List.mem_append.mp mx with mx | mx
             · exact hq x mx
             · rw [List.mem_singleton.mp mx]; omega
         · rintro acc r om3 ⟨d3, rfl, q, rfl, hq1, hq⟩
           rw [rng_len] at *
           fail "gs"
           exact key q _ _ hq1 hq (Dk.mono d3 (by omega)))
  · rintro r om' ⟨d2, rs, x4, hl, hrs, rfl⟩
    fail "gs"
    exact h rs om' (by omega) hrs (Dk.mono d2 (by omega))
end
theorem ok_law_rows {P : Program} {w : World} {K : PySem.W.Frag} {mg : Str → Option Value} {base : Heap} {f : Addr} {fd : FuncData} (F : FunD K "_law_rows" "_law_rows" (defArgs s_law_rows) (defBody s_law_rows) (defScope s_law_rows) [] [] f fd) (T : Txt K mg) (D_law_next : Def P w K mg base "_law_next" c_law_next 1) (D_law_number : Def P w K mg base "_law_number" c_law_number 2) : GFn P w K mg base (L2.CX P w) 3 f fd ["_law_deck_here", "_law_width"] (toSp K c_law_rows) :=
  (fn_ok (c := c_law_rows) F sc_law_rows rfl (fun cdv A outer s H E hr => d_law_rows T D_law_next D_law_number cdv A outer s H E hr) wp_law_rows)
def df_look : DF := fun ds om k xk => ∃ (d : D), ∃ (c : D), ds = [d, c] ∧ (plainD d = true) ∧ (deepP d = true) ∧ (plainD c = true) ∧ (cnd (isRows d) (cnd (colOk (widR d) c) (k (.v .non) om) (xk ⟨"NoColumn", none⟩ om)) (xk ⟨"NoRows", none⟩ om))
theorem call_look {om : Om} {k : RV → Om → Prop} {xk : Exn → Om → Prop} {d : D} {c : D} (hd : plainD d = true) (hp : deepP d = true) (hc : plainD c = true) (h : cnd (isRows d) (cnd (colOk (widR d) c) (k (.v .non) om) (xk ⟨"NoColumn", none⟩ om)) (xk ⟨"NoRows", none⟩ om)) : df_look [d, c] om k xk := ⟨d, c, rfl, hd, hp, hc, h⟩
def c_look : Con := ⟨2, df_look, by intro ds om k xk h; obtain ⟨d, c, rfl, _, _, _, _⟩ := h; rfl, by intro ds om k k' xk xk' hk hx h; obtain ⟨d, c, e_, hd, hp, hc, h⟩ := h; refine ⟨d, c, e_, hd, hp, hc, ?_⟩; first | exact hk _ _ h | exact hx _ _ h | exact fun hq => hk _ _ (h hq) | (intros; apply hk; apply h <;> assumption) | (simp only [cnd] at h ⊢; grind) | grind⟩
theorem callK_look {om : Om} {k : RV → Om → Prop} {xk : Exn → Om → Prop} {d : D} {c : D} {t : Tg (df_look, k, xk)} (hd : plainD d = true) (hp : deepP d = true) (hc : plainD c = true) (h : cnd (isRows d) (cnd (colOk (widR d) c) (k (.v .non) om) (xk ⟨"NoColumn", none⟩ om)) (xk ⟨"NoRows", none⟩ om)) : callK df_look [d, c] om k xk t := call_look hd hp hc h
def w_look : WS :=
  (wSeq (wIfS (wNot (wTru (wCall df_is_rows [] (wCons (wVar 0) wNil)))) (wRaise "NoRows") wNext) (wSeq (wAsg (wC (.int 24)) (gN 2)) (wSeq (wIfS (wTst (wOp pGtA (wCB pLen (wCons (wBor 0) wNil)) (wC (.int 0)))) (wAsg (wFz (wCB pLen (wCons (wOp pIx (wBor 0) (wC (.int 0))) wNil))) (gN 2)) wNext) (wIfS (wOr (wNot (wTru (wCall df_is_number [] (wCons (wVar 1) wNil)))) (wNot (wTst (wChain pLeA pLtA (wC (.int 0)) (wBor 1) (wBor 2))))) (wRaise "NoColumn") wNext))))
theorem d_look {P : Program} {w : World} {K : PySem.W.Frag} {mg : Str → Option Value} {base : Heap} {f : Addr} (T : Txt K mg) (D_is_number : Def P w K mg base "is_number" c_is_number 1) (D_is_rows : Def P w K mg base "is_rows" c_is_rows 3) (cdv : Value) (A : Around) (outer : List PySem.Env) (s : Shared) (H : Hp) (E : XK) (hr : GRoom 3 (A.deeper (PyProof.Rows.envOfC "look" (defScope s_look) s.heap.objs.size f cdv))) :
    ∃ t, DSs (cxOf (L2.CX P w) P w K mg base ["rows", "column", "width"] "look" (defScope s_look) f cdv A outer s H E) (fun cls d _ H => E cls d H) (defBody s_look) t w_look :=
  ⟨_, (dss_cons (ds_if (dt_not (dt_tru (de_call (c := c_is_rows) D_is_rows (hr.mono (by decide)) (takes_of rfl rfl rfl rfl) (da_cons (de_var 0) da_nil)))) (dss_one (ds_raise T.x_NoRows (takes_of rfl rfl rfl rfl))) dss_nil) (dss_cons (ds_set 2 sc_look.nd (de_glob T.c_WIDEST)) (dss_cons (ds_if (dt_cmp (o_gtA hr) (de_cb n_len T.n_len (by decide +kernel) (da_cons (de_bor 0) da_nil)) de_int) (dss_one (ds_set 2 sc_look.nd (de_fz (de_cb n_len T.n_len (by decide +kernel) (da_cons (de_ix (de_bor 0) de_int) da_nil))))) dss_nil) (dss_one (ds_if (DW.dt (dw_or (dt_not (dt_tru (de_call (c := c_is_number) D_is_number (hr.mono (by decide)) (takes_of rfl rfl rfl rfl) (da_cons (de_var 1) da_nil)))) (dw_or1 (dt_not (dt_chain (o_leA hr) (o_ltA hr) de_int (de_bor 1) (de_bor 2)))))) (dss_one (ds_raise T.x_NoColumn (takes_of rfl rfl rfl rfl))) dss_nil)))))⟩
local macro_rules | `(tactic| fail "ca") => `(tactic| (with_reducible refine ca_guard ?_; first | with_reducible refine callK_is_number ?_ ?_ | with_reducible refine callK_less ?_ ?_ ?_ ?_ | with_reducible refine callK_law_deck ?_ ?_ | with_reducible refine callK_law_next (by fail "ra") ?_ ?_ ?_ ?_ | with_reducible refine callK_law_whole ?_ ?_ | with_reducible refine callK_law_first ?_ ?_ ?_ ?_ ?_ | with_reducible refine callK_law_same ?_ ?_ ?_ | with_reducible refine callK_is_row ?_ ?_ ?_ | with_reducible refine callK_law_number (by fail "ra") ?_ ?_ | with_reducible refine callK_law_in_order (by fail "ra") ?_ ?_ ?_ ?_ ?_ ?_ | with_reducible refine callK_law_alike ?_ ?_ ?_ | with_reducible refine callK_law_other (by fail "ra") ?_ (by fail "ra") ?_ ?_ ?_ ?_ | with_reducible refine callK_law_neighbours (by fail "ra") ?_ ?_ ?_ ?_ ?_ ?_ | with_reducible refine callK_law_no_rows (by fail "ra") ?_ ?_ ?_ ?_ ?_ ?_ | with_reducible refine callK_law_no_column (by fail "ra") ?_ ?_ ?_ ?_ ?_ | with_reducible refine callK_is_rows ?_ ?_ ?_ | with_reducible refine callK_law_rows (by fail "ra") ?_ ?_ ?_ ?_ | with_reducible refine callK_look ?_ ?_ ?_ ?_))

section
local macro_rules | `(tactic| fail "d1") => `(tactic| simp -dsimp only [↓u_22, ↓u_50, ↓u_51, ↓u_52, ↓u_56, ↓u_59, ↓u_60, ↓u_62, ↓u_63, ↓u_65, ↓u_66, ↓u_79, ↓u_80, ↓u_81, ↓u_82, ↓u_84, ↓u_85, ↓u_89, u_116, u_117, u_119, u_120, u_121, u_127, u_132, u_133, u_134, u_135, u_136, u_139, u_140, u_148, u_149, u_150, ↓u_169, ↓u_176, ↓u_177, ↓u_179, u_194, ↓u_198, ↓u_206, ↓u_207, ↓u_208, u_229, u_231, u_233, u_234, u_235, u_236, u_240, u_241, u_243, u_244, u_245, u_246, u_247, u_248, u_250, u_251, ↓u_328, ↓u_335, u_371, u_384, ↓u_567, ↓u_568, ↓u_570, ↓u_571, ↓u_573, ↓u_574, ↓u_576, List.map_nil, List.map_cons, Nat.reduceSub, Nat.reduceAdd, Nat.reduceLT, Nat.reduceLeDiff, reduceIte, String.reduceBEq, String.reduceEq, Int.reduceLT, Int.reduceLE, Int.reduceEq, Int.reduceToNat])
local macro_rules | `(tactic| fail "dl") => `(tactic| try fail "d1")
theorem wp_look (ds : List D) (om : Om) (k : RV → Om → Prop) (xk : Exn → Om → Prop) (h : df_look ds om k xk) : w_look (endOf k xk) (startE 3 ds) om := by
  obtain ⟨d, c, rfl, hd, hp, hc, h⟩ := h
  unfold w_look endOf
  cases q1 : isRows d <;> simp only [q1, cnd_t, cnd_f] at h
  · fail "gs"
  have tail : ∀ (w : Nat), widR d = w → True := fun _ _ => trivial
  cases d with
  | lst ds =>
    cases ds with
    | nil =>
      simp only [widR] at h
      cases hi : isNum c
      · have : colOk 24 c = false := by cases c <;> first | rfl | cases hi
        rw [this, cnd_f] at h
        fail "gs"
      · obtain ⟨i, rfl⟩ := num_int hi
        simp only [colOk] at h
        fail "gs"
        all_goals simpa [*, cnd_t, cnd_f] using h
    | cons r tl =>
      obtain ⟨es, rfl, l1, l2⟩ := rows_head q1 rfl
      simp only [widR, widD] at h
      cases hi : isNum c
      · have : colOk es.length c = false := by cases c <;> first | rfl | cases hi
        rw [this, cnd_f] at h
        fail "gs"
      · obtain ⟨i, rfl⟩ := num_int hi
        simp only [colOk] at h
        fail "gs"
        all_goals simpa [*, cnd_t, cnd_f] using h
  | frl ds =>
    cases ds with
    | nil =>
      simp only [widR] at h
      cases hi : isNum c
      · have : colOk 24 c = false := by cases c <;> first | rfl | cases hi
        rw [this, cnd_f] at h
        fail "gs"
      · obtain ⟨i, rfl⟩ := num_int hi
        simp only [colOk] at h
        fail "gs"
        all_goals simpa [*, cnd_t, cnd_f] using h
    | cons r tl =>
      obtain ⟨es, rfl, l1, l2⟩ := rows_head q1 rfl
      simp only [widR, widD] at h
      cases hi : isNum c
      · have : colOk es.length c = false := by cases c <;> first | rfl | cases hi
        rw [this, cnd_f] at h
        fail "gs"
      · obtain ⟨i, rfl⟩ := num_int hi
        simp only [colOk] at h
        fail "gs"
        all_goals simpa [*, cnd_t, cnd_f] using h
  | _ => cases q1
end
theorem ok_look {P : Program} {w : World} {K : PySem.W.Frag} {mg : Str → Option Value} {base : Heap} {f : Addr} {fd : FuncData} (F : FunD K "look" "look" (defArgs s_look) (defBody s_look) (defScope s_look) [] [] f fd) (T : Txt K mg) (D_is_number : Def P w K mg base "is_number" c_is_number 1) (D_is_rows : Def P w K mg base "is_rows" c_is_rows 3) : GFn P w K mg base (L2.CX P w) 4 f fd ["rows", "column"] (toSp K c_look) :=
  (fn_ok (c := c_look) F sc_look rfl (fun cdv A outer s H E hr => d_look T D_is_number D_is_rows cdv A outer s H E hr) wp_look)


def df_same_rows__1 : DF := fun ds om k xk => ∃ (rs : List (List Int)), ∃ (qs : List (List Int)), ∃ (w : Nat), ds = [.lst (rowsD rs), .lst (rowsD qs)] ∧ (Wd w rs) ∧ (Wd w qs) ∧ (1 ≤ w) ∧ (w ≤ 24) ∧ (rs.length ≤ 4000) ∧ (qs.length ≤ 4000) ∧ (k (.v (.bl (decide (sortL rs = sortL qs)))) om)
theorem dl_same_rows__1 {ds : List D} {om : Om} {k : RV → Om → Prop} {xk : Exn → Om → Prop} (h : df_same_rows__1 ds om k xk) : ds.length = 2 := by obtain ⟨rs, qs, w, rfl, _, _, _, _, _, _, _⟩ := h; rfl
theorem dm_same_rows__1 {ds : List D} {om : Om} {k k' : RV → Om → Prop} {xk xk' : Exn → Om → Prop} (hk : ∀ x o, k x o → k' x o) (hx : ∀ x o, xk x o → xk' x o) (h : df_same_rows__1 ds om k xk) : df_same_rows__1 ds om k' xk' := by obtain ⟨rs, qs, w, e_, hr, hq, w0, w1, hl, hm, h⟩ := h; refine ⟨rs, qs, w, e_, hr, hq, w0, w1, hl, hm, ?_⟩; first | exact hk _ _ h | exact hx _ _ h | exact fun hq => hk _ _ (h hq) | (intros; apply hk; apply h <;> assumption) | (simp only [cnd] at h ⊢; grind) | grind
def df_same_rows__2 : DF := fun ds om k xk => ∃ (d : D), ∃ (e : D), ds = [d, e] ∧ (plainD d = true) ∧ (deepP d = true) ∧ (plainD e = true) ∧ (deepP e = true) ∧ (isRows d = false ∨ isRows e = false) ∧ (xk ⟨"NoRows", none⟩ om)
theorem dl_same_rows__2 {ds : List D} {om : Om} {k : RV → Om → Prop} {xk : Exn → Om → Prop} (h : df_same_rows__2 ds om k xk) : ds.length = 2 := by obtain ⟨d, e, rfl, _, _, _, _, _, _⟩ := h; rfl
theorem dm_same_rows__2 {ds : List D} {om : Om} {k k' : RV → Om → Prop} {xk xk' : Exn → Om → Prop} (hk : ∀ x o, k x o → k' x o) (hx : ∀ x o, xk x o → xk' x o) (h : df_same_rows__2 ds om k xk) : df_same_rows__2 ds om k' xk' := by obtain ⟨d, e, e_, hd, hp, hd2, hp2, hx, h⟩ := h; refine ⟨d, e, e_, hd, hp, hd2, hp2, hx, ?_⟩; first | exact hk _ _ h | exact hx _ _ h | exact fun hq => hk _ _ (h hq) | (intros; apply hk; apply h <;> assumption) | (simp only [cnd] at h ⊢; grind) | grind
def df_same_rows : DF := fun ds om k xk => df_same_rows__1 ds om k xk ∨ df_same_rows__2 ds om k xk
def c_same_rows : Con := ⟨2, df_same_rows, by intro ds om k xk h; rcases h with h | h <;> first | exact dl_same_rows__1 h | exact dl_same_rows__2 h, by intro ds om k k' xk xk' hk hx h; rcases h with h | h; exact (Or.inl (dm_same_rows__1 (fun x o => hk x o) (fun x o => hx x o) h)); exact (Or.inr (dm_same_rows__2 (fun x o => hk x o) (fun x o => hx x o) h))⟩
theorem call_same_rows {om : Om} {k : RV → Om → Prop} {xk : Exn → Om → Prop} {rs : List (List Int)} {qs : List (List Int)} {w : Nat} (hr : Wd w rs) (hq : Wd w qs) (w0 : 1 ≤ w) (w1 : w ≤ 24) (hl : rs.length ≤ 4000) (hm : qs.length ≤ 4000) (h : k (.v (.bl (decide (sortL rs = sortL qs)))) om) : df_same_rows [.lst (rowsD rs), .lst (rowsD qs)] om k xk := (Or.inl ⟨rs, qs, w, rfl, hr, hq, w0, w1, hl, hm, h⟩)
theorem callK_same_rows {om : Om} {k : RV → Om → Prop} {xk : Exn → Om → Prop} {rs : List (List Int)} {qs : List (List Int)} {w : Nat} {t : Tg (df_same_rows, k, xk)} (hr : Wd w rs) (hq : Wd w qs) (w0 : 1 ≤ w) (w1 : w ≤ 24) (hl : rs.length ≤ 4000) (hm : qs.length ≤ 4000) (h : k (.v (.bl (decide (sortL rs = sortL qs)))) om) : callK df_same_rows [.lst (rowsD rs), .lst (rowsD qs)] om k xk t := call_same_rows hr hq w0 w1 hl hm h
theorem call_same_rows__2 {om : Om} {k : RV → Om → Prop} {xk : Exn → Om → Prop} {d : D} {e : D} (hd : plainD d = true) (hp : deepP d = true) (hd2 : plainD e = true) (hp2 : deepP e = true) (hx : isRows d = false ∨ isRows e = false) (h : xk ⟨"NoRows", none⟩ om) : df_same_rows [d, e] om k xk := (Or.inr ⟨d, e, rfl, hd, hp, hd2, hp2, hx, h⟩)
theorem callK_same_rows__2 {om : Om} {k : RV → Om → Prop} {xk : Exn → Om → Prop} {d : D} {e : D} {t : Tg (df_same_rows, k, xk)} (hd : plainD d = true) (hp : deepP d = true) (hd2 : plainD e = true) (hp2 : deepP e = true) (hx : isRows d = false ∨ isRows e = false) (h : xk ⟨"NoRows", none⟩ om) : callK df_same_rows [d, e] om k xk t := call_same_rows__2 hd hp hd2 hp2 hx h
def w_same_rows : WS :=
  (wSeq (wIfS (wOr (wNot (wTru (wCall df_is_rows [] (wCons (wVar 0) wNil)))) (wNot (wTru (wCall df_is_rows [] (wCons (wVar 1) wNil))))) (wRaise "NoRows") wNext) (wRet (wOp pEq (wCB pSorted (wCons (wBor 0) wNil)) (wCB pSorted (wCons (wBor 1) wNil)))))
theorem d_same_rows {P : Program} {w : World} {K : PySem.W.Frag} {mg : Str → Option Value} {base : Heap} {f : Addr} (T : Txt K mg) (D_is_rows : Def P w K mg base "is_rows" c_is_rows 3) (cdv : Value) (A : Around) (outer : List PySem.Env) (s : Shared) (H : Hp) (E : XK) (hr : GRoom 3 (A.deeper (PyProof.Rows.envOfC "same_rows" (defScope s_same_rows) s.heap.objs.size f cdv))) :
    ∃ t, DSs (cxOf (L2.CX P w) P w K mg base ["one", "other"] "same_rows" (defScope s_same_rows) f cdv A outer s H E) (fun cls d _ H => E cls d H) (defBody s_same_rows) t w_same_rows :=
  ⟨_, (dss_cons (ds_if (DW.dt (dw_or (dt_not (dt_tru (de_call (c := c_is_rows) D_is_rows (hr.mono (by decide)) (takes_of rfl rfl rfl rfl) (da_cons (de_var 0) da_nil)))) (dw_or1 (dt_not (dt_tru (de_call (c := c_is_rows) D_is_rows (hr.mono (by decide)) (takes_of rfl rfl rfl rfl) (da_cons (de_var 1) da_nil))))))) (dss_one (ds_raise T.x_NoRows (takes_of rfl rfl rfl rfl))) dss_nil) (dss_one (ds_ret (de_cmp (o_eq hr) (de_cb (n_sorted hr) T.n_sorted (by decide +kernel) (da_cons (de_bor 0) da_nil)) (de_cb (n_sorted hr) T.n_sorted (by decide +kernel) (da_cons (de_bor 1) da_nil))))))⟩
local macro_rules | `(tactic| fail "ca") => `(tactic| (with_reducible refine ca_guard ?_; first | with_reducible refine callK_is_number ?_ ?_ | with_reducible refine callK_less ?_ ?_ ?_ ?_ | with_reducible refine callK_law_deck ?_ ?_ | with_reducible refine callK_law_next (by fail "ra") ?_ ?_ ?_ ?_ | with_reducible refine callK_law_whole ?_ ?_ | with_reducible refine callK_law_first ?_ ?_ ?_ ?_ ?_ | with_reducible refine callK_law_same ?_ ?_ ?_ | with_reducible refine callK_is_row ?_ ?_ ?_ | with_reducible refine callK_law_number (by fail "ra") ?_ ?_ | with_reducible refine callK_law_in_order (by fail "ra") ?_ ?_ ?_ ?_ ?_ ?_ | with_reducible refine callK_law_alike ?_ ?_ ?_ | with_reducible refine callK_law_other (by fail "ra") ?_ (by fail "ra") ?_ ?_ ?_ ?_ | with_reducible refine callK_law_neighbours (by fail "ra") ?_ ?_ ?_ ?_ ?_ ?_ | with_reducible refine callK_law_no_rows (by fail "ra") ?_ ?_ ?_ ?_ ?_ ?_ | with_reducible refine callK_law_no_column (by fail "ra") ?_ ?_ ?_ ?_ ?_ | with_reducible refine callK_is_rows ?_ ?_ ?_ | with_reducible refine callK_law_rows (by fail "ra") ?_ ?_ ?_ ?_ | with_reducible refine callK_look ?_ ?_ ?_ ?_ | with_reducible refine callK_same_rows (by fail "ra") ?_ ?_ ?_ ?_ ?_ ?_))

section
local macro_rules | `(tactic| fail "d1") => `(tactic| simp -dsimp only [↓u_22, ↓u_50, ↓u_53, ↓u_56, ↓u_59, ↓u_60, ↓u_63, ↓u_65, ↓u_66, ↓u_79, ↓u_80, ↓u_82, ↓u_84, ↓u_85, u_116, u_120, u_127, u_128, u_132, u_133, u_134, u_135, u_136, u_140, u_194, ↓u_198, u_229, u_231, u_235, u_236, u_240, u_241, u_243, u_247, u_250, u_251, u_288, ↓u_292, ↓u_293, u_377, u_467, u_476, ↓u_567, ↓u_568, ↓u_570, ↓u_573, ↓u_574, ↓u_576, List.map_nil, List.map_cons, Nat.reduceSub, Nat.reduceAdd, Nat.reduceLT, Nat.reduceLeDiff, reduceIte, String.reduceBEq, String.reduceEq, Int.reduceLT, Int.reduceLE, Int.reduceEq, Int.reduceToNat])
local macro_rules | `(tactic| fail "dl") => `(tactic| try fail "d1")
theorem wp_same_rows__1 (ds : List D) (om : Om) (k : RV → Om → Prop) (xk : Exn → Om → Prop) (h : df_same_rows__1 ds om k xk) : w_same_rows (endOf k xk) (startE 2 ds) om := by
  obtain ⟨rs, qs, w, rfl, hr, hq, w0, w1, hl, hm, h⟩ := h
  unfold w_same_rows endOf
  have e1 := isRows_rows hr w0 w1
  have e2 := isRows_rows hq w0 w1
  have e3 := deep_rows rs
  have e4 := deep_rows qs
  have n1 := okSort_rows (rs := rs) fun r m e => by have := hr r m; rw [e] at this; simp at this; omega
  have n2 := okSort_rows (rs := qs) fun r m e => by have := hq r m; rw [e] at this; simp at this; omega
  have s1 := sortD_rows rs
  have s2 := sortD_rows qs
  (repeat' (first | (with_reducible assumption) | (with_reducible intro _) | (with_reducible apply And.intro) | fail "ca" | simp -dsimp only [↓u_22, ↓u_50, ↓u_53, ↓u_56, ↓u_59, ↓u_60, ↓u_63, ↓u_65, ↓u_66, ↓u_79, ↓u_80, ↓u_82, ↓u_84, ↓u_85, u_116, u_120, u_127, u_128, u_132, u_133, u_134, u_135, u_136, u_140, u_194, ↓u_198, u_229, u_231, u_235, u_236, u_240, u_241, u_243, u_247, u_250, u_251, u_288, ↓u_292, ↓u_293, u_377, u_467, u_476, ↓u_567, ↓u_568, ↓u_570, ↓u_573, ↓u_574, ↓u_576, List.map_nil, List.map_cons, Nat.reduceSub, Nat.reduceAdd, Nat.reduceLT, Nat.reduceLeDiff, reduceIte, String.reduceBEq, String.reduceEq, Int.reduceLT, Int.reduceLE, Int.reduceEq, Int.reduceToNat, e1, e2, s1, s2] | fail "ix" | (with_reducible refine rdDh_of (by with_reducible assumption) ?_) | (with_reducible refine rdRh_of (by with_reducible assumption) ?_) | (with_reducible refine rwK_row (by with_reducible assumption) ?_) | (with_reducible refine cnd_T (by with_reducible assumption) ?_) | (with_reducible refine cnd_F (by with_reducible assumption) ?_) | (with_reducible refine cnd_yes (by omega) ?_) | (with_reducible refine cnd_no (by omega) ?_) | (with_reducible refine cnd_dec ?_ ?_) | (with_reducible refine cnd_of ?_ ?_) | fail "si" | fail))
end
section
local macro_rules | `(tactic| fail "d1") => `(tactic| simp -dsimp only [↓u_22, ↓u_50, ↓u_59, ↓u_66, ↓u_79, ↓u_80, ↓u_82, ↓u_84, ↓u_85, u_116, u_127, u_132, u_133, u_136, u_140, ↓u_198, u_229, u_235, u_236, u_240, u_241, u_243, u_247, u_250, ↓u_328, ↓u_567, ↓u_568, ↓u_570, ↓u_571, ↓u_573, ↓u_576, List.map_nil, List.map_cons, Nat.reduceSub, Nat.reduceAdd, Nat.reduceLT, Nat.reduceLeDiff, reduceIte, String.reduceBEq, String.reduceEq, Int.reduceLT, Int.reduceLE, Int.reduceEq, Int.reduceToNat])
local macro_rules | `(tactic| fail "dl") => `(tactic| try fail "d1")
theorem wp_same_rows__2 (ds : List D) (om : Om) (k : RV → Om → Prop) (xk : Exn → Om → Prop) (h : df_same_rows__2 ds om k xk) : w_same_rows (endOf k xk) (startE 2 ds) om := by
  obtain ⟨d, e, rfl, hd, hp, hd2, hp2, hx, h⟩ := h
  unfold w_same_rows endOf
  cases h1 : isRows d with
  | false =>
    (repeat' (first | (with_reducible assumption) | (with_reducible intro _) | (with_reducible apply And.intro) | fail "ca" | simp -dsimp only [↓u_22, ↓u_50, ↓u_59, ↓u_66, ↓u_79, ↓u_80, ↓u_82, ↓u_84, ↓u_85, u_116, u_127, u_132, u_133, u_136, u_140, ↓u_198, u_229, u_235, u_236, u_240, u_241, u_243, u_247, u_250, ↓u_328, ↓u_567, ↓u_568, ↓u_570, ↓u_571, ↓u_573, ↓u_576, List.map_nil, List.map_cons, Nat.reduceSub, Nat.reduceAdd, Nat.reduceLT, Nat.reduceLeDiff, reduceIte, String.reduceBEq, String.reduceEq, Int.reduceLT, Int.reduceLE, Int.reduceEq, Int.reduceToNat, h1] | fail "ix" | (with_reducible refine rdDh_of (by with_reducible assumption) ?_) | (with_reducible refine rdRh_of (by with_reducible assumption) ?_) | (with_reducible refine rwK_row (by with_reducible assumption) ?_) | (with_reducible refine cnd_T (by with_reducible assumption) ?_) | (with_reducible refine cnd_F (by with_reducible assumption) ?_) | (with_reducible refine cnd_yes (by omega) ?_) | (with_reducible refine cnd_no (by omega) ?_) | (with_reducible refine cnd_dec ?_ ?_) | (with_reducible refine cnd_of ?_ ?_) | fail "si" | fail))
    all_goals first | assumption | exact h
  | true =>
    have h2 := hx.resolve_left (by rw [h1]; decide)
    (repeat' (first | (with_reducible assumption) | (with_reducible intro _) | (with_reducible apply And.intro) | fail "ca" | simp -dsimp only [↓u_22, ↓u_50, ↓u_59, ↓u_66, ↓u_79, ↓u_80, ↓u_82, ↓u_84, ↓u_85, u_116, u_127, u_132, u_133, u_136, u_140, ↓u_198, u_229, u_235, u_236, u_240, u_241, u_243, u_247, u_250, ↓u_328, ↓u_567, ↓u_568, ↓u_570, ↓u_571, ↓u_573, ↓u_576, List.map_nil, List.map_cons, Nat.reduceSub, Nat.reduceAdd, Nat.reduceLT, Nat.reduceLeDiff, reduceIte, String.reduceBEq, String.reduceEq, Int.reduceLT, Int.reduceLE, Int.reduceEq, Int.reduceToNat, h1, h2] | fail "ix" | (with_reducible refine rdDh_of (by with_reducible assumption) ?_) | (with_reducible refine rdRh_of (by with_reducible assumption) ?_) | (with_reducible refine rwK_row (by with_reducible assumption) ?_) | (with_reducible refine cnd_T (by with_reducible assumption) ?_) | (with_reducible refine cnd_F (by with_reducible assumption) ?_) | (with_reducible refine cnd_yes (by omega) ?_) | (with_reducible refine cnd_no (by omega) ?_) | (with_reducible refine cnd_dec ?_ ?_) | (with_reducible refine cnd_of ?_ ?_) | fail "si" | fail))
    all_goals first | assumption | exact h
end
theorem wp_same_rows (ds : List D) (om : Om) (k : RV → Om → Prop) (xk : Exn → Om → Prop) (h : df_same_rows ds om k xk) : w_same_rows (endOf k xk) (startE 2 ds) om := by
  rcases h with h | h
  · exact wp_same_rows__1 ds om k xk h
  · exact wp_same_rows__2 ds om k xk h
theorem ok_same_rows {P : Program} {w : World} {K : PySem.W.Frag} {mg : Str → Option Value} {base : Heap} {f : Addr} {fd : FuncData} (F : FunD K "same_rows" "same_rows" (defArgs s_same_rows) (defBody s_same_rows) (defScope s_same_rows) [] [] f fd) (T : Txt K mg) (D_is_rows : Def P w K mg base "is_rows" c_is_rows 3) : GFn P w K mg base (L2.CX P w) 4 f fd ["one", "other"] (toSp K c_same_rows) :=
  (fn_ok (c := c_same_rows) F sc_same_rows rfl (fun cdv A outer s H E hr => d_same_rows T D_is_rows cdv A outer s H E hr) wp_same_rows)


def df_ordered__1 : DF := fun ds om k xk => ∃ (rs : List (List Int)), ∃ (c : Int), ∃ (w : Nat), ds = [.lst (rowsD rs), .int c] ∧ (Wd w rs) ∧ (1 ≤ w) ∧ (w ≤ 24) ∧ (0 ≤ c) ∧ (c < w ∨ rs = []) ∧ (c < 24) ∧ (k (.o (rowsD (sortR c.toNat rs))) om)
theorem dl_ordered__1 {ds : List D} {om : Om} {k : RV → Om → Prop} {xk : Exn → Om → Prop} (h : df_ordered__1 ds om k xk) : ds.length = 2 := by obtain ⟨rs, c, w, rfl, _, _, _, _, _, _, _⟩ := h; rfl
theorem dm_ordered__1 {ds : List D} {om : Om} {k k' : RV → Om → Prop} {xk xk' : Exn → Om → Prop} (hk : ∀ x o, k x o → k' x o) (hx : ∀ x o, xk x o → xk' x o) (h : df_ordered__1 ds om k xk) : df_ordered__1 ds om k' xk' := by obtain ⟨rs, c, w, e_, hr, w0, w1, c0, c1, c2, h⟩ := h; refine ⟨rs, c, w, e_, hr, w0, w1, c0, c1, c2, ?_⟩; first | exact hk _ _ h | exact hx _ _ h | exact fun hq => hk _ _ (h hq) | (intros; apply hk; apply h <;> assumption) | (simp only [cnd] at h ⊢; grind) | grind
def df_ordered__2 : DF := fun ds om k xk => ∃ (d : D), ∃ (c : D), ∃ (x : Str), ds = [d, c] ∧ (plainD d = true) ∧ (deepP d = true) ∧ (plainD c = true) ∧ ((isRows d = false ∧ x = "NoRows") ∨ (isRows d = true ∧ colOk (widR d) c = false ∧ x = "NoColumn")) ∧ (xk ⟨x, none⟩ om)
theorem dl_ordered__2 {ds : List D} {om : Om} {k : RV → Om → Prop} {xk : Exn → Om → Prop} (h : df_ordered__2 ds om k xk) : ds.length = 2 := by obtain ⟨d, c, x, rfl, _, _, _, _, _⟩ := h; rfl
theorem dm_ordered__2 {ds : List D} {om : Om} {k k' : RV → Om → Prop} {xk xk' : Exn → Om → Prop} (hk : ∀ x o, k x o → k' x o) (hx : ∀ x o, xk x o → xk' x o) (h : df_ordered__2 ds om k xk) : df_ordered__2 ds om k' xk' := by obtain ⟨d, c, x, e_, hd, hp, hc, hx, h⟩ := h; refine ⟨d, c, x, e_, hd, hp, hc, hx, ?_⟩; first | exact hk _ _ h | exact hx _ _ h | exact fun hq => hk _ _ (h hq) | (intros; apply hk; apply h <;> assumption) | (simp only [cnd] at h ⊢; grind) | grind
def df_ordered : DF := fun ds om k xk => df_ordered__1 ds om k xk ∨ df_ordered__2 ds om k xk
def c_ordered : Con := ⟨2, df_ordered, by intro ds om k xk h; rcases h with h | h <;> first | exact dl_ordered__1 h | exact dl_ordered__2 h, by intro ds om k k' xk xk' hk hx h; rcases h with h | h; exact (Or.inl (dm_ordered__1 (fun x o => hk x o) (fun x o => hx x o) h)); exact (Or.inr (dm_ordered__2 (fun x o => hk x o) (fun x o => hx x o) h))⟩
theorem call_ordered {om : Om} {k : RV → Om → Prop} {xk : Exn → Om → Prop} {rs : List (List Int)} {c : Int} {w : Nat} (hr : Wd w rs) (w0 : 1 ≤ w) (w1 : w ≤ 24) (c0 : 0 ≤ c) (c1 : c < w ∨ rs = []) (c2 : c < 24) (h : k (.o (rowsD (sortR c.toNat rs))) om) : df_ordered [.lst (rowsD rs), .int c] om k xk := (Or.inl ⟨rs, c, w, rfl, hr, w0, w1, c0, c1, c2, h⟩)
theorem callK_ordered {om : Om} {k : RV → Om → Prop} {xk : Exn → Om → Prop} {rs : List (List Int)} {c : Int} {w : Nat} {t : Tg (df_ordered, k, xk)} (hr : Wd w rs) (w0 : 1 ≤ w) (w1 : w ≤ 24) (c0 : 0 ≤ c) (c1 : c < w ∨ rs = []) (c2 : c < 24) (h : k (.o (rowsD (sortR c.toNat rs))) om) : callK df_ordered [.lst (rowsD rs), .int c] om k xk t := call_ordered hr w0 w1 c0 c1 c2 h
theorem call_ordered__2 {om : Om} {k : RV → Om → Prop} {xk : Exn → Om → Prop} {d : D} {c : D} {x : Str} (hd : plainD d = true) (hp : deepP d = true) (hc : plainD c = true) (hx : (isRows d = false ∧ x = "NoRows") ∨ (isRows d = true ∧ colOk (widR d) c = false ∧ x = "NoColumn")) (h : xk ⟨x, none⟩ om) : df_ordered [d, c] om k xk := (Or.inr ⟨d, c, x, rfl, hd, hp, hc, hx, h⟩)
theorem callK_ordered__2 {om : Om} {k : RV → Om → Prop} {xk : Exn → Om → Prop} {d : D} {c : D} {x : Str} {t : Tg (df_ordered, k, xk)} (hd : plainD d = true) (hp : deepP d = true) (hc : plainD c = true) (hx : (isRows d = false ∧ x = "NoRows") ∨ (isRows d = true ∧ colOk (widR d) c = false ∧ x = "NoColumn")) (h : xk ⟨x, none⟩ om) : callK df_ordered [d, c] om k xk t := call_ordered__2 hd hp hc hx h
def w_ordered : WS :=
  (wSeq (wDrop (wCall df_look [] (wCons (wVar 0) (wCons (wVar 1) wNil)))) (wRet (wOrd 1 (wBor 0))))
theorem d_ordered {P : Program} {w : World} {K : PySem.W.Frag} {mg : Str → Option Value} {base : Heap} {f : Addr} (T : Txt K mg) (D_look : Def P w K mg base "look" c_look 4) (LT : LamT K base mg ("ordered", none) "ordered.<locals>.<lambda>") (cdv : Value) (A : Around) (outer : List PySem.Env) (s : Shared) (H : Hp) (E : XK) (hcd : cdv = .ref (He.cT K ("ordered", none)).1) (hr : GRoom 4 (A.deeper (PyProof.Rows.envOfC "ordered" (defScope s_ordered) s.heap.objs.size f cdv))) :
    ∃ t, DSs (cxOf (L2.CX P w) P w K mg base ["rows", "column"] "ordered" (defScope s_ordered) f cdv A outer s H E) (fun cls d _ H => E cls d H) (defBody s_ordered) t w_ordered :=
  ⟨_, (dss_cons (ds_drop (de_call (c := c_look) D_look (hr.mono (by decide)) (takes_of rfl rfl rfl rfl) (da_cons (de_var 0) (da_cons (de_var 1) da_nil)))) (dss_one (ds_ret (de_ord (j := 1) LT hcd hr T.n_sorted (de_bor 0)))))⟩
local macro_rules | `(tactic| fail "ca") => `(tactic| (with_reducible refine ca_guard ?_; first | with_reducible refine callK_is_number ?_ ?_ | with_reducible refine callK_less ?_ ?_ ?_ ?_ | with_reducible refine callK_law_deck ?_ ?_ | with_reducible refine callK_law_next (by fail "ra") ?_ ?_ ?_ ?_ | with_reducible refine callK_law_whole ?_ ?_ | with_reducible refine callK_law_first ?_ ?_ ?_ ?_ ?_ | with_reducible refine callK_law_same ?_ ?_ ?_ | with_reducible refine callK_is_row ?_ ?_ ?_ | with_reducible refine callK_law_number (by fail "ra") ?_ ?_ | with_reducible refine callK_law_in_order (by fail "ra") ?_ ?_ ?_ ?_ ?_ ?_ | with_reducible refine callK_law_alike ?_ ?_ ?_ | with_reducible refine callK_law_other (by fail "ra") ?_ (by fail "ra") ?_ ?_ ?_ ?_ | with_reducible refine callK_law_neighbours (by fail "ra") ?_ ?_ ?_ ?_ ?_ ?_ | with_reducible refine callK_law_no_rows (by fail "ra") ?_ ?_ ?_ ?_ ?_ ?_ | with_reducible refine callK_law_no_column (by fail "ra") ?_ ?_ ?_ ?_ ?_ | with_reducible refine callK_is_rows ?_ ?_ ?_ | with_reducible refine callK_law_rows (by fail "ra") ?_ ?_ ?_ ?_ | with_reducible refine callK_look ?_ ?_ ?_ ?_ | with_reducible refine callK_same_rows (by fail "ra") ?_ ?_ ?_ ?_ ?_ ?_ | with_reducible refine callK_ordered (by fail "ra") ?_ ?_ ?_ ?_ ?_ ?_))

section
local macro_rules | `(tactic| fail "d1") => `(tactic| simp -dsimp only [↓u_16, ↓u_22, ↓u_53, ↓u_55, ↓u_59, ↓u_60, ↓u_66, ↓u_79, ↓u_80, u_120, u_127, u_132, u_133, u_136, u_195, ↓u_198, u_229, u_235, u_236, u_240, u_241, u_243, u_247, u_250, u_251, u_372, u_377, ↓u_567, ↓u_568, ↓u_570, ↓u_574, ↓u_576, List.map_nil, List.map_cons, Nat.reduceSub, Nat.reduceAdd, Nat.reduceLT, Nat.reduceLeDiff, reduceIte, String.reduceBEq, String.reduceEq, Int.reduceLT, Int.reduceLE, Int.reduceEq, Int.reduceToNat])
local macro_rules | `(tactic| fail "dl") => `(tactic| try fail "d1")
theorem wp_ordered__1 (ds : List D) (om : Om) (k : RV → Om → Prop) (xk : Exn → Om → Prop) (h : df_ordered__1 ds om k xk) : w_ordered (endOf k xk) (startE 2 ds) om := by
  obtain ⟨rs, c, w, rfl, hr, w0, w1, c0, c1, c2, h⟩ := h
  unfold w_ordered endOf
  have e1 := isRows_rows hr w0 w1
  have e2 := col_ok hr c0 c1 c2
  have e3 := deep_rows rs
  rw [← ordR_sort] at h
  (repeat' (first | (with_reducible assumption) | (with_reducible intro _) | (with_reducible apply And.intro) | fail "ca" | simp -dsimp only [↓u_16, ↓u_22, ↓u_53, ↓u_55, ↓u_59, ↓u_60, ↓u_66, ↓u_79, ↓u_80, u_120, u_127, u_132, u_133, u_136, u_195, ↓u_198, u_229, u_235, u_236, u_240, u_241, u_243, u_247, u_250, u_251, u_372, u_377, ↓u_567, ↓u_568, ↓u_570, ↓u_574, ↓u_576, List.map_nil, List.map_cons, Nat.reduceSub, Nat.reduceAdd, Nat.reduceLT, Nat.reduceLeDiff, reduceIte, String.reduceBEq, String.reduceEq, Int.reduceLT, Int.reduceLE, Int.reduceEq, Int.reduceToNat, e1, e2] | fail "ix" | (with_reducible refine rdDh_of (by with_reducible assumption) ?_) | (with_reducible refine rdRh_of (by with_reducible assumption) ?_) | (with_reducible refine rwK_row (by with_reducible assumption) ?_) | (with_reducible refine cnd_T (by with_reducible assumption) ?_) | (with_reducible refine cnd_F (by with_reducible assumption) ?_) | (with_reducible refine cnd_yes (by omega) ?_) | (with_reducible refine cnd_no (by omega) ?_) | (with_reducible refine cnd_dec ?_ ?_) | (with_reducible refine cnd_of ?_ ?_) | fail "si" | fail))
  have hq : ∀ q ∈ rs, c.toNat < q.length ∧ q.length < 1000000 := fun q m => by
    have := hr q m
    rcases c1 with c1 | c1
    · omega
    · rw [c1] at m; cases m
  exact ⟨rs, c.toNat, rfl, by rw [Int.toNat_of_nonneg c0], hq, h⟩
end
section
local macro_rules | `(tactic| fail "d1") => `(tactic| simp -dsimp only [↓u_22, ↓u_55, ↓u_59, ↓u_66, ↓u_79, ↓u_80, u_132, u_133, u_136, ↓u_198, u_229, u_235, u_236, u_240, u_241, u_243, u_247, u_250, ↓u_567, ↓u_568, ↓u_576, List.map_nil, List.map_cons, Nat.reduceSub, Nat.reduceAdd, Nat.reduceLT, Nat.reduceLeDiff, reduceIte, String.reduceBEq, String.reduceEq, Int.reduceLT, Int.reduceLE, Int.reduceEq, Int.reduceToNat])
local macro_rules | `(tactic| fail "dl") => `(tactic| try fail "d1")
theorem wp_ordered__2 (ds : List D) (om : Om) (k : RV → Om → Prop) (xk : Exn → Om → Prop) (h : df_ordered__2 ds om k xk) : w_ordered (endOf k xk) (startE 2 ds) om := by
  obtain ⟨d, c, x, rfl, hd, hp, hc, hx, h⟩ := h
  unfold w_ordered endOf
  fail "dl"
  refine callK_look hd hp hc ?_
  rcases hx with ⟨h1, rfl⟩ | ⟨h1, h2, rfl⟩
  · rw [h1, cnd_f]; exact h
  · rw [h1, h2, cnd_t, cnd_f]; exact h
end
theorem wp_ordered (ds : List D) (om : Om) (k : RV → Om → Prop) (xk : Exn → Om → Prop) (h : df_ordered ds om k xk) : w_ordered (endOf k xk) (startE 2 ds) om := by
  rcases h with h | h
  · exact wp_ordered__1 ds om k xk h
  · exact wp_ordered__2 ds om k xk h
theorem ok_ordered {P : Program} {w : World} {K : PySem.W.Frag} {mg : Str → Option Value} {base : Heap} {f : Addr} {fd : FuncData} (F : FunD K "ordered" "ordered" (defArgs s_ordered) (defBody s_ordered) (defScope s_ordered) [] [] f fd) (T : Txt K mg) (D_look : Def P w K mg base "look" c_look 4) (LT : LamT K base mg ("ordered", none) "ordered.<locals>.<lambda>") (hf : f = He.fAd K ("ordered", none)) : GFn P w K mg base (L2.CX P w) 5 f fd ["rows", "column"] (toSp K c_ordered) :=
  (fn_okC (c := c_ordered) F hf sc_ordered rfl (fun cdv A outer s H E hcd hr => d_ordered T D_look LT cdv A outer s H E hcd hr) wp_ordered)


def df_is_ordered__1 : DF := fun ds om k xk => ∃ (rs : List (List Int)), ∃ (c : Int), ∃ (w : Nat), ds = [.lst (rowsD rs), .int c] ∧ (Wd w rs) ∧ (1 ≤ w) ∧ (w ≤ 24) ∧ (0 ≤ c) ∧ (c < w) ∧ (rs.length ≤ 4000) ∧ (k (.v (.bl (srtB c.toNat rs))) om)
theorem dl_is_ordered__1 {ds : List D} {om : Om} {k : RV → Om → Prop} {xk : Exn → Om → Prop} (h : df_is_ordered__1 ds om k xk) : ds.length = 2 := by obtain ⟨rs, c, w, rfl, _, _, _, _, _, _, _⟩ := h; rfl
theorem dm_is_ordered__1 {ds : List D} {om : Om} {k k' : RV → Om → Prop} {xk xk' : Exn → Om → Prop} (hk : ∀ x o, k x o → k' x o) (hx : ∀ x o, xk x o → xk' x o) (h : df_is_ordered__1 ds om k xk) : df_is_ordered__1 ds om k' xk' := by obtain ⟨rs, c, w, e_, hr, w0, w1, c0, c1, hl, h⟩ := h; refine ⟨rs, c, w, e_, hr, w0, w1, c0, c1, hl, ?_⟩; first | exact hk _ _ h | exact hx _ _ h | exact fun hq => hk _ _ (h hq) | (intros; apply hk; apply h <;> assumption) | (simp only [cnd] at h ⊢; grind) | grind
def df_is_ordered__2 : DF := fun ds om k xk => ∃ (d : D), ∃ (c : D), ∃ (x : Str), ds = [d, c] ∧ (plainD d = true) ∧ (deepP d = true) ∧ (plainD c = true) ∧ ((isRows d = false ∧ x = "NoRows") ∨ (isRows d = true ∧ colOk (widR d) c = false ∧ x = "NoColumn")) ∧ (xk ⟨x, none⟩ om)
theorem dl_is_ordered__2 {ds : List D} {om : Om} {k : RV → Om → Prop} {xk : Exn → Om → Prop} (h : df_is_ordered__2 ds om k xk) : ds.length = 2 := by obtain ⟨d, c, x, rfl, _, _, _, _, _⟩ := h; rfl
theorem dm_is_ordered__2 {ds : List D} {om : Om} {k k' : RV → Om → Prop} {xk xk' : Exn → Om → Prop} (hk : ∀ x o, k x o → k' x o) (hx : ∀ x o, xk x o → xk' x o) (h : df_is_ordered__2 ds om k xk) : df_is_ordered__2 ds om k' xk' := by obtain ⟨d, c, x, e_, hd, hp, hc, hx, h⟩ := h; refine ⟨d, c, x, e_, hd, hp, hc, hx, ?_⟩; first | exact hk _ _ h | exact hx _ _ h | exact fun hq => hk _ _ (h hq) | (intros; apply hk; apply h <;> assumption) | (simp only [cnd] at h ⊢; grind) | grind
def df_is_ordered : DF := fun ds om k xk => df_is_ordered__1 ds om k xk ∨ df_is_ordered__2 ds om k xk
def c_is_ordered : Con := ⟨2, df_is_ordered, by intro ds om k xk h; rcases h with h | h <;> first | exact dl_is_ordered__1 h | exact dl_is_ordered__2 h, by intro ds om k k' xk xk' hk hx h; rcases h with h | h; exact (Or.inl (dm_is_ordered__1 (fun x o => hk x o) (fun x o => hx x o) h)); exact (Or.inr (dm_is_ordered__2 (fun x o => hk x o) (fun x o => hx x o) h))⟩
theorem call_is_ordered {om : Om} {k : RV → Om → Prop} {xk : Exn → Om → Prop} {rs : List (List Int)} {c : Int} {w : Nat} (hr : Wd w rs) (w0 : 1 ≤ w) (w1 : w ≤ 24) (c0 : 0 ≤ c) (c1 : c < w) (hl : rs.length ≤ 4000) (h : k (.v (.bl (srtB c.toNat rs))) om) : df_is_ordered [.lst (rowsD rs), .int c] om k xk := (Or.inl ⟨rs, c, w, rfl, hr, w0, w1, c0, c1, hl, h⟩)
theorem callK_is_ordered {om : Om} {k : RV → Om → Prop} {xk : Exn → Om → Prop} {rs : List (List Int)} {c : Int} {w : Nat} {t : Tg (df_is_ordered, k, xk)} (hr : Wd w rs) (w0 : 1 ≤ w) (w1 : w ≤ 24) (c0 : 0 ≤ c) (c1 : c < w) (hl : rs.length ≤ 4000) (h : k (.v (.bl (srtB c.toNat rs))) om) : callK df_is_ordered [.lst (rowsD rs), .int c] om k xk t := call_is_ordered hr w0 w1 c0 c1 hl h
theorem call_is_ordered__2 {om : Om} {k : RV → Om → Prop} {xk : Exn → Om → Prop} {d : D} {c : D} {x : Str} (hd : plainD d = true) (hp : deepP d = true) (hc : plainD c = true) (hx : (isRows d = false ∧ x = "NoRows") ∨ (isRows d = true ∧ colOk (widR d) c = false ∧ x = "NoColumn")) (h : xk ⟨x, none⟩ om) : df_is_ordered [d, c] om k xk := (Or.inr ⟨d, c, x, rfl, hd, hp, hc, hx, h⟩)
theorem callK_is_ordered__2 {om : Om} {k : RV → Om → Prop} {xk : Exn → Om → Prop} {d : D} {c : D} {x : Str} {t : Tg (df_is_ordered, k, xk)} (hd : plainD d = true) (hp : deepP d = true) (hc : plainD c = true) (hx : (isRows d = false ∧ x = "NoRows") ∨ (isRows d = true ∧ colOk (widR d) c = false ∧ x = "NoColumn")) (h : xk ⟨x, none⟩ om) : callK df_is_ordered [d, c] om k xk t := call_is_ordered__2 hd hp hc hx h
def w_is_ordered : WS :=
  (wSeq (wDrop (wCall df_look [] (wCons (wVar 0) (wCons (wVar 1) wNil)))) (wSeq (wFor (wiZipA (wCons (wVar 0) (wCons (wSl (wBor 0) (wOS (wC (.int 1))) wON) wNil))) (gT 2 (gsCons 2 (gsCons 3 gsNil))) (wIfS (wTru (wCall df_less [] (wCons (wVar 3) (wCons (wVar 2) (wCons (wVar 1) wNil))))) (wRet (wC (.bl false))) wNext)) (wRet (wC (.bl true)))))
theorem d_is_ordered {P : Program} {w : World} {K : PySem.W.Frag} {mg : Str → Option Value} {base : Heap} {f : Addr} (T : Txt K mg) (D_less : Def P w K mg base "less" c_less 1) (D_look : Def P w K mg base "look" c_look 4) (cdv : Value) (A : Around) (outer : List PySem.Env) (s : Shared) (H : Hp) (E : XK) (hr : GRoom 4 (A.deeper (PyProof.Rows.envOfC "is_ordered" (defScope s_is_ordered) s.heap.objs.size f cdv))) :
    ∃ t, DSs (cxOf (L2.CX P w) P w K mg base ["rows", "column", "one", "other"] "is_ordered" (defScope s_is_ordered) f cdv A outer s H E) (fun cls d _ H => E cls d H) (defBody s_is_ordered) t w_is_ordered :=
  ⟨_, (dss_cons (ds_drop (de_call (c := c_look) D_look (hr.mono (by decide)) (takes_of rfl rfl rfl rfl) (da_cons (de_var 0) (da_cons (de_var 1) da_nil)))) (dss_cons (ds_for (passes_of rfl) rfl (di_zipA T.n_zip (da_cons (de_var 0) (da_cons (de_sl (de_bor 0) (do_some de_int) do_none) da_nil)) (K' := K)) (dg_tup rfl (dgs_cons 2 sc_is_ordered.nd (dgs_cons 3 sc_is_ordered.nd dgs_nil))) (dss_one (ds_if (dt_tru (de_call (c := c_less) D_less (hr.mono (by decide)) (takes_of rfl rfl rfl rfl) (da_cons (de_var 3) (da_cons (de_var 2) (da_cons (de_var 1) da_nil))))) (dss_one (ds_ret de_bl)) dss_nil))) (dss_one (ds_ret de_bl))))⟩
local macro_rules | `(tactic| fail "ca") => `(tactic| (with_reducible refine ca_guard ?_; first | with_reducible refine callK_is_number ?_ ?_ | with_reducible refine callK_less ?_ ?_ ?_ ?_ | with_reducible refine callK_law_deck ?_ ?_ | with_reducible refine callK_law_next (by fail "ra") ?_ ?_ ?_ ?_ | with_reducible refine callK_law_whole ?_ ?_ | with_reducible refine callK_law_first ?_ ?_ ?_ ?_ ?_ | with_reducible refine callK_law_same ?_ ?_ ?_ | with_reducible refine callK_is_row ?_ ?_ ?_ | with_reducible refine callK_law_number (by fail "ra") ?_ ?_ | with_reducible refine callK_law_in_order (by fail "ra") ?_ ?_ ?_ ?_ ?_ ?_ | with_reducible refine callK_law_alike ?_ ?_ ?_ | with_reducible refine callK_law_other (by fail "ra") ?_ (by fail "ra") ?_ ?_ ?_ ?_ | with_reducible refine callK_law_neighbours (by fail "ra") ?_ ?_ ?_ ?_ ?_ ?_ | with_reducible refine callK_law_no_rows (by fail "ra") ?_ ?_ ?_ ?_ ?_ ?_ | with_reducible refine callK_law_no_column (by fail "ra") ?_ ?_ ?_ ?_ ?_ | with_reducible refine callK_is_rows ?_ ?_ ?_ | with_reducible refine callK_law_rows (by fail "ra") ?_ ?_ ?_ ?_ | with_reducible refine callK_look ?_ ?_ ?_ ?_ | with_reducible refine callK_same_rows (by fail "ra") ?_ ?_ ?_ ?_ ?_ ?_ | with_reducible refine callK_ordered (by fail "ra") ?_ ?_ ?_ ?_ ?_ ?_ | with_reducible refine callK_is_ordered (by fail "ra") ?_ ?_ ?_ ?_ ?_ ?_))

section
local macro_rules | `(tactic| fail "d1") => `(tactic| simp -dsimp only [↓u_22, ↓u_50, ↓u_53, ↓u_55, ↓u_56, ↓u_59, ↓u_60, ↓u_62, ↓u_66, ↓u_79, ↓u_80, ↓u_82, ↓u_91, ↓u_112, ↓u_113, ↓u_114, u_116, u_117, u_120, u_127, u_132, u_133, u_136, u_137, u_140, u_145, u_194, ↓u_198, u_229, u_233, u_234, u_235, u_236, u_240, u_241, u_243, u_244, u_245, u_246, u_247, u_248, u_250, u_251, ↓u_272, ↓u_273, ↓u_274, ↓u_275, ↓u_322, u_324, u_371, u_372, u_377, ↓u_567, ↓u_568, ↓u_570, ↓u_571, ↓u_574, ↓u_576, List.map_nil, List.map_cons, Nat.reduceSub, Nat.reduceAdd, Nat.reduceLT, Nat.reduceLeDiff, reduceIte, String.reduceBEq, String.reduceEq, Int.reduceLT, Int.reduceLE, Int.reduceEq, Int.reduceToNat])
local macro_rules | `(tactic| fail "dl") => `(tactic| try fail "d1")
theorem wp_is_ordered__1 (ds : List D) (om : Om) (k : RV → Om → Prop) (xk : Exn → Om → Prop) (h : df_is_ordered__1 ds om k xk) : w_is_ordered (endOf k xk) (startE 4 ds) om := by
  obtain ⟨rs, c, w, rfl, hr, w0, w1, c0, c1, hl, h⟩ := h
  unfold w_is_ordered endOf
  have iR := isRows_rows hr w0 w1
  have dR := deep_rows rs
  have cR := col_ok hr c0 (.inl c1) (by omega)
  have lR := len_rows rs
  have hcut : cutD (rowsD rs) (some 1) none = rowsD (rs.drop 1) := by
    cases rs with
    | nil => rfl
    | cons r l =>
      unfold cutD rowsD
      rw [HT.sIx_none, show (1 : Int) = ((1 : Nat) : Int) from rfl, HT.sIx_nat, Nat.min_eq_left (by simp)]
      simp only [List.map_cons, List.drop_succ_cons, List.drop_zero, List.length_cons, Nat.add_sub_cancel]
      exact List.take_of_length_le (by simp)
  fail "gs"
  rw [hcut]
  refine loop_list (fun i r om' => om' = om ∧ srtB c.toNat rs = srtB c.toNat (rs.drop i) ∧ ∃ x y, r = [some (.v (.lst (rowsD rs))), some (.v (.int c)), x, y]) ⟨rfl, rfl, _, _, rfl⟩ ?_ ?_
  · rintro i d r om' nx e ⟨rfl, hsb, x, y, rfl⟩ hnx
    obtain ⟨u, v, rfl, hu, hv⟩ := zipD_get e
    rw [rowsD, List.getElem?_map] at hu hv
    obtain ⟨a, ea, rfl⟩ := Option.map_eq_some_iff.mp hu
    obtain ⟨b, eb, rfl⟩ := Option.map_eq_some_iff.mp hv
    rw [List.getElem?_drop, Nat.add_comm] at eb
    have la := hr a (List.mem_of_getElem? ea)
    have lb := hr b (List.mem_of_getElem? eb)
    have hd : rs.drop i = a :: b :: rs.drop (i + 2) := by
      obtain ⟨h1, h2⟩ := List.getElem?_eq_some_iff.mp ea
      obtain ⟨h3, h4⟩ := List.getElem?_eq_some_iff.mp eb
      rw [List.drop_eq_getElem_cons h1, h2, List.drop_eq_getElem_cons h3, h4]
    have hd1 : rs.drop (i + 1) = b :: rs.drop (i + 2) := by
      obtain ⟨h3, h4⟩ := List.getElem?_eq_some_iff.mp eb
      rw [List.drop_eq_getElem_cons h3, h4]
    rw [hd, srtB, ← hd1] at hsb
    unfold stepOf
    cases hle : lessR c.toNat b a
    · rw [hle] at hsb
      (repeat' (first | (with_reducible assumption) | (with_reducible intro _) | (with_reducible apply And.intro) | fail "ca" | simp -dsimp only [↓u_22, ↓u_50, ↓u_53, ↓u_55, ↓u_56, ↓u_59, ↓u_60, ↓u_62, ↓u_66, ↓u_79, ↓u_80, ↓u_82, ↓u_91, ↓u_112, ↓u_113, ↓u_114, u_116, u_117, u_120, u_127, u_132, u_133, u_136, u_137, u_140, u_145, u_194, ↓u_198, u_229, u_233, u_234, u_235, u_236, u_240, u_241, u_243, u_244, u_245, u_246, u_247, u_248, u_250, u_251, ↓u_272, ↓u_273, ↓u_274, ↓u_275, ↓u_322, u_324, u_371, u_372, u_377, ↓u_567, ↓u_568, ↓u_570, ↓u_571, ↓u_574, ↓u_576, List.map_nil, List.map_cons, Nat.reduceSub, Nat.reduceAdd, Nat.reduceLT, Nat.reduceLeDiff, reduceIte, String.reduceBEq, String.reduceEq, Int.reduceLT, Int.reduceLE, Int.reduceEq, Int.reduceToNat, hle] | fail "ix" | (with_reducible refine rdDh_of (by with_reducible assumption) ?_) | (with_reducible refine rdRh_of (by with_reducible assumption) ?_) | (with_reducible refine rwK_row (by with_reducible assumption) ?_) | (with_reducible refine cnd_T (by with_reducible assumption) ?_) | (with_reducible refine cnd_F (by with_reducible assumption) ?_) | (with_reducible refine cnd_yes (by omega) ?_) | (with_reducible refine cnd_no (by omega) ?_) | (with_reducible refine cnd_dec ?_ ?_) | (with_reducible refine cnd_of ?_ ?_) | fail "si" | fail))
      exact hnx _ _ ⟨rfl, by simpa using hsb, _, _, rfl⟩
    · rw [hle] at hsb
      rw [hsb] at h
      (repeat' (first | (with_reducible assumption) | (with_reducible intro _) | (with_reducible apply And.intro) | fail "ca" | simp -dsimp only [↓u_22, ↓u_50, ↓u_53, ↓u_55, ↓u_56, ↓u_59, ↓u_60, ↓u_62, ↓u_66, ↓u_79, ↓u_80, ↓u_82, ↓u_91, ↓u_112, ↓u_113, ↓u_114, u_116, u_117, u_120, u_127, u_132, u_133, u_136, u_137, u_140, u_145, u_194, ↓u_198, u_229, u_233, u_234, u_235, u_236, u_240, u_241, u_243, u_244, u_245, u_246, u_247, u_248, u_250, u_251, ↓u_272, ↓u_273, ↓u_274, ↓u_275, ↓u_322, u_324, u_371, u_372, u_377, ↓u_567, ↓u_568, ↓u_570, ↓u_571, ↓u_574, ↓u_576, List.map_nil, List.map_cons, Nat.reduceSub, Nat.reduceAdd, Nat.reduceLT, Nat.reduceLeDiff, reduceIte, String.reduceBEq, String.reduceEq, Int.reduceLT, Int.reduceLE, Int.reduceEq, Int.reduceToNat, hle] | fail "ix" | (with_reducible refine rdDh_of (by with_reducible assumption) ?_) | (with_reducible refine rdRh_of (by with_reducible assumption) ?_) | (with_reducible refine rwK_row (by with_reducible assumption) ?_) | (with_reducible refine cnd_T (by with_reducible assumption) ?_) | (with_reducible refine cnd_F (by with_reducible assumption) ?_) | (with_reducible refine cnd_yes (by omega) ?_) | (with_reducible refine cnd_no (by omega) ?_) | (with_reducible refine cnd_dec ?_ ?_) | (with_reducible refine cnd_of ?_ ?_) | fail "si" | fail))
      all_goals first | exact h | skip
  · rintro r om' ⟨rfl, hsb, x, y, rfl⟩
    have hz : (zipD (rowsD rs) (rowsD (rs.drop 1))).length = rs.length - 1 := by
      rw [zipD_len, len_rows, len_rows, List.length_drop]; omega
    have hs1 : ∀ l : List (List Int), l.length ≤ 1 → srtB c.toNat l = true := fun l hl => by
      cases l with
      | nil => rfl
      | cons a l =>
        cases l with
        | nil => rfl
        | cons b l => simp at hl
    rw [hz, hs1 (rs.drop (rs.length - 1)) (by rw [List.length_drop]; omega)] at hsb
    rw [hsb] at h
    fail "gs"
end
section
local macro_rules | `(tactic| fail "d1") => `(tactic| simp -dsimp only [↓u_22, ↓u_55, ↓u_59, ↓u_66, ↓u_79, ↓u_80, u_132, u_133, u_136, ↓u_198, u_229, u_235, u_236, u_240, u_241, u_243, u_244, u_245, u_246, u_247, u_250, ↓u_567, ↓u_568, ↓u_576, List.map_nil, List.map_cons, Nat.reduceSub, Nat.reduceAdd, Nat.reduceLT, Nat.reduceLeDiff, reduceIte, String.reduceBEq, String.reduceEq, Int.reduceLT, Int.reduceLE, Int.reduceEq, Int.reduceToNat])
local macro_rules | `(tactic| fail "dl") => `(tactic| try fail "d1")
theorem wp_is_ordered__2 (ds : List D) (om : Om) (k : RV → Om → Prop) (xk : Exn → Om → Prop) (h : df_is_ordered__2 ds om k xk) : w_is_ordered (endOf k xk) (startE 4 ds) om := by
  obtain ⟨d, c, x, rfl, hd, hp, hc, hx, h⟩ := h
  unfold w_is_ordered endOf
  fail "dl"
  refine callK_look hd hp hc ?_
  rcases hx with ⟨h1, rfl⟩ | ⟨h1, h2, rfl⟩
  · rw [h1, cnd_f]; exact h
  · rw [h1, h2, cnd_t, cnd_f]; exact h
end
theorem wp_is_ordered (ds : List D) (om : Om) (k : RV → Om → Prop) (xk : Exn → Om → Prop) (h : df_is_ordered ds om k xk) : w_is_ordered (endOf k xk) (startE 4 ds) om := by
  rcases h with h | h
  · exact wp_is_ordered__1 ds om k xk h
  · exact wp_is_ordered__2 ds om k xk h
theorem ok_is_ordered {P : Program} {w : World} {K : PySem.W.Frag} {mg : Str → Option Value} {base : Heap} {f : Addr} {fd : FuncData} (F : FunD K "is_ordered" "is_ordered" (defArgs s_is_ordered) (defBody s_is_ordered) (defScope s_is_ordered) [] [] f fd) (T : Txt K mg) (D_less : Def P w K mg base "less" c_less 1) (D_look : Def P w K mg base "look" c_look 4) : GFn P w K mg base (L2.CX P w) 5 f fd ["rows", "column"] (toSp K c_is_ordered) :=
  (fn_ok (c := c_is_ordered) F sc_is_ordered rfl (fun cdv A outer s H E hr => d_is_ordered T D_less D_look cdv A outer s H E hr) wp_is_ordered)
def df_law_right : DF := fun ds om k xk => ∃ (rs : List (List Int)), ∃ (os : List (List Int)), ∃ (c : Int), ∃ (w : Nat), ds = [.lst (rowsD rs), .int c, .lst (rowsD os)] ∧ (Wd w rs) ∧ (Wd w os) ∧ (1 ≤ w) ∧ (w ≤ 24) ∧ (0 ≤ c) ∧ (c < w) ∧ (rs.length ≤ 60) ∧ (os.length ≤ 70) ∧ (k (.v (.bl true)) om)
theorem call_law_right {om : Om} {k : RV → Om → Prop} {xk : Exn → Om → Prop} {rs : List (List Int)} {os : List (List Int)} {c : Int} {w : Nat} (hr : Wd w rs) (ho : Wd w os) (w0 : 1 ≤ w) (w1 : w ≤ 24) (c0 : 0 ≤ c) (c1 : c < w) (hl : rs.length ≤ 60) (hm : os.length ≤ 70) (h : k (.v (.bl true)) om) : df_law_right [.lst (rowsD rs), .int c, .lst (rowsD os)] om k xk := ⟨rs, os, c, w, rfl, hr, ho, w0, w1, c0, c1, hl, hm, h⟩
def c_law_right : Con := ⟨3, df_law_right, by intro ds om k xk h; obtain ⟨rs, os, c, w, rfl, _, _, _, _, _, _, _, _, _⟩ := h; rfl, by intro ds om k k' xk xk' hk hx h; obtain ⟨rs, os, c, w, e_, hr, ho, w0, w1, c0, c1, hl, hm, h⟩ := h; refine ⟨rs, os, c, w, e_, hr, ho, w0, w1, c0, c1, hl, hm, ?_⟩; first | exact hk _ _ h | exact hx _ _ h | exact fun hq => hk _ _ (h hq) | (intros; apply hk; apply h <;> assumption) | (simp only [cnd] at h ⊢; grind) | grind⟩
theorem callK_law_right {om : Om} {k : RV → Om → Prop} {xk : Exn → Om → Prop} {rs : List (List Int)} {os : List (List Int)} {c : Int} {w : Nat} {t : Tg (df_law_right, k, xk)} (hr : Wd w rs) (ho : Wd w os) (w0 : 1 ≤ w) (w1 : w ≤ 24) (c0 : 0 ≤ c) (c1 : c < w) (hl : rs.length ≤ 60) (hm : os.length ≤ 70) (h : k (.v (.bl true)) om) : callK df_law_right [.lst (rowsD rs), .int c, .lst (rowsD os)] om k xk t := call_law_right hr ho w0 w1 c0 c1 hl hm h
def w_law_right : WS :=
  (wSeq (wAsg (wFz (wCB pList (wCons (wBor 0) wNil))) (gN 3)) (wSeq (wAsg (wFz (wCall df_law_in_order [] (wCons (wVar 0) (wCons (wVar 1) wNil)))) (gN 4)) (wSeq (wAsg (wCall df_ordered [] (wCons (wVar 3) (wCons (wVar 1) wNil))) (gN 5)) (wSeq (wIfS (wOr (wNot (wTru (wCallL df_law_alike [] (wCons (wBor 5) (wCons (wBor 4) wNil))))) (wTst (wOp pNe (wBor 3) (wBor 0)))) (wRet (wC (.bl false))) wNext) (wSeq (wDrop (wMut 5 mApp (wCons (wTup wNil) wNil))) (wSeq (wDrop (wMut0 5 mRvs)) (wSeq (wIfS (wOr (wNot (wTru (wCallL df_law_alike [] (wCons (wCall df_ordered [] (wCons (wVar 3) (wCons (wVar 1) wNil))) (wCons (wBor 4) wNil))))) (wTst (wOp pNe (wBor 3) (wBor 0)))) (wRet (wC (.bl false))) wNext) (wSeq (wAsg (wFz (wLst (wCons (wCall df_is_ordered [] (wCons (wVar 3) (wCons (wVar 1) wNil))) (wCons (wCall df_is_ordered [] (wCons (wVar 4) (wCons (wVar 1) wNil))) (wCons (wCall df_is_ordered [] (wCons (wVar 2) (wCons (wVar 1) wNil))) (wCons (wCall df_same_rows [] (wCons (wVar 3) (wCons (wVar 2) wNil))) wNil)))))) (gN 6)) (wSeq (wAsg (wFz (wOp pAdd (wBor 6) (wLst (wCons (wCall df_same_rows [] (wCons (wVar 4) (wCons (wVar 3) wNil))) (wCons (wCall df_same_rows [] (wCons (wVar 2) (wCons (wVar 4) wNil))) wNil))))) (gN 6)) (wSeq (wIfS (wOr (wTst (wOp pNe (wLc (wiA (wVar 6)) (gN 7) (wNot (wTru (wCB pIsi (wCons (wBor 7) (wCons (wC (.raw (.ty "bool"))) wNil))))) (wVar 7) [7]) (wLst wNil))) (wTst (wOp pNe (wBor 3) (wBor 0)))) (wRet (wC (.bl false))) wNext) (wSeq (wAsg (wFz (wCall df_law_same [] (wCons (wVar 0) (wCons (wVar 2) wNil)))) (gN 8)) (wRet (wOp pEq (wBor 6) (wLst (wCons (wOp pEq (wBor 0) (wBor 4)) (wCons (wC (.bl true)) (wCons (wOp pEq (wBor 2) (wCall df_law_in_order [] (wCons (wVar 2) (wCons (wVar 1) wNil)))) (wCons (wVar 8) (wCons (wC (.bl true)) (wCons (wVar 8) wNil))))))))))))))))))))
theorem d_law_right {P : Program} {w : World} {K : PySem.W.Frag} {mg : Str → Option Value} {base : Heap} {f : Addr} (T : Txt K mg) (D_law_in_order : Def P w K mg base "_law_in_order" c_law_in_order 2) (D_law_same : Def P w K mg base "_law_same" c_law_same 1) (D_same_rows : Def P w K mg base "same_rows" c_same_rows 4) (D_is_ordered : Def P w K mg base "is_ordered" c_is_ordered 5) (D_law_alike : Def P w K mg base "_law_alike" c_law_alike 2) (D_ordered : Def P w K mg base "ordered" c_ordered 5) (cdv : Value) (A : Around) (outer : List PySem.Env) (s : Shared) (H : Hp) (E : XK) (hr : GRoom 5 (A.deeper (PyProof.Rows.envOfC "_law_right" (defScope s_law_right) s.heap.objs.size f cdv))) :
    ∃ t, DSs (cxOf (L2.CX P w) P w K mg base ["_law_rows_here", "_law_column", "_law_other_here", "_law_handed", "_law_due", "_law_found", "_law_told", "_law_one", "_law_same_here"] "_law_right" (defScope s_law_right) f cdv A outer s H E) (fun cls d _ H => E cls d H) (defBody s_law_right) t w_law_right :=
  ⟨_, (dss_cons (ds_set 3 sc_law_right.nd (de_fz (de_ct n_list T.n_list (by decide +kernel) (da_cons (de_bor 0) da_nil)))) (dss_cons (ds_set 4 sc_law_right.nd (de_fz (de_call (c := c_law_in_order) D_law_in_order (hr.mono (by decide)) (takes_of rfl rfl rfl rfl) (da_cons (de_var 0) (da_cons (de_var 1) da_nil))))) (dss_cons (ds_set 5 sc_law_right.nd (de_call (c := c_ordered) D_ordered (hr.mono (by decide)) (takes_of rfl rfl rfl rfl) (da_cons (de_var 3) (da_cons (de_var 1) da_nil)))) (dss_cons (ds_if (DW.dt (dw_or (dt_not (dt_tru (de_callL (c := c_law_alike) D_law_alike (hr.mono (by decide)) (takes_of rfl rfl rfl rfl) (da_cons (de_bor 5) (da_cons (de_bor 4) da_nil)) (K' := K)))) (dw_or1 (dt_cmp (o_ne hr) (de_bor 3) (de_bor 0))))) (dss_one (ds_ret de_bl)) dss_nil) (dss_cons (ds_drop (de_app 5 (de_tup da_nil))) (dss_cons (ds_drop (de_rvs 5 (K' := K))) (dss_cons (ds_if (DW.dt (dw_or (dt_not (dt_tru (de_callL (c := c_law_alike) D_law_alike (hr.mono (by decide)) (takes_of rfl rfl rfl rfl) (da_cons (de_call (c := c_ordered) D_ordered (hr.mono (by decide)) (takes_of rfl rfl rfl rfl) (da_cons (de_var 3) (da_cons (de_var 1) da_nil))) (da_cons (de_bor 4) da_nil)) (K' := K)))) (dw_or1 (dt_cmp (o_ne hr) (de_bor 3) (de_bor 0))))) (dss_one (ds_ret de_bl)) dss_nil) (dss_cons (ds_set 6 sc_law_right.nd (de_fz (de_lst (da_cons (de_call (c := c_is_ordered) D_is_ordered (hr.mono (by decide)) (takes_of rfl rfl rfl rfl) (da_cons (de_var 3) (da_cons (de_var 1) da_nil))) (da_cons (de_call (c := c_is_ordered) D_is_ordered (hr.mono (by decide)) (takes_of rfl rfl rfl rfl) (da_cons (de_var 4) (da_cons (de_var 1) da_nil))) (da_cons (de_call (c := c_is_ordered) D_is_ordered (hr.mono (by decide)) (takes_of rfl rfl rfl rfl) (da_cons (de_var 2) (da_cons (de_var 1) da_nil))) (da_cons (de_call (c := c_same_rows) D_same_rows (hr.mono (by decide)) (takes_of rfl rfl rfl rfl) (da_cons (de_var 3) (da_cons (de_var 2) da_nil))) da_nil))))))) (dss_cons (ds_set 6 sc_law_right.nd (de_fz (de_op o_add (de_bor 6) (de_lst (da_cons (de_call (c := c_same_rows) D_same_rows (hr.mono (by decide)) (takes_of rfl rfl rfl rfl) (da_cons (de_var 4) (da_cons (de_var 3) da_nil))) (da_cons (de_call (c := c_same_rows) D_same_rows (hr.mono (by decide)) (takes_of rfl rfl rfl rfl) (da_cons (de_var 2) (da_cons (de_var 4) da_nil))) da_nil)))))) (dss_cons (ds_if (DW.dt (dw_or (dt_cmp (o_ne hr) (de_lc (own := [("_law_one", 7)]) rfl sc_law_right.nd (di_any (de_var 6) (K' := K)) (by kernel_rfl) (fun _ _ _ _ _ => (dgv_name 7 sc_law_right.nd)) (fun _ _ _ _ _ => (dts_one (dt_not (dt_tru' (K' := K) (de_cb (n_isi' (K' := K)) T.n_isinstance (by decide +kernel) (da_cons (de_bor 7) (da_cons (de_ty T.n_bool (by decide +kernel)) da_nil))))))) (fun _ _ _ _ _ => (de_var 7)) s) (de_lst da_nil)) (dw_or1 (dt_cmp (o_ne hr) (de_bor 3) (de_bor 0))))) (dss_one (ds_ret de_bl)) dss_nil) (dss_cons (ds_set 8 sc_law_right.nd (de_fz (de_call (c := c_law_same) D_law_same (hr.mono (by decide)) (takes_of rfl rfl rfl rfl) (da_cons (de_var 0) (da_cons (de_var 2) da_nil))))) (dss_one (ds_ret (de_cmp (o_eq hr) (de_bor 6) (de_lst (da_cons (de_cmp (o_eq hr) (de_bor 0) (de_bor 4)) (da_cons de_bl (da_cons (de_cmp (o_eq hr) (de_bor 2) (de_call (c := c_law_in_order) D_law_in_order (hr.mono (by decide)) (takes_of rfl rfl rfl rfl) (da_cons (de_var 2) (da_cons (de_var 1) da_nil)))) (da_cons (de_var 8) (da_cons de_bl (da_cons (de_var 8) da_nil)))))))))))))))))))))⟩
local macro_rules | `(tactic| fail "ca") => `(tactic| (with_reducible refine ca_guard ?_; first | with_reducible refine callK_is_number ?_ ?_ | with_reducible refine callK_less ?_ ?_ ?_ ?_ | with_reducible refine callK_law_deck ?_ ?_ | with_reducible refine callK_law_next (by fail "ra") ?_ ?_ ?_ ?_ | with_reducible refine callK_law_whole ?_ ?_ | with_reducible refine callK_law_first ?_ ?_ ?_ ?_ ?_ | with_reducible refine callK_law_same ?_ ?_ ?_ | with_reducible refine callK_is_row ?_ ?_ ?_ | with_reducible refine callK_law_number (by fail "ra") ?_ ?_ | with_reducible refine callK_law_in_order (by fail "ra") ?_ ?_ ?_ ?_ ?_ ?_ | with_reducible refine callK_law_alike ?_ ?_ ?_ | with_reducible refine callK_law_other (by fail "ra") ?_ (by fail "ra") ?_ ?_ ?_ ?_ | with_reducible refine callK_law_neighbours (by fail "ra") ?_ ?_ ?_ ?_ ?_ ?_ | with_reducible refine callK_law_no_rows (by fail "ra") ?_ ?_ ?_ ?_ ?_ ?_ | with_reducible refine callK_law_no_column (by fail "ra") ?_ ?_ ?_ ?_ ?_ | with_reducible refine callK_is_rows ?_ ?_ ?_ | with_reducible refine callK_law_rows (by fail "ra") ?_ ?_ ?_ ?_ | with_reducible refine callK_look ?_ ?_ ?_ ?_ | with_reducible refine callK_same_rows (by fail "ra") ?_ ?_ ?_ ?_ ?_ ?_ | with_reducible refine callK_ordered (by fail "ra") ?_ ?_ ?_ ?_ ?_ ?_ | with_reducible refine callK_is_ordered (by fail "ra") ?_ ?_ ?_ ?_ ?_ ?_ | with_reducible refine callK_law_right (by fail "ra") ?_ ?_ ?_ ?_ ?_ ?_ ?_ ?_))

section
local macro_rules | `(tactic| fail "d1") => `(tactic| simp -dsimp only [↓u_22, ↓u_50, ↓u_51, ↓u_52, ↓u_53, ↓u_55, ↓u_56, ↓u_59, ↓u_60, ↓u_62, ↓u_63, ↓u_65, ↓u_66, ↓u_77, ↓u_78, ↓u_79, ↓u_80, ↓u_81, ↓u_82, ↓u_84, ↓u_85, ↓u_97, ↓u_98, ↓u_99, ↓u_100, u_101, ↓u_102, ↓u_111, u_116, u_120, u_123, u_127, u_128, u_129, u_130, u_132, u_133, u_134, u_135, u_136, u_137, u_138, u_139, u_140, u_151, u_155, ↓u_162, u_164, ↓u_170, u_194, u_195, ↓u_198, ↓u_219, u_229, u_231, u_233, u_234, u_235, u_236, u_240, u_241, u_243, u_244, u_245, u_246, u_247, u_248, u_250, u_251, u_254, u_255, u_257, u_268, u_270, u_271, ↓u_293, ↓u_294, ↓u_321, ↓u_335, u_371, ↓u_419, u_421, u_431, ↓u_444, u_467, u_471, u_476, u_478, ↓u_567, ↓u_568, ↓u_570, ↓u_571, ↓u_573, ↓u_574, ↓u_575, ↓u_576, ↓u_580, ↓u_583, u_592, List.map_nil, List.map_cons, Nat.reduceSub, Nat.reduceAdd, Nat.reduceLT, Nat.reduceLeDiff, reduceIte, String.reduceBEq, String.reduceEq, Int.reduceLT, Int.reduceLE, Int.reduceEq, Int.reduceToNat])
local macro_rules | `(tactic| fail "dl") => `(tactic| try fail "d1")
theorem wp_law_right (ds : List D) (om : Om) (k : RV → Om → Prop) (xk : Exn → Om → Prop) (h : df_law_right ds om k xk) : w_law_right (endOf k xk) (startE 9 ds) om := by
  obtain ⟨rs, os, c, w, rfl, hr, ho, w0, w1, c0, c1, hl, hm, h⟩ := h
  unfold w_law_right endOf
  have lR := len_rows rs
  have hS := hr.sort c.toNat
  have lS := sortR_len' c.toNat rs
  have o1 := okE_rows rs
  have o2 := okE_rows os
  have o3 := okE_rows (sortR c.toNat rs)
  have o4 := okE_rows (sortR c.toNat os)
  have hS60 : ∀ r ∈ sortR c.toNat rs, r.length ≤ 60 := fun r m => by have := hS r m; omega
  have s1 : srtB c.toNat (sortR c.toNat rs) = true := srtB_iff.mpr (sortR_srt _ _)
  have p1 : sortL (sortR c.toNat rs) = sortL rs := sortL_iff.mpr (sortR_perm _ _)
  have b1 : ∀ zs : List (List Int), srtB c.toNat zs = decide (zs = sortR c.toNat zs) := fun zs => by
    rw [Bool.eq_iff_iff, srtB_iff, decide_eq_true_eq]
    exact ⟨fun h => sortR_of (.refl _) h, fun h => h ▸ sortR_srt _ _⟩
  fail "gs"
  have eB : [D.bl (srtB c.toNat rs), D.bl (srtB c.toNat (sortR c.toNat rs)), D.bl (srtB c.toNat os), D.bl (decide (sortL rs = sortL os)), D.bl (decide (sortL (sortR c.toNat rs) = sortL rs)), D.bl (decide (sortL os = sortL (sortR c.toNat rs)))] = [decide (rs = sortR c.toNat rs), true, decide (os = sortR c.toNat os), decide (sortL rs = sortL os), true, decide (sortL rs = sortL os)].map D.bl := by
    rw [s1, p1, b1 rs, b1 os, decide_eq_true rfl, show decide (sortL os = sortL rs) = decide (sortL rs = sortL os) from decide_eq_decide.mpr ⟨Eq.symm, Eq.symm⟩]; rfl
  have eT : eqD (.lst ([decide (rs = sortR c.toNat rs), true, decide (os = sortR c.toNat os), decide (sortL rs = sortL os), true, decide (sortL rs = sortL os)].map D.bl)) (.lst [D.bl (decide (rs = sortR c.toNat rs)), .bl true, .bl (decide (os = sortR c.toNat os)), .bl (decide (sortL rs = sortL os)), .bl true, .bl (decide (sortL rs = sortL os))]) = true := eqD_self rfl
  have oT : okE (.lst ([decide (rs = sortR c.toNat rs), true, decide (os = sortR c.toNat os), decide (sortL rs = sortL os), true, decide (sortL rs = sortL os)].map D.bl)) := okE_of rfl (by simp only [List.map_cons, List.map_nil, dep, deps]; decide)
  rw [eB]
  generalize hT : [decide (rs = sortR c.toNat rs), true, decide (os = sortR c.toNat os), decide (sortL rs = sortL os), true, decide (sortL rs = sortL os)] = T at *
  have lT : T.length = 6 := by rw [← hT]; rfl
  refine lc_list (fun i acc r om' => om' = om ∧ acc = [] ∧ r = [some (.v (.lst (rowsD rs))), some (.v (.int c)), some (.v (.lst (rowsD os))), some (.v (.lst (rowsD rs))), some (.v (.lst (rowsD (sortR c.toNat rs)))), some (.o (rowsD (sortR c.toNat rs) ++ [D.tup []]).reverse), some (.v (.lst (T.map D.bl))), none, none]) ⟨rfl, rfl, rfl⟩ ?_ ?_
  · rintro i d acc r om' nx e ⟨rfl, rfl, rfl⟩ hn
    rw [List.getElem?_map] at e
    obtain ⟨b, _, rfl⟩ := Option.map_eq_some_iff.mp e
    fail "gs"
    exact hn _ _ _ ⟨rfl, rfl, rfl⟩
  · rintro acc r om' ⟨rfl, rfl, rfl⟩
    fail "gs"
    · exact okE_of rfl (by simp only [dep, deps]; decide)
    · rw [eT]; exact h
end
theorem ok_law_right {P : Program} {w : World} {K : PySem.W.Frag} {mg : Str → Option Value} {base : Heap} {f : Addr} {fd : FuncData} (F : FunD K "_law_right" "_law_right" (defArgs s_law_right) (defBody s_law_right) (defScope s_law_right) [] [] f fd) (T : Txt K mg) (D_law_in_order : Def P w K mg base "_law_in_order" c_law_in_order 2) (D_law_same : Def P w K mg base "_law_same" c_law_same 1) (D_same_rows : Def P w K mg base "same_rows" c_same_rows 4) (D_is_ordered : Def P w K mg base "is_ordered" c_is_ordered 5) (D_law_alike : Def P w K mg base "_law_alike" c_law_alike 2) (D_ordered : Def P w K mg base "ordered" c_ordered 5) : GFn P w K mg base (L2.CX P w) 6 f fd ["_law_rows_here", "_law_column", "_law_other_here"] (toSp K c_law_right) :=
  (fn_ok (c := c_law_right) F sc_law_right rfl (fun cdv A outer s H E hr => d_law_right T D_law_in_order D_law_same D_same_rows D_is_ordered D_law_alike D_ordered cdv A outer s H E hr) wp_law_right)
def df_law_refusal : DF := fun ds om k xk => ∃ (y : Int), ∃ (d : D), ∃ (c : D), ∃ (x : Str), ds = [.int y, d, c] ∧ (plainD d = true) ∧ (deepP d = true) ∧ (plainD c = true) ∧ (RefW y d c x) ∧ (k (.v (.str x)) om)
theorem call_law_refusal {om : Om} {k : RV → Om → Prop} {xk : Exn → Om → Prop} {y : Int} {d : D} {c : D} {x : Str} (hd : plainD d = true) (hp : deepP d = true) (hc : plainD c = true) (hx : RefW y d c x) (h : k (.v (.str x)) om) : df_law_refusal [.int y, d, c] om k xk := ⟨y, d, c, x, rfl, hd, hp, hc, hx, h⟩
def c_law_refusal : Con := ⟨3, df_law_refusal, by intro ds om k xk h; obtain ⟨y, d, c, x, rfl, _, _, _, _, _⟩ := h; rfl, by intro ds om k k' xk xk' hk hx h; obtain ⟨y, d, c, x, e_, hd, hp, hc, hx, h⟩ := h; refine ⟨y, d, c, x, e_, hd, hp, hc, hx, ?_⟩; first | exact hk _ _ h | exact hx _ _ h | exact fun hq => hk _ _ (h hq) | (intros; apply hk; apply h <;> assumption) | (simp only [cnd] at h ⊢; grind) | grind⟩
theorem callK_law_refusal {om : Om} {k : RV → Om → Prop} {xk : Exn → Om → Prop} {y : Int} {d : D} {c : D} {x : Str} {t : Tg (df_law_refusal, k, xk)} (hd : plainD d = true) (hp : deepP d = true) (hc : plainD c = true) (hx : RefW y d c x) (h : k (.v (.str x)) om) : callK df_law_refusal [.int y, d, c] om k xk t := call_law_refusal hd hp hc hx h
def w_law_refusal : WS :=
  (wSeq (wAsg (wFz (wLst (wCons (wC (.bl false)) (wCons (wC (.bl false)) (wCons (wC (.bl false)) (wCons (wC (.bl false)) wNil)))))) (gN 3)) (wSeq (wTryAs 4 (XSd.sub "SpillError") (wIfS (wTst (wOp pEq (wBor 0) (wC (.int 0)))) (wDrop (wCall df_ordered [] (wCons (wVar 1) (wCons (wVar 2) wNil)))) (wIfS (wTst (wOp pEq (wBor 0) (wC (.int 1)))) (wDrop (wCall df_is_ordered [] (wCons (wVar 1) (wCons (wVar 2) wNil)))) (wIfS (wTst (wOp pEq (wBor 0) (wC (.int 2)))) (wDrop (wCall df_same_rows [] (wCons (wVar 1) (wCons (wLst (wCons (wTup (wCons (wC (.int 1)) wNil)) wNil)) wNil)))) (wDrop (wCall df_same_rows [] (wCons (wLst wNil) (wCons (wVar 1) wNil))))))) (wSeq (wAsg (wOrV (wCB (pIsXT XSd.tab) (wCons (wVar 4) (wCons (wTup (wCons (wC (.fn "NoCount")) (wCons (wC (.fn "NoQuery")) (wCons (wC (.fn "NoTable")) (wCons (wC (.fn "NotOrdered")) (wCons (wC (.fn "TooMany")) wNil)))))) wNil))) (wNotV (wCB (pIsX XSd.tab) (wCons (wVar 4) (wCons (wC (.raw (.ty "ValueError"))) wNil))))) (gN 5)) (wAsg (wFz (wLst (wCons (wC (.bl true)) (wCons (wCB (pIsX XSd.tab) (wCons (wVar 4) (wCons (wC (.fn "NoRows")) wNil))) (wCons (wCB (pIsX XSd.tab) (wCons (wVar 4) (wCons (wC (.fn "NoColumn")) wNil))) (wCons (wVar 5) wNil)))))) (gN 3)))) (wSeq (wIfS (wOr (wTru (wOp pIx (wBor 3) (wC (.int 3)))) (wAnd (wTru (wOp pIx (wBor 3) (wC (.int 1)))) (wTru (wOp pIx (wBor 3) (wC (.int 2)))))) (wRet (wC (.str "other"))) wNext) (wRet (wOp pIx (wLst (wCons (wOp pIx (wLst (wCons (wC (.str "none")) (wCons (wC (.str "base")) wNil))) (wCB pInt (wCons (wOp pIx (wBor 3) (wC (.int 0))) wNil))) (wCons (wC (.str "rows")) (wCons (wC (.str "column")) wNil)))) (wOp pAdd (wCB pInt (wCons (wOp pIx (wBor 3) (wC (.int 1))) wNil)) (wOp pMul (wC (.int 2)) (wCB pInt (wCons (wOp pIx (wBor 3) (wC (.int 2))) wNil)))))))))
theorem d_law_refusal {P : Program} {w : World} {K : PySem.W.Frag} {mg : Str → Option Value} {base : Heap} {f : Addr} (T : Txt K mg) (D_ordered : Def P w K mg base "ordered" c_ordered 5) (D_is_ordered : Def P w K mg base "is_ordered" c_is_ordered 5) (D_same_rows : Def P w K mg base "same_rows" c_same_rows 4) (cdv : Value) (A : Around) (outer : List PySem.Env) (s : Shared) (H : Hp) (E : XK) (hr : GRoom 5 (A.deeper (PyProof.Rows.envOfC "_law_refusal" (defScope s_law_refusal) s.heap.objs.size f cdv))) :
    ∃ t, DSs (cxOf (L2.CX P w) P w K mg base ["_law_way", "_law_rows_here", "_law_column", "_law_kinds", "error", "_law_some"] "_law_refusal" (defScope s_law_refusal) f cdv A outer s H E) (fun cls d _ H => E cls d H) (defBody s_law_refusal) t w_law_refusal :=
  ⟨_, (dss_cons (ds_set 3 sc_law_refusal.nd (de_fz (de_lst (da_cons de_bl (da_cons de_bl (da_cons de_bl (da_cons de_bl da_nil))))))) (dss_cons (ds_tryAs 4 sc_law_refusal.nd ⟨rfl, by decide, .inl T.g_SpillError⟩ (takes_of rfl rfl rfl rfl) T.sub_SpillError (fun _ _ _ tk1 hp1 => (dss_one (ds_if (dt_cmp (o_eq' (K' := K) hr) (de_bor 0) de_int) (dss_one (ds_drop (de_call' (K' := K) (c := c_ordered) D_ordered (hr.mono (by decide)) tk1 (da_cons (de_var 1) (da_cons (de_var 2) da_nil))))) (dss_one (ds_if (dt_cmp (o_eq' (K' := K) hr) (de_bor 0) de_int) (dss_one (ds_drop (de_call' (K' := K) (c := c_is_ordered) D_is_ordered (hr.mono (by decide)) tk1 (da_cons (de_var 1) (da_cons (de_var 2) da_nil))))) (dss_one (ds_if (dt_cmp (o_eq' (K' := K) hr) (de_bor 0) de_int) (dss_one (ds_drop (de_call' (K' := K) (c := c_same_rows) D_same_rows (hr.mono (by decide)) tk1 (da_cons (de_var 1) (da_cons (de_lst (da_cons (de_tup (da_cons de_int da_nil)) da_nil)) da_nil))))) (dss_one (ds_drop (de_call' (K' := K) (c := c_same_rows) D_same_rows (hr.mono (by decide)) tk1 (da_cons (de_lst da_nil) (da_cons (de_var 1) da_nil)))))))))))) (fun _ _ => (dss_cons (ds_set 5 sc_law_refusal.nd (de_or (de_cb (n_isXT' (K' := K) T.tab) T.n_isinstance (by decide +kernel) (da_cons (de_var 4) (da_cons (de_tup (da_cons (de_fn T.g_NoCount (K' := K)) (da_cons (de_fn T.g_NoQuery (K' := K)) (da_cons (de_fn T.g_NoTable (K' := K)) (da_cons (de_fn T.g_NotOrdered (K' := K)) (da_cons (de_fn T.g_TooMany (K' := K)) da_nil)))))) da_nil))) (de_one (de_not (de_cb (n_isX' (K' := K) T.tab) T.n_isinstance (by decide +kernel) (da_cons (de_var 4) (da_cons (de_ty T.n_ValueError (by decide +kernel)) da_nil))))))) (dss_one (ds_set 3 sc_law_refusal.nd (de_fz (de_lst (da_cons de_bl (da_cons (de_cb (n_isX' (K' := K) T.tab) T.n_isinstance (by decide +kernel) (da_cons (de_var 4) (da_cons (de_fn T.g_NoRows (K' := K)) da_nil))) (da_cons (de_cb (n_isX' (K' := K) T.tab) T.n_isinstance (by decide +kernel) (da_cons (de_var 4) (da_cons (de_fn T.g_NoColumn (K' := K)) da_nil))) (da_cons (de_var 5) da_nil))))))))))) (dss_cons (ds_if (DW.dt (dw_or (dt_tru (de_ix (de_bor 3) de_int)) (dw_or1 (DW.dt (dw_and (dt_tru (de_ix (de_bor 3) de_int)) (dw_and1 (dt_tru (de_ix (de_bor 3) de_int)))))))) (dss_one (ds_ret de_str)) dss_nil) (dss_one (ds_ret (de_ix (de_lst (da_cons (de_ix (de_lst (da_cons de_str (da_cons de_str da_nil))) (de_ct n_int T.n_int (by decide +kernel) (da_cons (de_ix (de_bor 3) de_int) da_nil))) (da_cons de_str (da_cons de_str da_nil)))) (de_op o_add (de_ct n_int T.n_int (by decide +kernel) (da_cons (de_ix (de_bor 3) de_int) da_nil)) (de_op o_mul de_int (de_ct n_int T.n_int (by decide +kernel) (da_cons (de_ix (de_bor 3) de_int) da_nil))))))))))⟩
local macro_rules | `(tactic| fail "ca") => `(tactic| (with_reducible refine ca_guard ?_; first | with_reducible refine callK_is_number ?_ ?_ | with_reducible refine callK_less ?_ ?_ ?_ ?_ | with_reducible refine callK_law_deck ?_ ?_ | with_reducible refine callK_law_next (by fail "ra") ?_ ?_ ?_ ?_ | with_reducible refine callK_law_whole ?_ ?_ | with_reducible refine callK_law_first ?_ ?_ ?_ ?_ ?_ | with_reducible refine callK_law_same ?_ ?_ ?_ | with_reducible refine callK_is_row ?_ ?_ ?_ | with_reducible refine callK_law_number (by fail "ra") ?_ ?_ | with_reducible refine callK_law_in_order (by fail "ra") ?_ ?_ ?_ ?_ ?_ ?_ | with_reducible refine callK_law_alike ?_ ?_ ?_ | with_reducible refine callK_law_other (by fail "ra") ?_ (by fail "ra") ?_ ?_ ?_ ?_ | with_reducible refine callK_law_neighbours (by fail "ra") ?_ ?_ ?_ ?_ ?_ ?_ | with_reducible refine callK_law_no_rows (by fail "ra") ?_ ?_ ?_ ?_ ?_ ?_ | with_reducible refine callK_law_no_column (by fail "ra") ?_ ?_ ?_ ?_ ?_ | with_reducible refine callK_is_rows ?_ ?_ ?_ | with_reducible refine callK_law_rows (by fail "ra") ?_ ?_ ?_ ?_ | with_reducible refine callK_look ?_ ?_ ?_ ?_ | with_reducible refine callK_same_rows (by fail "ra") ?_ ?_ ?_ ?_ ?_ ?_ | with_reducible refine callK_ordered (by fail "ra") ?_ ?_ ?_ ?_ ?_ ?_ | with_reducible refine callK_is_ordered (by fail "ra") ?_ ?_ ?_ ?_ ?_ ?_ | with_reducible refine callK_law_right (by fail "ra") ?_ ?_ ?_ ?_ ?_ ?_ ?_ ?_ | with_reducible refine callK_law_refusal ?_ ?_ ?_ (by fail "ra") ?_))

section
local macro_rules | `(tactic| fail "d1") => `(tactic| simp -dsimp only [↓u_22, ↓u_50, ↓u_51, ↓u_52, ↓u_53, ↓u_55, ↓u_56, ↓u_59, ↓u_60, ↓u_62, ↓u_63, ↓u_65, ↓u_66, ↓u_77, ↓u_78, ↓u_79, ↓u_80, ↓u_81, ↓u_82, ↓u_83, ↓u_84, ↓u_87, ↓u_88, u_116, u_117, u_119, u_120, u_123, u_127, u_128, u_132, u_133, u_134, u_135, u_136, u_137, u_139, u_140, ↓u_173, ↓u_176, ↓u_179, ↓u_180, ↓u_181, ↓u_182, u_194, ↓u_198, ↓u_218, ↓u_222, ↓u_225, u_229, u_231, u_233, u_234, u_235, u_236, u_240, u_241, u_243, u_244, u_245, u_246, u_247, u_248, u_250, u_251, u_253, u_254, u_255, u_257, u_268, u_269, ↓u_331, ↓u_335, u_337, ↓u_338, ↓u_339, ↓u_340, u_341, u_343, u_344, u_346, u_347, u_348, ↓u_351, u_371, ↓u_567, ↓u_568, ↓u_570, ↓u_571, ↓u_574, ↓u_576, tab_NoRows_NoRows, tab_NoRows_NoColumn, tab_NoRows_NoTable, tab_NoRows_NoQuery, tab_NoRows_TooMany, tab_NoRows_NoCount, tab_NoRows_NotOrdered, tab_NoRows_ValueError, sub_SpillError_NoRows, tab_NoColumn_NoRows, tab_NoColumn_NoColumn, tab_NoColumn_NoTable, tab_NoColumn_NoQuery, tab_NoColumn_TooMany, tab_NoColumn_NoCount, tab_NoColumn_NotOrdered, tab_NoColumn_ValueError, sub_SpillError_NoColumn, List.map_nil, List.map_cons, Nat.reduceSub, Nat.reduceAdd, Nat.reduceLT, Nat.reduceLeDiff, reduceIte, String.reduceBEq, String.reduceEq, Int.reduceLT, Int.reduceLE, Int.reduceEq, Int.reduceToNat])
local macro_rules | `(tactic| fail "dl") => `(tactic| try fail "d1")
theorem wp_law_refusal (ds : List D) (om : Om) (k : RV → Om → Prop) (xk : Exn → Om → Prop) (h : df_law_refusal ds om k xk) : w_law_refusal (endOf k xk) (startE 6 ds) om := by
  obtain ⟨y, d, c, x, rfl, hd, hp, hc, hx, h⟩ := h
  unfold w_law_refusal endOf
  have hj : isRows (.lst [.tup [.int 1]]) = true := by decide +kernel
  have hj0 : isRows (.lst []) = true := rfl
  rcases hx with ⟨rfl | rfl, ⟨h1, rfl⟩ | ⟨h1, h2, rfl⟩⟩ | ⟨rfl | rfl, h1, rfl⟩
  · fail "gs"
    refine callK_ordered__2 hd hp hc (.inl ⟨h1, rfl⟩) ?_
    fail "gs"
    rw [show (1 : Int) + 2 * 0 = 1 from rfl, ixK_1]; exact ⟨trivial, h⟩
  · fail "gs"
    refine callK_ordered__2 hd hp hc (.inr ⟨h1, h2, rfl⟩) ?_
    fail "gs"
    rw [show (0 : Int) + 2 * 1 = 2 from rfl, ixK_2]; exact ⟨trivial, h⟩
  · fail "gs"
    refine callK_is_ordered__2 hd hp hc (.inl ⟨h1, rfl⟩) ?_
    fail "gs"
    rw [show (1 : Int) + 2 * 0 = 1 from rfl, ixK_1]; exact ⟨trivial, h⟩
  · fail "gs"
    refine callK_is_ordered__2 hd hp hc (.inr ⟨h1, h2, rfl⟩) ?_
    fail "gs"
    rw [show (0 : Int) + 2 * 1 = 2 from rfl, ixK_2]; exact ⟨trivial, h⟩
  · fail "gs"
    refine callK_same_rows__2 hd hp rfl rfl (.inl h1) ?_
    fail "gs"
    rw [show (1 : Int) + 2 * 0 = 1 from rfl, ixK_1]; exact ⟨trivial, h⟩
  · fail "gs"
    refine callK_same_rows__2 rfl rfl hd hp (.inr h1) ?_
    fail "gs"
    rw [show (1 : Int) + 2 * 0 = 1 from rfl, ixK_1]; exact ⟨trivial, h⟩
end
theorem ok_law_refusal {P : Program} {w : World} {K : PySem.W.Frag} {mg : Str → Option Value} {base : Heap} {f : Addr} {fd : FuncData} (F : FunD K "_law_refusal" "_law_refusal" (defArgs s_law_refusal) (defBody s_law_refusal) (defScope s_law_refusal) [] [] f fd) (T : Txt K mg) (D_ordered : Def P w K mg base "ordered" c_ordered 5) (D_is_ordered : Def P w K mg base "is_ordered" c_is_ordered 5) (D_same_rows : Def P w K mg base "same_rows" c_same_rows 4) : GFn P w K mg base (L2.CX P w) 6 f fd ["_law_way", "_law_rows_here", "_law_column"] (toSp K c_law_refusal) :=
  (fn_ok (c := c_law_refusal) F sc_law_refusal rfl (fun cdv A outer s H E hr => d_law_refusal T D_ordered D_is_ordered D_same_rows cdv A outer s H E hr) wp_law_refusal)
def df_law_refused : DF := fun ds om k xk => ∃ (a : Addr), ∃ (n : Nat), ∃ (rs : List (List Int)), ∃ (w : Int), ∃ (c : Int), ds = [.h a, .lst (rowsD rs), .int w, .int c] ∧ (Dk om a n) ∧ (n < 10000000000) ∧ (1 ≤ w) ∧ (w ≤ 24) ∧ (0 ≤ c) ∧ (c < w) ∧ (rs.length ≤ 5) ∧ (∀ r ∈ rs, r.length = w.toNat ∧ ∀ x ∈ r, x.natAbs ≤ 10 ^ 18) ∧ (∀ om', Dk om' a (n + 20) → k (.v (.bl true)) om')
theorem call_law_refused {om : Om} {k : RV → Om → Prop} {xk : Exn → Om → Prop} {a : Addr} {n : Nat} {rs : List (List Int)} {w : Int} {c : Int} (ha : Dk om a n) (hn : n < 10000000000) (w0 : 1 ≤ w) (w1 : w ≤ 24) (c0 : 0 ≤ c) (c1 : c < w) (hl : rs.length ≤ 5) (hr : ∀ r ∈ rs, r.length = w.toNat ∧ ∀ x ∈ r, x.natAbs ≤ 10 ^ 18) (h : ∀ om', Dk om' a (n + 20) → k (.v (.bl true)) om') : df_law_refused [.h a, .lst (rowsD rs), .int w, .int c] om k xk := ⟨a, n, rs, w, c, rfl, ha, hn, w0, w1, c0, c1, hl, hr, h⟩
def c_law_refused : Con := ⟨4, df_law_refused, by intro ds om k xk h; obtain ⟨a, n, rs, w, c, rfl, _, _, _, _, _, _, _, _, _⟩ := h; rfl, by intro ds om k k' xk xk' hk hx h; obtain ⟨a, n, rs, w, c, e_, ha, hn, w0, w1, c0, c1, hl, hr, h⟩ := h; refine ⟨a, n, rs, w, c, e_, ha, hn, w0, w1, c0, c1, hl, hr, ?_⟩; first | exact hk _ _ h | exact hx _ _ h | exact fun hq => hk _ _ (h hq) | (intros; apply hk; apply h <;> assumption) | (simp only [cnd] at h ⊢; grind) | grind⟩
theorem callK_law_refused {om : Om} {k : RV → Om → Prop} {xk : Exn → Om → Prop} {a : Addr} {n : Nat} {rs : List (List Int)} {w : Int} {c : Int} {t : Tg (df_law_refused, k, xk)} (ha : Dk om a n) (hn : n < 10000000000) (w0 : 1 ≤ w) (w1 : w ≤ 24) (c0 : 0 ≤ c) (c1 : c < w) (hl : rs.length ≤ 5) (hr : ∀ r ∈ rs, r.length = w.toNat ∧ ∀ x ∈ r, x.natAbs ≤ 10 ^ 18) (h : ∀ om', Dk om' a (n + 20) → k (.v (.bl true)) om') : callK df_law_refused [.h a, .lst (rowsD rs), .int w, .int c] om k xk t := call_law_refused ha hn w0 w1 c0 c1 hl hr h
def w_law_refused : WS :=
  (wSeq (wAsg (wFz (wCall df_law_no_rows [] (wCons (wVar 0) (wCons (wVar 1) (wCons (wVar 2) wNil))))) (gN 4)) (wSeq (wAsg (wFz (wCall df_law_no_column [] (wCons (wVar 0) (wCons (wVar 1) (wCons (wVar 2) wNil))))) (gN 5)) (wSeq (wAsg (wFz (wCB pReprD (wCons (wLst (wCons (wVar 4) (wCons (wVar 5) wNil))) wNil))) (gN 6)) (wSeq (wFor (wiA (wLst (wCons (wC (.int 0)) (wCons (wC (.int 1)) wNil)))) (gN 7) (wSeq (wIfS (wOr (wTst (wOp pNe (wCall df_law_refusal [] (wCons (wVar 7) (wCons (wVar 4) (wCons (wVar 3) wNil)))) (wC (.str "rows")))) (wTst (wOp pNe (wCall df_law_refusal [] (wCons (wVar 7) (wCons (wVar 4) (wCons (wVar 5) wNil)))) (wC (.str "rows"))))) (wRet (wC (.bl false))) wNext) (wIfS (wOr (wTst (wOp pNe (wCall df_law_refusal [] (wCons (wVar 7) (wCons (wVar 1) (wCons (wVar 5) wNil)))) (wC (.str "column")))) (wTst (wOp pNe (wCall df_law_refusal [] (wCons (wVar 7) (wCons (wLst wNil) (wCons (wC (.int 24)) wNil)))) (wC (.str "column"))))) (wRet (wC (.bl false))) wNext))) (wSeq (wIfS (wOr (wTst (wOp pNe (wCall df_law_refusal [] (wCons (wC (.int 2)) (wCons (wVar 4) (wCons (wC (.int 0)) wNil)))) (wC (.str "rows")))) (wOr (wTst (wOp pNe (wCall df_law_refusal [] (wCons (wC (.int 3)) (wCons (wVar 4) (wCons (wC (.int 0)) wNil)))) (wC (.str "rows")))) (wTst (wOp pNe (wCB pReprD (wCons (wLst (wCons (wVar 4) (wCons (wVar 5) wNil))) wNil)) (wBor 6))))) (wRet (wC (.bl false))) wNext) (wRet (wAndV (wOp pEq (wCall df_ordered [] (wCons (wLst wNil) (wCons (wC (.int 23)) wNil))) (wLst wNil)) (wAndV (wOp (pIsB false) (wCall df_is_ordered [] (wCons (wLst wNil) (wCons (wC (.int 23)) wNil))) (wC (.bl true))) (wCall df_law_right [] (wCons (wVar 1) (wCons (wVar 3) (wCons (wVar 1) wNil))))))))))))
theorem d_law_refused {P : Program} {w : World} {K : PySem.W.Frag} {mg : Str → Option Value} {base : Heap} {f : Addr} (T : Txt K mg) (D_ordered : Def P w K mg base "ordered" c_ordered 5) (D_is_ordered : Def P w K mg base "is_ordered" c_is_ordered 5) (D_law_right : Def P w K mg base "_law_right" c_law_right 6) (D_law_refusal : Def P w K mg base "_law_refusal" c_law_refusal 6) (D_law_no_column : Def P w K mg base "_law_no_column" c_law_no_column 2) (D_law_no_rows : Def P w K mg base "_law_no_rows" c_law_no_rows 2) (cdv : Value) (A : Around) (outer : List PySem.Env) (s : Shared) (H : Hp) (E : XK) (hr : GRoom 6 (A.deeper (PyProof.Rows.envOfC "_law_refused" (defScope s_law_refused) s.heap.objs.size f cdv))) :
    ∃ t, DSs (cxOf (L2.CX P w) P w K mg base ["_law_deck_here", "_law_rows_here", "_law_width", "_law_column", "_law_bad", "_law_no", "_law_held", "_law_way"] "_law_refused" (defScope s_law_refused) f cdv A outer s H E) (fun cls d _ H => E cls d H) (defBody s_law_refused) t w_law_refused :=
  ⟨_, (dss_cons (ds_set 4 sc_law_refused.nd (de_fz (de_call (c := c_law_no_rows) D_law_no_rows (hr.mono (by decide)) (takes_of rfl rfl rfl rfl) (da_cons (de_var 0) (da_cons (de_var 1) (da_cons (de_var 2) da_nil)))))) (dss_cons (ds_set 5 sc_law_refused.nd (de_fz (de_call (c := c_law_no_column) D_law_no_column (hr.mono (by decide)) (takes_of rfl rfl rfl rfl) (da_cons (de_var 0) (da_cons (de_var 1) (da_cons (de_var 2) da_nil)))))) (dss_cons (ds_set 6 sc_law_refused.nd (de_fz (de_cb (n_reprD hr T.sys) T.n_repr (by decide +kernel) (da_cons (de_lst (da_cons (de_var 4) (da_cons (de_var 5) da_nil))) da_nil)))) (dss_cons (ds_for (passes_of rfl) rfl (di_any (de_lst (da_cons de_int (da_cons de_int da_nil))) (K' := K)) (dg_name 7 sc_law_refused.nd) (dss_cons (ds_if (DW.dt (dw_or (dt_cmp (o_ne hr) (de_call (c := c_law_refusal) D_law_refusal (hr.mono (by decide)) (takes_of rfl rfl rfl rfl) (da_cons (de_var 7) (da_cons (de_var 4) (da_cons (de_var 3) da_nil)))) de_str) (dw_or1 (dt_cmp (o_ne hr) (de_call (c := c_law_refusal) D_law_refusal (hr.mono (by decide)) (takes_of rfl rfl rfl rfl) (da_cons (de_var 7) (da_cons (de_var 4) (da_cons (de_var 5) da_nil)))) de_str)))) (dss_one (ds_ret de_bl)) dss_nil) (dss_one (ds_if (DW.dt (dw_or (dt_cmp (o_ne hr) (de_call (c := c_law_refusal) D_law_refusal (hr.mono (by decide)) (takes_of rfl rfl rfl rfl) (da_cons (de_var 7) (da_cons (de_var 1) (da_cons (de_var 5) da_nil)))) de_str) (dw_or1 (dt_cmp (o_ne hr) (de_call (c := c_law_refusal) D_law_refusal (hr.mono (by decide)) (takes_of rfl rfl rfl rfl) (da_cons (de_var 7) (da_cons (de_lst da_nil) (da_cons de_int da_nil)))) de_str)))) (dss_one (ds_ret de_bl)) dss_nil)))) (dss_cons (ds_if (DW.dt (dw_or (dt_cmp (o_ne hr) (de_call (c := c_law_refusal) D_law_refusal (hr.mono (by decide)) (takes_of rfl rfl rfl rfl) (da_cons de_int (da_cons (de_var 4) (da_cons de_int da_nil)))) de_str) (dw_or (dt_cmp (o_ne hr) (de_call (c := c_law_refusal) D_law_refusal (hr.mono (by decide)) (takes_of rfl rfl rfl rfl) (da_cons de_int (da_cons (de_var 4) (da_cons de_int da_nil)))) de_str) (dw_or1 (dt_cmp (o_ne hr) (de_cb (n_reprD hr T.sys) T.n_repr (by decide +kernel) (da_cons (de_lst (da_cons (de_var 4) (da_cons (de_var 5) da_nil))) da_nil)) (de_bor 6)))))) (dss_one (ds_ret de_bl)) dss_nil) (dss_one (ds_ret (de_and (de_cmp (o_eq hr) (de_call (c := c_ordered) D_ordered (hr.mono (by decide)) (takes_of rfl rfl rfl rfl) (da_cons (de_lst da_nil) (da_cons de_int da_nil))) (de_lst da_nil)) (de_and (de_cmp o_isB (de_call (c := c_is_ordered) D_is_ordered (hr.mono (by decide)) (takes_of rfl rfl rfl rfl) (da_cons (de_lst da_nil) (da_cons de_int da_nil))) de_bl) (de_one (de_call (c := c_law_right) D_law_right (hr.mono (by decide)) (takes_of rfl rfl rfl rfl) (da_cons (de_var 1) (da_cons (de_var 3) (da_cons (de_var 1) da_nil))))))))))))))⟩
local macro_rules | `(tactic| fail "ca") => `(tactic| (with_reducible refine ca_guard ?_; first | with_reducible refine callK_is_number ?_ ?_ | with_reducible refine callK_less ?_ ?_ ?_ ?_ | with_reducible refine callK_law_deck ?_ ?_ | with_reducible refine callK_law_next (by fail "ra") ?_ ?_ ?_ ?_ | with_reducible refine callK_law_whole ?_ ?_ | with_reducible refine callK_law_first ?_ ?_ ?_ ?_ ?_ | with_reducible refine callK_law_same ?_ ?_ ?_ | with_reducible refine callK_is_row ?_ ?_ ?_ | with_reducible refine callK_law_number (by fail "ra") ?_ ?_ | with_reducible refine callK_law_in_order (by fail "ra") ?_ ?_ ?_ ?_ ?_ ?_ | with_reducible refine callK_law_alike ?_ ?_ ?_ | with_reducible refine callK_law_other (by fail "ra") ?_ (by fail "ra") ?_ ?_ ?_ ?_ | with_reducible refine callK_law_neighbours (by fail "ra") ?_ ?_ ?_ ?_ ?_ ?_ | with_reducible refine callK_law_no_rows (by fail "ra") ?_ ?_ ?_ ?_ ?_ ?_ | with_reducible refine callK_law_no_column (by fail "ra") ?_ ?_ ?_ ?_ ?_ | with_reducible refine callK_is_rows ?_ ?_ ?_ | with_reducible refine callK_law_rows (by fail "ra") ?_ ?_ ?_ ?_ | with_reducible refine callK_look ?_ ?_ ?_ ?_ | with_reducible refine callK_same_rows (by fail "ra") ?_ ?_ ?_ ?_ ?_ ?_ | with_reducible refine callK_ordered (by fail "ra") ?_ ?_ ?_ ?_ ?_ ?_ | with_reducible refine callK_is_ordered (by fail "ra") ?_ ?_ ?_ ?_ ?_ ?_ | with_reducible refine callK_law_right (by fail "ra") ?_ ?_ ?_ ?_ ?_ ?_ ?_ ?_ | with_reducible refine callK_law_refusal ?_ ?_ ?_ (by fail "ra") ?_ | with_reducible refine callK_law_refused (by fail "ra") ?_ ?_ ?_ ?_ ?_ ?_ ?_ ?_))

section
local macro_rules | `(tactic| fail "d1") => `(tactic| simp -dsimp only [↓u_22, ↓u_50, ↓u_51, ↓u_52, ↓u_53, ↓u_56, ↓u_59, ↓u_60, ↓u_62, ↓u_63, ↓u_65, ↓u_66, ↓u_78, ↓u_79, ↓u_80, ↓u_81, ↓u_84, ↓u_86, ↓u_91, u_116, u_118, u_120, u_127, u_128, u_132, u_133, u_134, u_135, u_136, u_137, u_139, u_194, ↓u_198, ↓u_228, u_229, u_231, u_233, u_234, u_235, u_236, u_240, u_241, u_243, u_244, u_245, u_246, u_247, u_248, u_250, u_251, u_255, u_268, ↓u_293, ↓u_321, ↓u_335, ↓u_363, u_371, u_372, u_377, ↓u_411, u_471, u_478, ↓u_567, ↓u_568, ↓u_570, ↓u_571, ↓u_574, ↓u_576, ↓u_583, List.map_nil, List.map_cons, Nat.reduceSub, Nat.reduceAdd, Nat.reduceLT, Nat.reduceLeDiff, reduceIte, String.reduceBEq, String.reduceEq, Int.reduceLT, Int.reduceLE, Int.reduceEq, Int.reduceToNat])
local macro_rules | `(tactic| fail "dl") => `(tactic| try fail "d1")
theorem wp_law_refused (ds : List D) (om : Om) (k : RV → Om → Prop) (xk : Exn → Om → Prop) (h : df_law_refused ds om k xk) : w_law_refused (endOf k xk) (startE 8 ds) om := by
  obtain ⟨a, n, rs, w, c, rfl, ha, hn, w0, w1, c0, c1, hl, hr, h⟩ := h
  unfold w_law_refused endOf
  have hr6 : ∀ r ∈ rs, r.length = w.toNat ∧ ∀ x ∈ r, x.natAbs ≤ 10 ^ 60 := fun r m => ⟨(hr r m).1, fun x mx => Nat.le_trans ((hr r m).2 x mx) (by decide)⟩
  have lR := len_rows rs
  have hw : Wd w.toNat rs := fun r m => (hr r m).1
  have e1 := isRows_rows (rs := rs) (w := w.toNat) hw (by omega) (by omega)
  have e2 := wid_rows (rs := rs) (w := w.toNat) hw
  have hz : ∀ {a b : D}, Rw a → Nc 3 100 b → Shw 60 16777216 (.lst [a, b]) := fun {a b} h1 h2 => (Shw.lst (n := 5) (m := 5200000) fun d md => by
    simp only [List.mem_cons, List.not_mem_nil, or_false] at md
    rcases md with rfl | rfl
    · exact h1.1.toShw
    · exact h2.toShw.up (by decide) (by decide)).up (by decide) (by simp only [List.length_cons, List.length_nil]; omega)
  fail "gs"
  · exact hz (by assumption) (by assumption)
  rename_i bad om1 b1 b2 d1 no om2 n1 n2 d2
  rw [← e2] at n2
  have p1 := okS_plain b1.1.ok
  have p2 := okS_deep b1.1.ok
  have p3 := okS_plain n1.ok
  refine loop_list (fun i r om' => om' = om2 ∧ ∃ x7, r = [some (.v (.h a)), some (.v (.lst (rowsD rs))), some (.v (.int w)), some (.v (.int c)), some (.v bad), some (.v no), some (.v (.str (reprS (.lst [bad, no])))), x7]) ⟨rfl, _, rfl⟩ ?_ ?_
  · rintro i d r om' nx e ⟨rfl, x7, rfl⟩ hnx
    have hm := List.mem_of_getElem? e
    simp only [List.mem_cons, List.not_mem_nil, or_false] at hm
    obtain ⟨y, rfl, hy⟩ : ∃ y : Int, d = .int y ∧ (y = 0 ∨ y = 1) := by
      rcases hm with rfl | rfl
      · exact ⟨0, rfl, .inl rfl⟩
      · exact ⟨1, rfl, .inr rfl⟩
    have c1 : ∀ z, RefW y bad z "rows" := fun z => .inl ⟨hy, .inl ⟨b2, rfl⟩⟩
    have c2 : RefW y (.lst (rowsD rs)) no "column" := .inl ⟨hy, .inr ⟨e1, n2, rfl⟩⟩
    have c3 : RefW y (.lst []) (.int 24) "column" := .inl ⟨hy, .inr ⟨rfl, by decide, rfl⟩⟩
    have q2 := deep_rows rs
    unfold stepOf
    fail "gs"
    refine callK_law_refusal p1 p2 rfl (c1 _) ?_
    fail "gs"
    refine callK_law_refusal p1 p2 p3 (c1 _) ?_
    fail "gs"
    · rfl
    exact hnx _ _ ⟨rfl, _, rfl⟩
  · rintro r om' ⟨rfl, x7, rfl⟩
    have hS := hz b1 n1
    fail "gs"
    refine callK_law_refusal p1 p2 rfl (.inr ⟨.inl rfl, b2, rfl⟩) ?_
    fail "gs"
    refine callK_law_refusal p1 p2 rfl (.inr ⟨.inr rfl, b2, rfl⟩) ?_
    fail "gs"
    refine callK_ordered (rs := []) (c := 23) (w := 24) (fun _ m => nomatch m) (by omega) (by omega) (by omega) (.inr rfl) (by omega) ?_
    rw [show rowsD (sortR (23 : Int).toNat []) = [] by rw [show sortR (23 : Int).toNat [] = [] by simp [sortR]]; rfl]
    fail "gs"
    refine callK_is_ordered (rs := []) (c := 23) (w := 24) (fun _ m => nomatch m) (by omega) (by omega) (by omega) (by omega) (by simp) ?_
    rw [show srtB (23 : Int).toNat [] = true from rfl]
    fail "gs"
    exact h _ (Dk.mono d2 (by omega))
end
theorem ok_law_refused {P : Program} {w : World} {K : PySem.W.Frag} {mg : Str → Option Value} {base : Heap} {f : Addr} {fd : FuncData} (F : FunD K "_law_refused" "_law_refused" (defArgs s_law_refused) (defBody s_law_refused) (defScope s_law_refused) [] [] f fd) (T : Txt K mg) (D_ordered : Def P w K mg base "ordered" c_ordered 5) (D_is_ordered : Def P w K mg base "is_ordered" c_is_ordered 5) (D_law_right : Def P w K mg base "_law_right" c_law_right 6) (D_law_refusal : Def P w K mg base "_law_refusal" c_law_refusal 6) (D_law_no_column : Def P w K mg base "_law_no_column" c_law_no_column 2) (D_law_no_rows : Def P w K mg base "_law_no_rows" c_law_no_rows 2) : GFn P w K mg base (L2.CX P w) 7 f fd ["_law_deck_here", "_law_rows_here", "_law_width", "_law_column"] (toSp K c_law_refused) :=
  (fn_ok (c := c_law_refused) F sc_law_refused rfl (fun cdv A outer s H E hr => d_law_refused T D_ordered D_is_ordered D_law_right D_law_refusal D_law_no_column D_law_no_rows cdv A outer s H E hr) wp_law_refused)
def df_law : DF := fun ds om k xk => ∃ (ns : List Int), ds = [.frl (ns.map D.int)] ∧ (ns.length ≤ 63) ∧ (∀ om', k (.v (.bl true)) om')
theorem call_law {om : Om} {k : RV → Om → Prop} {xk : Exn → Om → Prop} {ns : List Int} (hl : ns.length ≤ 63) (h : ∀ om', k (.v (.bl true)) om') : df_law [.frl (ns.map D.int)] om k xk := ⟨ns, rfl, hl, h⟩
def c_law : Con := ⟨1, df_law, by intro ds om k xk h; obtain ⟨ns, rfl, _, _⟩ := h; rfl, by intro ds om k k' xk xk' hk hx h; obtain ⟨ns, e_, hl, h⟩ := h; refine ⟨ns, e_, hl, ?_⟩; first | exact hk _ _ h | exact hx _ _ h | exact fun hq => hk _ _ (h hq) | (intros; apply hk; apply h <;> assumption) | (simp only [cnd] at h ⊢; grind) | grind⟩
theorem callK_law {om : Om} {k : RV → Om → Prop} {xk : Exn → Om → Prop} {ns : List Int} {t : Tg (df_law, k, xk)} (hl : ns.length ≤ 63) (h : ∀ om', k (.v (.bl true)) om') : callK df_law [.frl (ns.map D.int)] om k xk t := call_law hl h
def w_law : WS :=
  (wSeq (wAsg (wFz (wHL (wCall df_law_deck [] (wCons (wVar 0) wNil)))) (gN 1)) (wSeq (wFor (wiR1 (wCons (wC (.int 4)) wNil)) (gN 2) (wSeq (wAsg (wFz (wOp pAdd (wC (.int 1)) (wCall df_law_next [] (wCons (wVar 1) (wCons (wOp pIx (wLst (wCons (wC (.int 3)) (wCons (wC (.int 6)) (wCons (wC (.int 24)) wNil)))) (wCall df_law_next [] (wCons (wVar 1) (wCons (wC (.int 3)) wNil)))) wNil))))) (gN 3)) (wSeq (wAsg (wFz (wCall df_law_rows [] (wCons (wVar 1) (wCons (wVar 3) wNil)))) (gN 4)) (wSeq (wIfS (wAnd (wTst (wOp pEq (wBor 2) (wC (.int 3)))) (wAnd (wTst (wOp pLtA (wBor 3) (wC (.int 7)))) (wTst (wOp pEq (wCall df_law_next [] (wCons (wVar 1) (wCons (wC (.int 4)) wNil))) (wC (.int 0)))))) (wAsg (wFz (wOp pAdd (wBor 4) (wLc (wiR1 (wCons (wC (.int 40)) wNil)) (gN 6) wYes (wCB pTuple (wCons (wLc (wiR1 (wCons (wBor 3) wNil)) (gN 5) wYes (wCall df_law_next [] (wCons (wVar 1) (wCons (wC (.int 3)) wNil))) [5]) wNil)) [6]))) (gN 4)) wNext) (wSeq (wAsg (wFz (wCall df_law_next [] (wCons (wVar 1) (wCons (wVar 3) wNil)))) (gN 7)) (wSeq (wIfS (wOr (wNot (wTru (wCall df_law_right [] (wCons (wVar 4) (wCons (wVar 7) (wCons (wCall df_law_other [] (wCons (wVar 1) (wCons (wVar 4) wNil))) wNil)))))) (wNot (wTru (wCall df_law_neighbours [] (wCons (wVar 4) (wCons (wVar 7) wNil)))))) (wRet (wC (.bl false))) wNext) (wIfS (wNot (wTru (wCall df_law_refused [] (wCons (wVar 1) (wCons (wSl (wBor 4) wON (wOS (wC (.int 5)))) (wCons (wVar 3) (wCons (wVar 7) wNil))))))) (wRet (wC (.bl false))) wNext))))))) (wRet (wC (.bl true)))))
theorem d_law {P : Program} {w : World} {K : PySem.W.Frag} {mg : Str → Option Value} {base : Heap} {f : Addr} (T : Txt K mg) (D_law_refused : Def P w K mg base "_law_refused" c_law_refused 7) (D_law_right : Def P w K mg base "_law_right" c_law_right 6) (D_law_other : Def P w K mg base "_law_other" c_law_other 2) (D_law_neighbours : Def P w K mg base "_law_neighbours" c_law_neighbours 2) (D_law_next : Def P w K mg base "_law_next" c_law_next 1) (D_law_rows : Def P w K mg base "_law_rows" c_law_rows 3) (D_law_deck : Def P w K mg base "_law_deck" c_law_deck 1) (cdv : Value) (A : Around) (outer : List PySem.Env) (s : Shared) (H : Hp) (E : XK) (hr : GRoom 7 (A.deeper (PyProof.Rows.envOfC "law" (defScope s_law) s.heap.objs.size f cdv))) :
    ∃ t, DSs (cxOf (L2.CX P w) P w K mg base ["_law_script", "_law_deck_here", "_law_turn", "_law_width", "_law_rows_here", "_law_part", "_law_k", "_law_column"] "law" (defScope s_law) f cdv A outer s H E) (fun cls d _ H => E cls d H) (defBody s_law) t w_law :=
  ⟨_, (dss_cons (ds_set 1 sc_law.nd (de_fz (de_hl (de_call (c := c_law_deck) D_law_deck (hr.mono (by decide)) (takes_of rfl rfl rfl rfl) (da_cons (de_var 0) da_nil))))) (dss_cons (ds_for (passes_of rfl) rfl (di_r1 T.n_range (da_cons de_int da_nil)) (dg_name 2 sc_law.nd) (dss_cons (ds_set 3 sc_law.nd (de_fz (de_op o_add de_int (de_call (c := c_law_next) D_law_next (hr.mono (by decide)) (takes_of rfl rfl rfl rfl) (da_cons (de_var 1) (da_cons (de_ix (de_lst (da_cons de_int (da_cons de_int (da_cons de_int da_nil)))) (de_call (c := c_law_next) D_law_next (hr.mono (by decide)) (takes_of rfl rfl rfl rfl) (da_cons (de_var 1) (da_cons de_int da_nil)))) da_nil)))))) (dss_cons (ds_set 4 sc_law.nd (de_fz (de_call (c := c_law_rows) D_law_rows (hr.mono (by decide)) (takes_of rfl rfl rfl rfl) (da_cons (de_var 1) (da_cons (de_var 3) da_nil))))) (dss_cons (ds_if (DW.dt (dw_and (dt_cmp (o_eq hr) (de_bor 2) de_int) (dw_and (dt_cmp (o_ltA hr) (de_bor 3) de_int) (dw_and1 (dt_cmp (o_eq hr) (de_call (c := c_law_next) D_law_next (hr.mono (by decide)) (takes_of rfl rfl rfl rfl) (da_cons (de_var 1) (da_cons de_int da_nil))) de_int))))) (dss_one (ds_set 4 sc_law.nd (de_fz (de_op o_add (de_bor 4) (de_lc (own := [("_law_k", 6)]) rfl sc_law.nd (di_r1 T.n_range (da_cons de_int da_nil)) (by kernel_rfl) (fun _ _ _ _ _ => (dgv_name 6 sc_law.nd)) (fun _ _ _ _ _ => dts_nil) (fun _ _ _ _ _ => (de_ct (n_tuple' (K' := K)) T.n_tuple (by decide +kernel) (da_cons (de_lc (own := [("_law_part", 5)]) rfl sc_law.nd (di_r1 T.n_range (da_cons (de_bor 3) da_nil)) (by kernel_rfl) (fun _ _ _ _ _ => (dgv_name 5 sc_law.nd)) (fun _ _ _ _ _ => dts_nil) (fun _ _ _ _ _ => (de_call' (K' := K) (c := c_law_next) D_law_next (hr.mono (by decide)) takes0 (da_cons (de_var 1) (da_cons de_int da_nil)))) s) da_nil))) s))))) dss_nil) (dss_cons (ds_set 7 sc_law.nd (de_fz (de_call (c := c_law_next) D_law_next (hr.mono (by decide)) (takes_of rfl rfl rfl rfl) (da_cons (de_var 1) (da_cons (de_var 3) da_nil))))) (dss_cons (ds_if (DW.dt (dw_or (dt_not (dt_tru (de_call (c := c_law_right) D_law_right (hr.mono (by decide)) (takes_of rfl rfl rfl rfl) (da_cons (de_var 4) (da_cons (de_var 7) (da_cons (de_call (c := c_law_other) D_law_other (hr.mono (by decide)) (takes_of rfl rfl rfl rfl) (da_cons (de_var 1) (da_cons (de_var 4) da_nil))) da_nil)))))) (dw_or1 (dt_not (dt_tru (de_call (c := c_law_neighbours) D_law_neighbours (hr.mono (by decide)) (takes_of rfl rfl rfl rfl) (da_cons (de_var 4) (da_cons (de_var 7) da_nil)))))))) (dss_one (ds_ret de_bl)) dss_nil) (dss_one (ds_if (dt_not (dt_tru (de_call (c := c_law_refused) D_law_refused (hr.mono (by decide)) (takes_of rfl rfl rfl rfl) (da_cons (de_var 1) (da_cons (de_sl (de_bor 4) do_none (do_some de_int)) (da_cons (de_var 3) (da_cons (de_var 7) da_nil))))))) (dss_one (ds_ret de_bl)) dss_nil)))))))) (dss_one (ds_ret de_bl))))⟩
local macro_rules | `(tactic| fail "ca") => `(tactic| (with_reducible refine ca_guard ?_; first | with_reducible refine callK_is_number ?_ ?_ | with_reducible refine callK_less ?_ ?_ ?_ ?_ | with_reducible refine callK_law_deck ?_ ?_ | with_reducible refine callK_law_next (by fail "ra") ?_ ?_ ?_ ?_ | with_reducible refine callK_law_whole ?_ ?_ | with_reducible refine callK_law_first ?_ ?_ ?_ ?_ ?_ | with_reducible refine callK_law_same ?_ ?_ ?_ | with_reducible refine callK_is_row ?_ ?_ ?_ | with_reducible refine callK_law_number (by fail "ra") ?_ ?_ | with_reducible refine callK_law_in_order (by fail "ra") ?_ ?_ ?_ ?_ ?_ ?_ | with_reducible refine callK_law_alike ?_ ?_ ?_ | with_reducible refine callK_law_other (by fail "ra") ?_ (by fail "ra") ?_ ?_ ?_ ?_ | with_reducible refine callK_law_neighbours (by fail "ra") ?_ ?_ ?_ ?_ ?_ ?_ | with_reducible refine callK_law_no_rows (by fail "ra") ?_ ?_ ?_ ?_ ?_ ?_ | with_reducible refine callK_law_no_column (by fail "ra") ?_ ?_ ?_ ?_ ?_ | with_reducible refine callK_is_rows ?_ ?_ ?_ | with_reducible refine callK_law_rows (by fail "ra") ?_ ?_ ?_ ?_ | with_reducible refine callK_look ?_ ?_ ?_ ?_ | with_reducible refine callK_same_rows (by fail "ra") ?_ ?_ ?_ ?_ ?_ ?_ | with_reducible refine callK_ordered (by fail "ra") ?_ ?_ ?_ ?_ ?_ ?_ | with_reducible refine callK_is_ordered (by fail "ra") ?_ ?_ ?_ ?_ ?_ ?_ | with_reducible refine callK_law_right (by fail "ra") ?_ ?_ ?_ ?_ ?_ ?_ ?_ ?_ | with_reducible refine callK_law_refusal ?_ ?_ ?_ (by fail "ra") ?_ | with_reducible refine callK_law_refused (by fail "ra") ?_ ?_ ?_ ?_ ?_ ?_ ?_ ?_ | with_reducible refine callK_law ?_ ?_))
theorem cut5 (rs : List (List Int)) : cutD (rowsD rs) none (some 5) = rowsD (rs.take 5) := by
  by_cases h : 5 ≤ rs.length
  · exact cutR_lo rs 5 h
  · unfold cutD rowsD
    rw [HT.sIx_none, show ((5 : Int)) = ((5 : Nat) : Int) from rfl, HT.sIx_nat, List.length_map, Nat.min_eq_right (by omega), List.drop_zero, Nat.sub_zero, List.map_take, List.take_of_length_le (by simp), List.take_of_length_le (by simp; omega)]
section
local macro_rules | `(tactic| fail "d1") => `(tactic| simp -dsimp only [↓u_22, ↓u_50, ↓u_51, ↓u_52, ↓u_53, ↓u_56, ↓u_59, ↓u_60, ↓u_62, ↓u_63, ↓u_65, ↓u_66, ↓u_78, ↓u_79, ↓u_80, ↓u_81, ↓u_82, ↓u_83, ↓u_84, ↓u_85, ↓u_91, ↓u_92, ↓u_96, ↓u_97, u_116, u_117, u_120, u_127, u_128, u_130, u_132, u_133, u_134, u_135, u_136, u_137, u_139, u_140, u_145, u_146, u_151, ↓u_171, ↓u_176, u_186, u_194, ↓u_198, ↓u_206, ↓u_218, ↓u_219, ↓u_225, u_229, u_231, u_233, u_234, u_235, u_236, u_240, u_241, u_243, u_244, u_245, u_246, u_247, u_248, u_250, u_251, u_253, u_270, u_271, ↓u_272, ↓u_273, ↓u_274, ↓u_275, ↓u_335, u_371, ↓u_436, ↓u_437, ↓u_567, ↓u_568, ↓u_570, ↓u_571, ↓u_573, ↓u_574, ↓u_576, u_592, List.length_append, List.map_nil, List.map_append, List.map_cons, Nat.reduceSub, Nat.reduceAdd, Nat.reduceLT, Nat.reduceLeDiff, reduceIte, String.reduceBEq, String.reduceEq, Int.reduceLT, Int.reduceLE, Int.reduceEq, Int.reduceToNat])
local macro_rules | `(tactic| fail "dl") => `(tactic| try fail "d1")
theorem wp_law (ds : List D) (om : Om) (k : RV → Om → Prop) (xk : Exn → Om → Prop) (h : df_law ds om k xk) : w_law (endOf k xk) (startE 8 ds) om := by
  obtain ⟨ns, rfl, hl, h⟩ := h
  unfold w_law endOf
  fail "gs"
  rename_i cs rs b hne hln hb a ha
  have hd := Dk.new ha hne hln
  generalize (oset (oset om b (.lst (rs.map D.int))) a (.lst [.lst (cs.map D.int), .int 0, .h b])) = om1 at *
  refine loop_rng (fun i r om' => Dk om' a (i * 20000) ∧ ∃ x2 x3 x4 x5 x6 x7, r = [some (.v (.frl (ns.map D.int))), some (.v (.h a)), x2, x3, x4, x5, x6, x7]) ⟨hd, _, _, _, _, _, _, rfl⟩ ?_ ?_
  · rintro i r om2 nx hi ⟨hdk, x2, x3, x4, x5, x6, x7, rfl⟩ hnx
    unfold stepOf
    fail "gs"
    refine ixK_pickP (fun d => ∃ m : Int, d = .int m ∧ 1 ≤ m ∧ m ≤ 24) (by omega) (by simp only [List.length_cons, List.length_nil]; omega) (fun d hd => ?_) ?_
    · simp only [List.mem_cons, List.not_mem_nil, or_false] at hd
      rcases hd with rfl | rfl | rfl <;> exact ⟨_, rfl, by decide, by decide⟩
    rintro _ ⟨m, rfl, m0, m1⟩
    fail "gs"
    · rename_i z om3 z0 z1 hd3 qs om4 hq9 hq8 hd4 e3 e7 t om5 t0 t1 hd5 te
      obtain ⟨W, hW⟩ : ∃ W : Nat, 1 + z = (W : Int) := ⟨(1 + z).toNat, by omega⟩
      have hW1 : 1 ≤ W ∧ W ≤ 24 := by omega
      rw [hW] at hq8 ⊢
      rw [Int.toNat_natCast] at hq8
      have lQ := len_rows qs
      refine lc_list (fun j acc r om6 => Dk om6 a (i * 20000 + 1 + 1 + 3000 + 1 + j * 30) ∧ (∃ x5, r = [some (.v (.frl (ns.map D.int))), some (.v (.h a)), some (.v (.int (0 + (i : Int)))), some (.v (.int (W : Int))), some (.v (.lst (rowsD qs))), x5, none, x7]) ∧ ∃ ps : List (List Int), acc = rowsD ps ∧ ps.length = j ∧ ∀ p ∈ ps, p.length = W ∧ ∀ x ∈ p, x.natAbs ≤ 10 ^ 18) ⟨by assumption, ⟨_, rfl⟩, [], rfl, rfl, by simp⟩ ?_ ?_
      · rintro j d acc r om6 nx2 e ⟨d6, ⟨x5, rfl⟩, ps, rfl, rfl, hps⟩ hn2
        have hj := (rng_get e).1
        obtain rfl := (rng_get e).2
        fail "gs"
        refine lc_list (fun t acc r om7 => Dk om7 a (i * 20000 + 1 + 1 + 3000 + 1 + ps.length * 30 + t) ∧ r = [some (.v (.frl (ns.map D.int))), some (.v (.h a)), some (.v (.int (0 + (i : Int)))), some (.v (.int (W : Int))), some (.v (.lst (rowsD qs))), none, some (.v (.int (0 + (ps.length : Int)))), x7] ∧ ∃ q : List Int, acc = q.map D.int ∧ q.length = t ∧ ∀ x ∈ q, x.natAbs ≤ 10 ^ 18) ⟨Dk.mono d6 (by omega), rfl, [], rfl, rfl, by simp⟩ ?_ ?_
        · rintro t d acc r om7 nx3 e3 ⟨d7, rfl, q, rfl, rfl, hq⟩ hn3
          have ht := (rng_get e3).1
          obtain rfl := (rng_get e3).2
          fail "gs"
          refine hn3 _ _ _ ⟨Dk.mono (by assumption) (by omega), rfl, q ++ [_], by rw [List.map_append]; rfl, by simp, fun x mx => ?_⟩
          rcases List.mem_append.mp mx with mx | mx
          · exact hq x mx
          · rw [List.mem_singleton.mp mx]; omega
        · rintro acc r om7 ⟨d7, rfl, q, rfl, hq1, hq⟩
          rw [rng_len] at *
          fail "gs"
          refine hn2 _ _ _ ⟨Dk.mono d7 (by omega), ⟨_, rfl⟩, ps ++ [q], by simp [rowsD]; rfl, by simp, fun p mp => ?_⟩
          rcases List.mem_append.mp mp with mp | mp
          · exact hps p mp
          · rw [List.mem_singleton.mp mp]; exact ⟨by omega, hq⟩
      · rintro acc r om6 ⟨d6, ⟨x5, rfl⟩, ps, rfl, hp1, hps⟩
        rw [rng_len] at *
        have er : rowsD qs ++ rowsD ps = rowsD (qs ++ ps) := by simp [rowsD]
        have hQ8 : ∀ r ∈ qs ++ ps, r.length = W ∧ ∀ x ∈ r, x.natAbs ≤ 10 ^ 18 := fun r m => (List.mem_append.mp m).elim (hq8 r) (hps r)
        have hQ : Wd W (qs ++ ps) := fun r m => (hQ8 r m).1
        have lQ2 : (qs ++ ps).length ≤ 60 := by rw [List.length_append]; omega
        generalize hG : qs ++ ps = Q at *
        (repeat' (first | (with_reducible assumption) | (with_reducible intro _) | (with_reducible apply And.intro) | fail "ca" | simp -dsimp only [↓u_22, ↓u_50, ↓u_51, ↓u_52, ↓u_53, ↓u_56, ↓u_59, ↓u_60, ↓u_62, ↓u_63, ↓u_65, ↓u_66, ↓u_78, ↓u_79, ↓u_80, ↓u_81, ↓u_82, ↓u_83, ↓u_84, ↓u_85, ↓u_91, ↓u_92, ↓u_96, ↓u_97, u_116, u_117, u_120, u_127, u_128, u_130, u_132, u_133, u_134, u_135, u_136, u_137, u_139, u_140, u_145, u_146, u_151, ↓u_171, ↓u_176, u_186, u_194, ↓u_198, ↓u_206, ↓u_218, ↓u_219, ↓u_225, u_229, u_231, u_233, u_234, u_235, u_236, u_240, u_241, u_243, u_244, u_245, u_246, u_247, u_248, u_250, u_251, u_253, u_270, u_271, ↓u_272, ↓u_273, ↓u_274, ↓u_275, ↓u_335, u_371, ↓u_436, ↓u_437, ↓u_567, ↓u_568, ↓u_570, ↓u_571, ↓u_573, ↓u_574, ↓u_576, u_592, List.length_append, List.map_nil, List.map_append, List.map_cons, Nat.reduceSub, Nat.reduceAdd, Nat.reduceLT, Nat.reduceLeDiff, reduceIte, String.reduceBEq, String.reduceEq, Int.reduceLT, Int.reduceLE, Int.reduceEq, Int.reduceToNat, er] | fail "ix" | (with_reducible refine rdDh_of (by with_reducible assumption) ?_) | (with_reducible refine rdRh_of (by with_reducible assumption) ?_) | (with_reducible refine rwK_row (by with_reducible assumption) ?_) | (with_reducible refine cnd_T (by with_reducible assumption) ?_) | (with_reducible refine cnd_F (by with_reducible assumption) ?_) | (with_reducible refine cnd_yes (by omega) ?_) | (with_reducible refine cnd_no (by omega) ?_) | (with_reducible refine cnd_dec ?_ ?_) | (with_reducible refine cnd_of ?_ ?_) | fail "si" | fail))
        fail "gs"
        rw [cut5]
        refine callK_law_refused (by assumption) (by omega) (by omega) (by omega) (by omega) (by omega) (List.length_take_le 5 _) (fun r m => hQ8 r (List.mem_of_mem_take m)) (fun om8 hd8 => ?_)
        fail "gs"
        exact hnx _ _ ⟨Dk.mono hd8 (by omega), _, _, _, _, _, _, rfl⟩
    · rename_i z om3 z0 z1 hd3 qs om4 hq9 hq8 hd4 e3 e7 t om5 t0 t1 hd5 te c om6 c0 c1 hd6
      obtain ⟨W, hW⟩ : ∃ W : Nat, 1 + z = (W : Int) := ⟨(1 + z).toNat, by omega⟩
      have hW1 : 1 ≤ W ∧ W ≤ 24 := by omega
      rw [hW] at hq8 ⊢
      rw [Int.toNat_natCast] at hq8
      have lQ := len_rows qs
      have hQ8 := hq8
      have hQ : Wd W qs := fun r m => (hQ8 r m).1
      refine callK_law_other (w := W) (by assumption) (by omega) hQ (by omega) (by omega) (by omega) (fun os om7 ho hm hd7 => ?_)
      fail "gs"
      rw [cut5]
      refine callK_law_refused (by assumption) (by omega) (by omega) (by omega) (by omega) (by omega) (List.length_take_le 5 _) (fun r m => hQ8 r (List.mem_of_mem_take m)) (fun om8 hd8 => ?_)
      fail "gs"
      exact hnx _ _ ⟨Dk.mono hd8 (by omega), _, _, _, _, _, _, rfl⟩
    · rename_i z om3 z0 z1 hd3 qs om4 hq9 hq8 hd4 e3 e7 c om6 c0 c1 hd6
      obtain ⟨W, hW⟩ : ∃ W : Nat, 1 + z = (W : Int) := ⟨(1 + z).toNat, by omega⟩
      have hW1 : 1 ≤ W ∧ W ≤ 24 := by omega
      rw [hW] at hq8 ⊢
      rw [Int.toNat_natCast] at hq8
      have lQ := len_rows qs
      have hQ8 := hq8
      have hQ : Wd W qs := fun r m => (hQ8 r m).1
      refine callK_law_other (w := W) (by assumption) (by omega) hQ (by omega) (by omega) (by omega) (fun os om7 ho hm hd7 => ?_)
      fail "gs"
      rw [cut5]
      refine callK_law_refused (by assumption) (by omega) (by omega) (by omega) (by omega) (by omega) (List.length_take_le 5 _) (fun r m => hQ8 r (List.mem_of_mem_take m)) (fun om8 hd8 => ?_)
      fail "gs"
      exact hnx _ _ ⟨Dk.mono hd8 (by omega), _, _, _, _, _, _, rfl⟩
    · rename_i z om3 z0 z1 hd3 qs om4 hq9 hq8 hd4 e3 c om6 c0 c1 hd6
      obtain ⟨W, hW⟩ : ∃ W : Nat, 1 + z = (W : Int) := ⟨(1 + z).toNat, by omega⟩
      have hW1 : 1 ≤ W ∧ W ≤ 24 := by omega
      rw [hW] at hq8 ⊢
      rw [Int.toNat_natCast] at hq8
      have lQ := len_rows qs
      have hQ8 := hq8
      have hQ : Wd W qs := fun r m => (hQ8 r m).1
      refine callK_law_other (w := W) (by assumption) (by omega) hQ (by omega) (by omega) (by omega) (fun os om7 ho hm hd7 => ?_)
      fail "gs"
      rw [cut5]
      refine callK_law_refused (by assumption) (by omega) (by omega) (by omega) (by omega) (by omega) (List.length_take_le 5 _) (fun r m => hQ8 r (List.mem_of_mem_take m)) (fun om8 hd8 => ?_)
      fail "gs"
      exact hnx _ _ ⟨Dk.mono hd8 (by omega), _, _, _, _, _, _, rfl⟩
  · rintro r om2 ⟨hdk, x2, x3, x4, x5, x6, x7, rfl⟩
    fail "gs"
    exact h _
end
theorem ok_law {P : Program} {w : World} {K : PySem.W.Frag} {mg : Str → Option Value} {base : Heap} {f : Addr} {fd : FuncData} (F : FunD K "law" "law" (defArgs s_law) (defBody s_law) (defScope s_law) [] [] f fd) (T : Txt K mg) (D_law_refused : Def P w K mg base "_law_refused" c_law_refused 7) (D_law_right : Def P w K mg base "_law_right" c_law_right 6) (D_law_other : Def P w K mg base "_law_other" c_law_other 2) (D_law_neighbours : Def P w K mg base "_law_neighbours" c_law_neighbours 2) (D_law_next : Def P w K mg base "_law_next" c_law_next 1) (D_law_rows : Def P w K mg base "_law_rows" c_law_rows 3) (D_law_deck : Def P w K mg base "_law_deck" c_law_deck 1) : GFn P w K mg base (L2.CX P w) 8 f fd ["_law_script"] (toSp K c_law) :=
  (fn_ok (c := c_law) F sc_law rfl (fun cdv A outer s H E hr => d_law T D_law_refused D_law_right D_law_other D_law_neighbours D_law_next D_law_rows D_law_deck cdv A outer s H E hr) wp_law)
theorem law_start (ns : List Int) (om : Om) (hl : ns.length ≤ 63) (hb : ∀ z ∈ ns, Builtin.Int.intBits z ≤ 1048576) : c_law.df [.frl (ns.map D.int)] om (fun x _ => x = .v (.bl true)) (fun _ _ => False) := ⟨ns, rfl, hl, fun _ => rfl⟩


theorem ob_eq (s : PySem.W.SharedT) : ob s = hk.obs s.abs := obsVG_eq (HandSHeadRun.getT_eq s)
theorem facts {P : Program} {w : World} {K : PySem.W.Frag} {h : Heap} {mg : Str → Option Value} {f : Addr} (X : K.In h) (G : h.Ns mainGlobals mg) (hfa : mg ("law" : Str) = some (.ref f)) (c : He.SaysD fa fn K) (hx : ex K = true) :
    tabsInB K tf = true ∧ ∃ fd : FuncData, (∀ (s : Shared) (v : Value), BindsTo s fd ⟨[v], []⟩ [("_law_script", v)]) ∧ ∀ base : Heap, K.In base → base.Ns mainGlobals mg → (∀ p ∈ tf, LamX.TabB base mg (He.cT K p).1 (He.cT K p).2) → GFn P w K mg base (L2.CX P w) 8 f fd ["_law_script"] (toSp K c_law) := by
  simp only [ex, Bool.and_eq_true] at hx
  have hlt := hx.2
  have hlb_ordered := hx.1.2
  have hsy : sysB K = true := hx.1.1.2
  have hxa := hx.1.1.1
  have T : Txt K mg := ⟨⟨He.glo_ok X G (c.fact 26 (f := .glo "NoRows") rfl), (He.exc_ok (c.fact 33 (f := .exc "NoRows") rfl)).1, (He.exc_ok (c.fact 33 (f := .exc "NoRows") rfl)).2.1, (He.exc_ok (c.fact 33 (f := .exc "NoRows") rfl)).2.2.1, (He.exc_ok (c.fact 33 (f := .exc "NoRows") rfl)).2.2.2⟩, ⟨He.glo_ok X G (c.fact 27 (f := .glo "NoColumn") rfl), (He.exc_ok (c.fact 34 (f := .exc "NoColumn") rfl)).1, (He.exc_ok (c.fact 34 (f := .exc "NoColumn") rfl)).2.1, (He.exc_ok (c.fact 34 (f := .exc "NoColumn") rfl)).2.2.1, (He.exc_ok (c.fact 34 (f := .exc "NoColumn") rfl)).2.2.2⟩, He.glo_ok X G (c.fact 27 (f := .glo "NoColumn") rfl), He.glo_ok X G (c.fact 31 (f := .glo "NoCount") rfl), He.glo_ok X G (c.fact 29 (f := .glo "NoQuery") rfl), He.glo_ok X G (c.fact 26 (f := .glo "NoRows") rfl), He.glo_ok X G (c.fact 28 (f := .glo "NoTable") rfl), He.glo_ok X G (c.fact 32 (f := .glo "NotOrdered") rfl), He.glo_ok X G (c.fact 25 (f := .glo "SpillError") rfl), He.glo_ok X G (c.fact 30 (f := .glo "TooMany") rfl), xSub_ok hxa (by decide +kernel), xSub_ok hxa (by decide +kernel), xSub_ok hxa (by decide +kernel), xSub_ok hxa (by decide +kernel), xSub_ok hxa (by decide +kernel), xSub_ok hxa (by decide +kernel), xSub_ok hxa (by decide +kernel), xSub_ok hxa (by decide +kernel), xTab_ok hxa, xFl_ok hxa, hsy, He.free_ok X G (c.fact 35 (f := .free "ValueError") rfl), He.free_ok X G (c.fact 36 (f := .free "all") rfl), He.free_ok X G (c.fact 37 (f := .free "bool") rfl), He.free_ok X G (c.fact 38 (f := .free "int") rfl), He.free_ok X G (c.fact 39 (f := .free "isinstance") rfl), He.free_ok X G (c.fact 40 (f := .free "len") rfl), He.free_ok X G (c.fact 41 (f := .free "list") rfl), He.free_ok X G (c.fact 42 (f := .free "range") rfl), He.free_ok X G (c.fact 43 (f := .free "repr") rfl), He.free_ok X G (c.fact 44 (f := .free "sorted") rfl), He.free_ok X G (c.fact 45 (f := .free "tuple") rfl), He.free_ok X G (c.fact 46 (f := .free "zip") rfl), ⟨let ⟨t, e⟩ := He.int_ok X G (c.fact 47 (f := .int "WIDEST" 24) rfl); ⟨_, e, ⟨t, rfl⟩⟩, fun _ => .int _⟩⟩
  obtain ⟨fd_is_number, F_is_number⟩ := c.def_ 0 (d := q_is_number) rfl
  have g_is_number := He.glo_ok X G (c.fact 0 (f := .glo "is_number") rfl)
  obtain ⟨fd_is_row, F_is_row⟩ := c.def_ 1 (d := q_is_row) rfl
  have g_is_row := He.glo_ok X G (c.fact 1 (f := .glo "is_row") rfl)
  obtain ⟨fd_is_rows, F_is_rows⟩ := c.def_ 2 (d := q_is_rows) rfl
  have g_is_rows := He.glo_ok X G (c.fact 2 (f := .glo "is_rows") rfl)
  obtain ⟨fd_look, F_look⟩ := c.def_ 3 (d := q_look) rfl
  have g_look := He.glo_ok X G (c.fact 3 (f := .glo "look") rfl)
  obtain ⟨fd_less, F_less⟩ := c.def_ 4 (d := q_less) rfl
  have g_less := He.glo_ok X G (c.fact 4 (f := .glo "less") rfl)
  obtain ⟨fd_ordered, F_ordered⟩ := c.def_ 5 (d := q_ordered) rfl
  have g_ordered := He.glo_ok X G (c.fact 5 (f := .glo "ordered") rfl)
  obtain ⟨fd_is_ordered, F_is_ordered⟩ := c.def_ 6 (d := q_is_ordered) rfl
  have g_is_ordered := He.glo_ok X G (c.fact 6 (f := .glo "is_ordered") rfl)
  obtain ⟨fd_same_rows, F_same_rows⟩ := c.def_ 7 (d := q_same_rows) rfl
  have g_same_rows := He.glo_ok X G (c.fact 7 (f := .glo "same_rows") rfl)
  obtain ⟨fd_law_deck, F_law_deck⟩ := c.def_ 8 (d := q_law_deck) rfl
  have g_law_deck := He.glo_ok X G (c.fact 8 (f := .glo "_law_deck") rfl)
  obtain ⟨fd_law_next, F_law_next⟩ := c.def_ 9 (d := q_law_next) rfl
  have g_law_next := He.glo_ok X G (c.fact 9 (f := .glo "_law_next") rfl)
  obtain ⟨fd_law_whole, F_law_whole⟩ := c.def_ 10 (d := q_law_whole) rfl
  have g_law_whole := He.glo_ok X G (c.fact 10 (f := .glo "_law_whole") rfl)
  obtain ⟨fd_law_number, F_law_number⟩ := c.def_ 11 (d := q_law_number) rfl
  have g_law_number := He.glo_ok X G (c.fact 11 (f := .glo "_law_number") rfl)
  obtain ⟨fd_law_rows, F_law_rows⟩ := c.def_ 12 (d := q_law_rows) rfl
  have g_law_rows := He.glo_ok X G (c.fact 12 (f := .glo "_law_rows") rfl)
  obtain ⟨fd_law_first, F_law_first⟩ := c.def_ 13 (d := q_law_first) rfl
  have g_law_first := He.glo_ok X G (c.fact 13 (f := .glo "_law_first") rfl)
  obtain ⟨fd_law_in_order, F_law_in_order⟩ := c.def_ 14 (d := q_law_in_order) rfl
  have g_law_in_order := He.glo_ok X G (c.fact 14 (f := .glo "_law_in_order") rfl)
  obtain ⟨fd_law_same, F_law_same⟩ := c.def_ 15 (d := q_law_same) rfl
  have g_law_same := He.glo_ok X G (c.fact 15 (f := .glo "_law_same") rfl)
  obtain ⟨fd_law_alike, F_law_alike⟩ := c.def_ 16 (d := q_law_alike) rfl
  have g_law_alike := He.glo_ok X G (c.fact 16 (f := .glo "_law_alike") rfl)
  obtain ⟨fd_law_other, F_law_other⟩ := c.def_ 17 (d := q_law_other) rfl
  have g_law_other := He.glo_ok X G (c.fact 17 (f := .glo "_law_other") rfl)
  obtain ⟨fd_law_right, F_law_right⟩ := c.def_ 18 (d := q_law_right) rfl
  have g_law_right := He.glo_ok X G (c.fact 18 (f := .glo "_law_right") rfl)
  obtain ⟨fd_law_neighbours, F_law_neighbours⟩ := c.def_ 19 (d := q_law_neighbours) rfl
  have g_law_neighbours := He.glo_ok X G (c.fact 19 (f := .glo "_law_neighbours") rfl)
  obtain ⟨fd_law_no_rows, F_law_no_rows⟩ := c.def_ 20 (d := q_law_no_rows) rfl
  have g_law_no_rows := He.glo_ok X G (c.fact 20 (f := .glo "_law_no_rows") rfl)
  obtain ⟨fd_law_no_column, F_law_no_column⟩ := c.def_ 21 (d := q_law_no_column) rfl
  have g_law_no_column := He.glo_ok X G (c.fact 21 (f := .glo "_law_no_column") rfl)
  obtain ⟨fd_law_refusal, F_law_refusal⟩ := c.def_ 22 (d := q_law_refusal) rfl
  have g_law_refusal := He.glo_ok X G (c.fact 22 (f := .glo "_law_refusal") rfl)
  obtain ⟨fd_law_refused, F_law_refused⟩ := c.def_ 23 (d := q_law_refused) rfl
  have g_law_refused := He.glo_ok X G (c.fact 23 (f := .glo "_law_refused") rfl)
  obtain ⟨fd_law, F_law⟩ := c.def_ 24 (d := q_law) rfl
  have g_law := He.glo_ok X G (c.fact 24 (f := .glo "law") rfl)
  have e := hfa.symm.trans g_law
  cases e
  have b := FunD.bindsA (ps := ["_law_script"]) F_law fun _ _ _ _ _ _ us hl => match us, hl with | [_], _ => rfl
  refine ⟨hlt, fd_law, fun s v => b s [v] rfl, fun base _ _ TBs => ?_⟩
  have LT_ordered : LamT K base mg ("ordered", none) "ordered.<locals>.<lambda>" := lamT_of hlb_ordered (TBs _ (by simp [tf]))
  have O_is_number := ok_is_number (P := P) (w := w) (base := base) F_is_number T
  have D_is_number : Def P w K mg base "is_number" c_is_number 1 := ⟨_, fd_is_number, ["thing"], O_is_number, g_is_number, F_is_number.kp, F_is_number.bindsN fun _ _ _ _ _ _ us hl => match us, hl with | [_], _ => rfl⟩
  have O_less := ok_less (P := P) (w := w) (base := base) F_less T
  have D_less : Def P w K mg base "less" c_less 1 := ⟨_, fd_less, ["one", "other", "column"], O_less, g_less, F_less.kp, F_less.bindsN fun _ _ _ _ _ _ us hl => match us, hl with | [_, _, _], _ => rfl⟩
  have O_law_deck := ok_law_deck (P := P) (w := w) (base := base) F_law_deck T
  have D_law_deck : Def P w K mg base "_law_deck" c_law_deck 1 := ⟨_, fd_law_deck, ["_law_script"], O_law_deck, g_law_deck, F_law_deck.kp, F_law_deck.bindsN fun _ _ _ _ _ _ us hl => match us, hl with | [_], _ => rfl⟩
  have O_law_next := ok_law_next (P := P) (w := w) (base := base) F_law_next T
  have D_law_next : Def P w K mg base "_law_next" c_law_next 1 := ⟨_, fd_law_next, ["_law_deck_here", "_law_many"], O_law_next, g_law_next, F_law_next.kp, F_law_next.bindsN fun _ _ _ _ _ _ us hl => match us, hl with | [_, _], _ => rfl⟩
  have O_law_whole := ok_law_whole (P := P) (w := w) (base := base) F_law_whole T
  have D_law_whole : Def P w K mg base "_law_whole" c_law_whole 1 := ⟨_, fd_law_whole, ["_law_thing"], O_law_whole, g_law_whole, F_law_whole.kp, F_law_whole.bindsN fun _ _ _ _ _ _ us hl => match us, hl with | [_], _ => rfl⟩
  have O_law_first := ok_law_first (P := P) (w := w) (base := base) F_law_first T
  have D_law_first : Def P w K mg base "_law_first" c_law_first 1 := ⟨_, fd_law_first, ["_law_one", "_law_other_here", "_law_column"], O_law_first, g_law_first, F_law_first.kp, F_law_first.bindsN fun _ _ _ _ _ _ us hl => match us, hl with | [_, _, _], _ => rfl⟩
  have O_law_same := ok_law_same (P := P) (w := w) (base := base) F_law_same T
  have D_law_same : Def P w K mg base "_law_same" c_law_same 1 := ⟨_, fd_law_same, ["_law_one", "_law_other_here"], O_law_same, g_law_same, F_law_same.kp, F_law_same.bindsN fun _ _ _ _ _ _ us hl => match us, hl with | [_, _], _ => rfl⟩
  have O_is_row := ok_is_row (P := P) (w := w) (base := base) F_is_row T D_is_number
  have D_is_row : Def P w K mg base "is_row" c_is_row 2 := ⟨_, fd_is_row, ["thing"], O_is_row, g_is_row, F_is_row.kp, F_is_row.bindsN fun _ _ _ _ _ _ us hl => match us, hl with | [_], _ => rfl⟩
  have O_law_number := ok_law_number (P := P) (w := w) (base := base) F_law_number T D_law_next
  have D_law_number : Def P w K mg base "_law_number" c_law_number 2 := ⟨_, fd_law_number, ["_law_deck_here"], O_law_number, g_law_number, F_law_number.kp, F_law_number.bindsN fun _ _ _ _ _ _ us hl => match us, hl with | [_], _ => rfl⟩
  have O_law_in_order := ok_law_in_order (P := P) (w := w) (base := base) F_law_in_order T D_law_first
  have D_law_in_order : Def P w K mg base "_law_in_order" c_law_in_order 2 := ⟨_, fd_law_in_order, ["_law_rows_here", "_law_column"], O_law_in_order, g_law_in_order, F_law_in_order.kp, F_law_in_order.bindsN fun _ _ _ _ _ _ us hl => match us, hl with | [_, _], _ => rfl⟩
  have O_law_alike := ok_law_alike (P := P) (w := w) (base := base) F_law_alike T D_law_whole
  have D_law_alike : Def P w K mg base "_law_alike" c_law_alike 2 := ⟨_, fd_law_alike, ["_law_found", "_law_due"], O_law_alike, g_law_alike, F_law_alike.kp, F_law_alike.bindsN fun _ _ _ _ _ _ us hl => match us, hl with | [_, _], _ => rfl⟩
  have O_law_other := ok_law_other (P := P) (w := w) (base := base) F_law_other T D_law_next
  have D_law_other : Def P w K mg base "_law_other" c_law_other 2 := ⟨_, fd_law_other, ["_law_deck_here", "_law_rows_here"], O_law_other, g_law_other, F_law_other.kp, F_law_other.bindsN fun _ _ _ _ _ _ us hl => match us, hl with | [_, _], _ => rfl⟩
  have O_law_neighbours := ok_law_neighbours (P := P) (w := w) (base := base) F_law_neighbours T D_law_first D_less
  have D_law_neighbours : Def P w K mg base "_law_neighbours" c_law_neighbours 2 := ⟨_, fd_law_neighbours, ["_law_rows_here", "_law_column"], O_law_neighbours, g_law_neighbours, F_law_neighbours.kp, F_law_neighbours.bindsN fun _ _ _ _ _ _ us hl => match us, hl with | [_, _], _ => rfl⟩
  have O_law_no_rows := ok_law_no_rows (P := P) (w := w) (base := base) F_law_no_rows T D_law_next
  have D_law_no_rows : Def P w K mg base "_law_no_rows" c_law_no_rows 2 := ⟨_, fd_law_no_rows, ["_law_deck_here", "_law_rows_here", "_law_width"], O_law_no_rows, g_law_no_rows, F_law_no_rows.kp, F_law_no_rows.bindsN fun _ _ _ _ _ _ us hl => match us, hl with | [_, _, _], _ => rfl⟩
  have O_law_no_column := ok_law_no_column (P := P) (w := w) (base := base) F_law_no_column T D_law_next
  have D_law_no_column : Def P w K mg base "_law_no_column" c_law_no_column 2 := ⟨_, fd_law_no_column, ["_law_deck_here", "_law_rows_here", "_law_width"], O_law_no_column, g_law_no_column, F_law_no_column.kp, F_law_no_column.bindsN fun _ _ _ _ _ _ us hl => match us, hl with | [_, _, _], _ => rfl⟩
  have O_is_rows := ok_is_rows (P := P) (w := w) (base := base) F_is_rows T D_is_row
  have D_is_rows : Def P w K mg base "is_rows" c_is_rows 3 := ⟨_, fd_is_rows, ["thing"], O_is_rows, g_is_rows, F_is_rows.kp, F_is_rows.bindsN fun _ _ _ _ _ _ us hl => match us, hl with | [_], _ => rfl⟩
  have O_law_rows := ok_law_rows (P := P) (w := w) (base := base) F_law_rows T D_law_next D_law_number
  have D_law_rows : Def P w K mg base "_law_rows" c_law_rows 3 := ⟨_, fd_law_rows, ["_law_deck_here", "_law_width"], O_law_rows, g_law_rows, F_law_rows.kp, F_law_rows.bindsN fun _ _ _ _ _ _ us hl => match us, hl with | [_, _], _ => rfl⟩
  have O_look := ok_look (P := P) (w := w) (base := base) F_look T D_is_number D_is_rows
  have D_look : Def P w K mg base "look" c_look 4 := ⟨_, fd_look, ["rows", "column"], O_look, g_look, F_look.kp, F_look.bindsN fun _ _ _ _ _ _ us hl => match us, hl with | [_, _], _ => rfl⟩
  have O_same_rows := ok_same_rows (P := P) (w := w) (base := base) F_same_rows T D_is_rows
  have D_same_rows : Def P w K mg base "same_rows" c_same_rows 4 := ⟨_, fd_same_rows, ["one", "other"], O_same_rows, g_same_rows, F_same_rows.kp, F_same_rows.bindsN fun _ _ _ _ _ _ us hl => match us, hl with | [_, _], _ => rfl⟩
  have O_ordered := ok_ordered (P := P) (w := w) (base := base) F_ordered T D_look LT_ordered rfl
  have D_ordered : Def P w K mg base "ordered" c_ordered 5 := ⟨_, fd_ordered, ["rows", "column"], O_ordered, g_ordered, F_ordered.kp, F_ordered.bindsN fun _ _ _ _ _ _ us hl => match us, hl with | [_, _], _ => rfl⟩
  have O_is_ordered := ok_is_ordered (P := P) (w := w) (base := base) F_is_ordered T D_less D_look
  have D_is_ordered : Def P w K mg base "is_ordered" c_is_ordered 5 := ⟨_, fd_is_ordered, ["rows", "column"], O_is_ordered, g_is_ordered, F_is_ordered.kp, F_is_ordered.bindsN fun _ _ _ _ _ _ us hl => match us, hl with | [_, _], _ => rfl⟩
  have O_law_right := ok_law_right (P := P) (w := w) (base := base) F_law_right T D_law_in_order D_law_same D_same_rows D_is_ordered D_law_alike D_ordered
  have D_law_right : Def P w K mg base "_law_right" c_law_right 6 := ⟨_, fd_law_right, ["_law_rows_here", "_law_column", "_law_other_here"], O_law_right, g_law_right, F_law_right.kp, F_law_right.bindsN fun _ _ _ _ _ _ us hl => match us, hl with | [_, _, _], _ => rfl⟩
  have O_law_refusal := ok_law_refusal (P := P) (w := w) (base := base) F_law_refusal T D_ordered D_is_ordered D_same_rows
  have D_law_refusal : Def P w K mg base "_law_refusal" c_law_refusal 6 := ⟨_, fd_law_refusal, ["_law_way", "_law_rows_here", "_law_column"], O_law_refusal, g_law_refusal, F_law_refusal.kp, F_law_refusal.bindsN fun _ _ _ _ _ _ us hl => match us, hl with | [_, _, _], _ => rfl⟩
  have O_law_refused := ok_law_refused (P := P) (w := w) (base := base) F_law_refused T D_ordered D_is_ordered D_law_right D_law_refusal D_law_no_column D_law_no_rows
  have D_law_refused : Def P w K mg base "_law_refused" c_law_refused 7 := ⟨_, fd_law_refused, ["_law_deck_here", "_law_rows_here", "_law_width", "_law_column"], O_law_refused, g_law_refused, F_law_refused.kp, F_law_refused.bindsN fun _ _ _ _ _ _ us hl => match us, hl with | [_, _, _, _], _ => rfl⟩
  exact ok_law F_law T D_law_refused D_law_right D_law_other D_law_neighbours D_law_next D_law_rows D_law_deck
end K02
open PySem PySem.W PySem.Calls PyProof.Rows
theorem PySem.Challenge.cw_spillhall_k02_rows_in_order_holds : PySem.Challenge.rw_spillhall_k02_rows_in_order.Holds := by
  w_on; o_law
  refine HandSHeadRun.head_any (r := OpenLaw.row PySem.Challenge.rw_spillhall_k02_rows_in_order) (q := view (OpenLaw.row PySem.Challenge.rw_spillhall_k02_rows_in_order).prog [36]) (H := K02.hk) (ob := K02.ob) (M := 60000) (loose := K02.loose) (d := HandSHeadRun.topDef (OpenLaw.row PySem.Challenge.rw_spillhall_k02_rows_in_order).prog 36) (kwd := []) K02.ob_eq
    (by kernel_rfl) (fun s => by kernel_rfl) K02.run (by kernel_rfl) (by kernel_rfl) (by kernel_rfl) (by rfl) (by first | assumption | decide +kernel) (by decide +kernel) ⟨rfl, rfl, rfl, rfl, rfl, by decide +kernel⟩ ?hw ?hc
  case hw => w_witness2
  case hc =>
    refine DL.walk_DT (l := PySem.Challenge.rw_spillhall_k02_rows_in_order) (n := 63) (k := 8) (x := "_law_script") rfl (by decide) (by kernel_rfl) ⟨rfl, by decide, by decide⟩ ?F
    intro w mg fa h Y G hmg0
    obtain ⟨K, KX, c, cx, _, cte⟩ := Y
    have hmg : mg ("law" : PySem.Str) = some (.ref fa) := by
      have e : (HandSHeadRun.topDef (OpenLaw.row PySem.Challenge.rw_spillhall_k02_rows_in_order).prog 36).name = ("law" : PySem.Str) := by kernel_rfl
      rw [← e]
      exact hmg0
    obtain ⟨hlt, fd, hb, hF⟩ := K02.facts (P := (PySem.Challenge.rw_spillhall_k02_rows_in_order).prog) (w := w) KX G hmg c cx
    exact ⟨K, fd, K02.c_law, K02.tf, KX, hlt, cte, hb, fun ns om hl hbits => K02.law_start ns om hl hbits, hF⟩
