import PyProof.Rows.All
import Wide.All
import OpenK.AllK
import Wide.FinOn
import HandS.ForMost
import HandS.ForExc
import HandS.Deep
import HandS.Defaults
import HandS.CallSlots
import HandS.IsInst
import HandS.Wide
import HandS.ExcInit
import HandS.TryMany
import HandS.ExcField
import HandS.ExcIs
import HandS.Head0
import HandS.Head1
import HandS.Head2
import HandS.HeadEnd
import HandS.HeadHook1
import HandS.HeadHook2
import HandS.Lambda
import KE.KExcIs
import HandS.HeadHook4
import HandS.EndTab
import HandS.DictTup
import HandS.MakeKwOnly
import HandS.Rev
import KE.DataMinMax
import KE.KDictCopyH
import KE.KTupSum
import PySem.Challenge.RW_braemantle_k48_limits_and_distances
import KE.KExcInit
import HandS.Style
import KE.SortUse
import KE.KDictSum
import HandS.Conv
import HandS.TupLen
import HandS.NoneIn
import HandS.DictComp
import KE.SortKeyHeap
import KE.KLam
import HandS.SortKw
import HandS.Flt
import HandS.Exc
import HandS.Flow
import HandS.More
import KE.KUnpackStar
import HandS.MakeKw
import KE.KDictDisplayH
import HandS.TupSets
import HandS.SetBool
set_option Elab.async false
set_option linter.all false
set_option maxRecDepth 100000
set_option maxHeartbeats 4000000
namespace Bk
open PySem PySem.Spec PyProof.Rows L2
abbrev Ft:Type:=PySem.W.Frag → Bool
abbrev AlX:Type:=Bool × List He.FnW
def obsX (fa:List He.Fa) (xs:List Ft) (fn:List He.DefD) (K:PySem.W.Frag) : AlX:=((fa.all fun f=>f.ok K) && ((xs.all fun f=>f K) && fn.all fun d=>d.ok K),fn.map fun d=>He.fnW K d.at_)
def valX (fn:List He.DefD) : AlX:=(true,fn.map He.DefD.val)
def SaysX (fa:List He.Fa) (xs:List Ft) (fn:List He.DefD) (K:PySem.W.Frag) : Prop:=obsX fa xs fn K = valX fn
/-- a def that makes lambdas,the name that they bear -/
abbrev Tl:Type:=List (He.Defn × Str)
def tabsNd (tl:Tl) : Ft:=fun K=>decide ((tl.map fun p=>(He.cT K p.1).2).Nodup)
structure TabF (tl:Tl) (h:Heap) (K:PySem.W.Frag) : Prop where
  hd:∀ p ∈ tl,PySem.W.codeHdIn K (He.cT K p.1).1 (He.cT K p.1).2 = true
  out:∀ p ∈ tl,K.lookup (He.cT K p.1).2 = none
  emp:∀ p ∈ tl,h.get? (He.cT K p.1).2 = some { cls:=.none,data:=.fields #[] }
abbrev AlT:Type:=AlX × Bool
def obsXT (as:List Addr) (fa:List He.Fa) (xs:List Ft) (fn:List He.DefD) (tl:Tl) (g:Addr → Option Obj) : AlT:=(obsX fa xs fn (He.frT g as),He.tabsB g (tl.map (·.1)) (He.frT g as))
theorem tabF_of {as:List Addr} {tl:Tl} {h:Heap} (e:He.tabsB h.get? (tl.map (·.1)) (He.frT h.get? as) = true) : TabF tl h (He.frT h.get? as):=by
  generalize hK:He.frT h.get? as = K at *
  have key:∀ p ∈ tl,PySem.W.codeHdIn K (He.cT K p.1).1 (He.cT K p.1).2 = true ∧ ∃ o,h.get? (He.cT K p.1).2 = some o ∧ He.emptyTab o = true:=fun p hp=>by
    obtain ⟨a,b⟩:=Bool.and_eq_true_iff.mp (List.all_eq_true.mp e p.1 (List.mem_map.mpr ⟨p,hp,rfl⟩))
    refine ⟨a,?_⟩
    cases q:h.get? (He.cT K p.1).2 with
    | none=>rw [q] at b; cases b
    | some o=>rw [q] at b; exact ⟨o,rfl,b⟩
  refine ⟨fun p hp=>(key p hp).1,fun p hp=>?_,fun p hp=>?_⟩
  · obtain ⟨_,o,q,z⟩:=key p hp
    have:=He.frT_none (as:=as) q z
    rw [hK] at this
    exact this
  · obtain ⟨_,o,q,z⟩:=key p hp
    rw [q,He.emptyTab_eq z]
def hookXT (as:List Addr) (fa:List He.Fa) (xs:List Ft) (fn:List He.DefD) (tl:Tl) : PySem.W.Hook where
  α:=AlT
  obs:=fun s=>obsXT as fa xs fn tl s.heap.get?
  val:=fun _=>(valX fn,true)
  says:=fun _ h=>∃ K:PySem.W.Frag,K.In h ∧ SaysX fa xs fn K ∧ TabF tl h K
  of:=fun _ _ e=>⟨_,He.frT_in,congrArg (fun z:AlT=>z.1) e,tabF_of (congrArg (fun z:AlT=>z.2) e)⟩
  keeps:=fun _ _ _ ⟨K,hK,c,t⟩ k=>⟨K,PySem.W.Frag.In.keeps hK k,c,t.hd,t.out,fun p hp=>k _ _ (t.emp p hp)⟩
theorem obsXT_eq {as:List Addr} {fa:List He.Fa} {xs:List Ft} {fn:List He.DefD} {tl:Tl} {g:Addr → Option Obj} {s:Shared} (h:∀ a,g a = s.heap.get? a) : obsXT as fa xs fn tl g = (hookXT as fa xs fn tl).obs s:=by
  have e:g = s.heap.get?:=funext h
  rw [e]
  rfl
/-- a class of things: its fields,its methods -/
def objB (c:Str) (fs ms:List Str) : Ft:=fun K=>(He.Fa.cls c).ok K && ((fs.all fun f=>(He.Fa.noat c f).ok K) && ((ms.all fun m=>(He.Fa.meth c m).ok K) && (He.Fa.mkr c).ok K))
/-- the keyword-only default x of the def at f,if it is an object -/
def kwdAt (f:Str × Option Str) (x:Str) (K:PySem.W.Frag) : Addr:=match K.lookup (He.fAd K f) with
  | some ⟨_,_,.func fd,_⟩=>(match fd.kwdefaults with
    | .ref T=>(match PySem.W.nsIn K T x with
      | some (some (.ref a))=>a
      | _=>0)
    | _=>0)
  | _=>0
/-- an empty tuple that is a default -/
def empB (p:PySem.W.Frag → Addr) : Ft:=fun K=>match K.lookup (p K) with
  | some o=>decide (o.cls = .type "tuple") && (match o.data with
    | .seq its _=>decide (its.size = 0)
    | _=>false)
  | none=>false
/-- the three looks at the end of the run,each reckoned by itself -/
theorem three {S β γ:Type} {o:Option S} {f:S → Bool} {g:S → β} {h:S → γ} {x:Bool} {y:β} {z:γ} (a:o.map f = some x) (b:o.map g = some y) (c:o.map h = some z) : o.map (fun s=>(f s,g s,h s)) = some (x,y,z):=by
  cases o with
  | none=>cases a
  | some s=>
    have a:=Option.some.inj a
    have b:=Option.some.inj b
    have c:=Option.some.inj c
    show some (f s,g s,h s) = _
    rw [a,b,c]
end Bk
namespace K48
open PySem PySem.Spec PyProof.Rows L2 Bk
/-- the look at the law,here,where the memory is small -/
theorem looks (h:PySem.Challenge.rw_braemantle_k48_limits_and_distances.row.wellSaid = true → PySem.Challenge.rw_braemantle_k48_limits_and_distances.row.Holds) : PySem.Challenge.rw_braemantle_k48_limits_and_distances.Holds:=by
  w_on; o_law
  exact h (by assumption)
def top (i:Nat) : Stmt:=PySem.Challenge.pw_braemantle_k48_limits_and_distances.main.body.getD i (.Pass ⟨0,0,0,0⟩)
abbrev s__wall:Stmt:=top 0
abbrev N__wall:List Str:=["k"]
theorem sc__wall:FnScope N__wall ["k"] (defScope s__wall):=⟨rfl,rfl,rfl,by decide +kernel,rfl,by decide +kernel,by decide +kernel⟩
def d__wall:He.DefD:=⟨("_wall",none), "_wall", "_wall",defArgs s__wall,defBody s__wall,defScope s__wall,[],[]⟩
abbrev s_is_whole:Stmt:=top 5
abbrev N_is_whole:List Str:=["thing"]
theorem sc_is_whole:FnScope N_is_whole ["thing"] (defScope s_is_whole):=⟨rfl,rfl,rfl,by decide +kernel,rfl,by decide +kernel,by decide +kernel⟩
def d_is_whole:He.DefD:=⟨("is_whole",none), "is_whole", "is_whole",defArgs s_is_whole,defBody s_is_whole,defScope s_is_whole,[],[]⟩
abbrev s_less:Stmt:=top 7
abbrev N_less:List Str:=["one", "other"]
theorem sc_less:FnScope N_less ["one", "other"] (defScope s_less):=⟨rfl,rfl,rfl,by decide +kernel,rfl,by decide +kernel,by decide +kernel⟩
def d_less:He.DefD:=⟨("less",none), "less", "less",defArgs s_less,defBody s_less,defScope s_less,[],[]⟩
abbrev s_as_share:Stmt:=top 9
abbrev N_as_share:List Str:=["tolerance", "kept"]
theorem sc_as_share:FnScope N_as_share ["tolerance"] (defScope s_as_share):=⟨rfl,rfl,rfl,by decide +kernel,rfl,by decide +kernel,by decide +kernel⟩
def d_as_share:He.DefD:=⟨("as_share",none), "as_share", "as_share",defArgs s_as_share,defBody s_as_share,defScope s_as_share,[],[]⟩
abbrev s_as_box:Stmt:=top 10
abbrev N_as_box:List Str:=["box", "sides", "tolerance", "x", "y", "xx", "yy"]
theorem sc_as_box:FnScope N_as_box ["box"] (defScope s_as_box):=⟨rfl,rfl,rfl,by decide +kernel,rfl,by decide +kernel,by decide +kernel⟩
def d_as_box:He.DefD:=⟨("as_box",none), "as_box", "as_box",defArgs s_as_box,defBody s_as_box,defScope s_as_box,[],[]⟩
abbrev s_touches:Stmt:=top 11
abbrev N_touches:List Str:=["box", "shape", "x", "y", "xx", "yy", "tolerance", "wide", "tall"]
theorem sc_touches:FnScope N_touches ["box", "shape"] (defScope s_touches):=⟨rfl,rfl,rfl,by decide +kernel,rfl,by decide +kernel,by decide +kernel⟩
def d_touches:He.DefD:=⟨("touches",none), "touches", "touches",defArgs s_touches,defBody s_touches,defScope s_touches,[],[]⟩
abbrev s_lw_whole:Stmt:=top 14
abbrev N_lw_whole:List Str:=["_law_found"]
theorem sc_lw_whole:FnScope N_lw_whole ["_law_found"] (defScope s_lw_whole):=⟨rfl,rfl,rfl,by decide +kernel,rfl,by decide +kernel,by decide +kernel⟩
def d_lw_whole:He.DefD:=⟨("_law_whole",none), "_law_whole", "_law_whole",defArgs s_lw_whole,defBody s_lw_whole,defScope s_lw_whole,[],[]⟩
abbrev s_lw_same:Stmt:=top 15
abbrev N_lw_same:List Str:=["_law_found", "_law_due", "_law_k"]
theorem sc_lw_same:FnScope N_lw_same ["_law_found", "_law_due"] (defScope s_lw_same):=⟨rfl,rfl,rfl,by decide +kernel,rfl,by decide +kernel,by decide +kernel⟩
def d_lw_same:He.DefD:=⟨("_law_same",none), "_law_same", "_law_same",defArgs s_lw_same,defBody s_lw_same,defScope s_lw_same,[],[]⟩
abbrev s_lw_bag:Stmt:=top 16
abbrev N_lw_bag:List Str:=["_law_script"]
theorem sc_lw_bag:FnScope N_lw_bag ["_law_script"] (defScope s_lw_bag):=⟨rfl,rfl,rfl,by decide +kernel,rfl,by decide +kernel,by decide +kernel⟩
def d_lw_bag:He.DefD:=⟨("_law_bag",none), "_law_bag", "_law_bag",defArgs s_lw_bag,defBody s_lw_bag,defScope s_lw_bag,[],[]⟩
abbrev s_lw_draw:Stmt:=top 17
abbrev N_lw_draw:List Str:=["_law_bag_here", "_law_many", "_law_cells", "_law_at", "_law_cell"]
theorem sc_lw_draw:FnScope N_lw_draw ["_law_bag_here", "_law_many"] (defScope s_lw_draw):=⟨rfl,rfl,rfl,by decide +kernel,rfl,by decide +kernel,by decide +kernel⟩
def d_lw_draw:He.DefD:=⟨("_law_draw",none), "_law_draw", "_law_draw",defArgs s_lw_draw,defBody s_lw_draw,defScope s_lw_draw,[],[]⟩
abbrev s_lw_plan:Stmt:=top 18
abbrev N_lw_plan:List Str:=["_law_bag_here", "_law_menu"]
theorem sc_lw_plan:FnScope N_lw_plan ["_law_bag_here"] (defScope s_lw_plan):=⟨rfl,rfl,rfl,by decide +kernel,rfl,by decide +kernel,by decide +kernel⟩
def d_lw_plan:He.DefD:=⟨("_law_plan",none), "_law_plan", "_law_plan",defArgs s_lw_plan,defBody s_lw_plan,defScope s_lw_plan,[],[]⟩
abbrev s_lw_roots:Stmt:=top 19
abbrev N_lw_roots:List Str:=["_law_plan_here", "_law_found", "_law_side", "_law_i", "_law_j", "_law_x", "_law_y"]
theorem sc_lw_roots:FnScope N_lw_roots ["_law_plan_here"] (defScope s_lw_roots):=⟨rfl,rfl,rfl,by decide +kernel,rfl,by decide +kernel,by decide +kernel⟩
def d_lw_roots:He.DefD:=⟨("_law_roots",none), "_law_roots", "_law_roots",defArgs s_lw_roots,defBody s_lw_roots,defScope s_lw_roots,[],[]⟩
abbrev s_lw_middle:Stmt:=top 20
abbrev N_lw_middle:List Str:=["_law_shape_here"]
theorem sc_lw_middle:FnScope N_lw_middle ["_law_shape_here"] (defScope s_lw_middle):=⟨rfl,rfl,rfl,by decide +kernel,rfl,by decide +kernel,by decide +kernel⟩
def d_lw_middle:He.DefD:=⟨("_law_middle",none), "_law_middle", "_law_middle",defArgs s_lw_middle,defBody s_lw_middle,defScope s_lw_middle,[],[]⟩
abbrev s_lw_halves:Stmt:=top 21
abbrev N_lw_halves:List Str:=["_law_shape_here", "_law_at", "_law_one", "_law_two"]
theorem sc_lw_halves:FnScope N_lw_halves ["_law_shape_here"] (defScope s_lw_halves):=⟨rfl,rfl,rfl,by decide +kernel,rfl,by decide +kernel,by decide +kernel⟩
def d_lw_halves:He.DefD:=⟨("_law_halves",none), "_law_halves", "_law_halves",defArgs s_lw_halves,defBody s_lw_halves,defScope s_lw_halves,[],[]⟩
abbrev s_lw_corners_of:Stmt:=top 22
abbrev N_lw_corners_of:List Str:=["_law_shape_here"]
theorem sc_lw_corners_of:FnScope N_lw_corners_of ["_law_shape_here"] (defScope s_lw_corners_of):=⟨rfl,rfl,rfl,by decide +kernel,rfl,by decide +kernel,by decide +kernel⟩
def d_lw_corners_of:He.DefD:=⟨("_law_corners_of",none), "_law_corners_of", "_law_corners_of",defArgs s_lw_corners_of,defBody s_lw_corners_of,defScope s_lw_corners_of,[],[]⟩
abbrev s_lw_low:Stmt:=top 23
abbrev N_lw_low:List Str:=["_law_gain", "_law_base", "_law_one", "_law_two", "_law_rest"]
theorem sc_lw_low:FnScope N_lw_low ["_law_gain", "_law_base"] (defScope s_lw_low):=⟨rfl,rfl,rfl,by decide +kernel,rfl,by decide +kernel,by decide +kernel⟩
def d_lw_low:He.DefD:=⟨("_law_low",none), "_law_low", "_law_low",defArgs s_lw_low,defBody s_lw_low,defScope s_lw_low,[],[]⟩
abbrev s_lw_tolerance:Stmt:=top 24
abbrev N_lw_tolerance:List Str:=["_law_bag_here", "_law_kind"]
theorem sc_lw_tolerance:FnScope N_lw_tolerance ["_law_bag_here"] (defScope s_lw_tolerance):=⟨rfl,rfl,rfl,by decide +kernel,rfl,by decide +kernel,by decide +kernel⟩
def d_lw_tolerance:He.DefD:=⟨("_law_tolerance",none), "_law_tolerance", "_law_tolerance",defArgs s_lw_tolerance,defBody s_lw_tolerance,defScope s_lw_tolerance,[],[]⟩
abbrev s_lw_sight:Stmt:=top 25
abbrev N_lw_sight:List Str:=["_law_bag_here", "_law_plan_here", "_law_spot", "_law_rooms", "_law_k", "_law_sides"]
theorem sc_lw_sight:FnScope N_lw_sight ["_law_bag_here", "_law_plan_here"] (defScope s_lw_sight):=⟨rfl,rfl,rfl,by decide +kernel,rfl,by decide +kernel,by decide +kernel⟩
def d_lw_sight:He.DefD:=⟨("_law_sight",none), "_law_sight", "_law_sight",defArgs s_lw_sight,defBody s_lw_sight,defScope s_lw_sight,[],[]⟩
abbrev s_lw_limit:Stmt:=top 26
abbrev N_lw_limit:List Str:=["_law_sight_here", "_law_shape_here", "_law_best", "_law_box", "_law_wide", "_law_tall"]
theorem sc_lw_limit:FnScope N_lw_limit ["_law_sight_here", "_law_shape_here"] (defScope s_lw_limit):=⟨rfl,rfl,rfl,by decide +kernel,rfl,by decide +kernel,by decide +kernel⟩
def d_lw_limit:He.DefD:=⟨("_law_limit",none), "_law_limit", "_law_limit",defArgs s_lw_limit,defBody s_lw_limit,defScope s_lw_limit,[],[]⟩
abbrev s_lw_far:Stmt:=top 27
abbrev N_lw_far:List Str:=["_law_sight_here", "_law_shape_here", "_law_x", "_law_y", "_law_at"]
theorem sc_lw_far:FnScope N_lw_far ["_law_sight_here", "_law_shape_here"] (defScope s_lw_far):=⟨rfl,rfl,rfl,by decide +kernel,rfl,by decide +kernel,by decide +kernel⟩
def d_lw_far:He.DefD:=⟨("_law_far",none), "_law_far", "_law_far",defArgs s_lw_far,defBody s_lw_far,defScope s_lw_far,[],[]⟩
abbrev s_lw_shape:Stmt:=top 28
abbrev N_lw_shape:List Str:=["_law_bag_here", "_law_plan_here", "_law_some", "_law_shape_here", "_law_turn"]
theorem sc_lw_shape:FnScope N_lw_shape ["_law_bag_here", "_law_plan_here"] (defScope s_lw_shape):=⟨rfl,rfl,rfl,by decide +kernel,rfl,by decide +kernel,by decide +kernel⟩
def d_lw_shape:He.DefD:=⟨("_law_shape",none), "_law_shape", "_law_shape",defArgs s_lw_shape,defBody s_lw_shape,defScope s_lw_shape,[],[]⟩
abbrev s_lw_view:Stmt:=top 29
abbrev N_lw_view:List Str:=["_law_bag_here", "_law_sight_here", "_law_top", "_law_spot", "_law_rooms"]
theorem sc_lw_view:FnScope N_lw_view ["_law_bag_here", "_law_sight_here"] (defScope s_lw_view):=⟨rfl,rfl,rfl,by decide +kernel,rfl,by decide +kernel,by decide +kernel⟩
def d_lw_view:He.DefD:=⟨("_law_view",none), "_law_view", "_law_view",defArgs s_lw_view,defBody s_lw_view,defScope s_lw_view,[],[]⟩
abbrev s_lw_holds:Stmt:=top 30
abbrev N_lw_holds:List Str:=["_law_view_here", "_law_sight_here", "_law_some", "_law_good", "_law_shape_here"]
theorem sc_lw_holds:FnScope N_lw_holds ["_law_view_here", "_law_sight_here", "_law_some"] (defScope s_lw_holds):=⟨rfl,rfl,rfl,by decide +kernel,rfl,by decide +kernel,by decide +kernel⟩
def d_lw_holds:He.DefD:=⟨("_law_holds",none), "_law_holds", "_law_holds",defArgs s_lw_holds,defBody s_lw_holds,defScope s_lw_holds,[],[]⟩
abbrev s_law:Stmt:=top 31
abbrev N_law:List Str:=["_law_script", "_law_bag_here", "_law_plan_here", "_law_sight_here", "_law_some", "_law_k", "_law_good", "_law_handed", "_law_view_here", "_law_more", "_law_whole_box"]
theorem sc_law:FnScope N_law ["_law_script"] (defScope s_law):=⟨rfl,rfl,rfl,by decide +kernel,rfl,by decide +kernel,by decide +kernel⟩
def d_law:He.DefD:=⟨("law",none), "law", "law",defArgs s_law,defBody s_law,defScope s_law,[],[]⟩
abbrev s_View_init:Stmt:=inClass (top 12) 0
abbrev N_View_init:List Str:=["self", "tolerance", "eye", "boxes", "box"]
theorem sc_View_init:FnScope N_View_init ["self", "tolerance", "eye", "boxes"] (defScope s_View_init):=⟨rfl,rfl,rfl,by decide +kernel,rfl,by decide +kernel,by decide +kernel⟩
def d_View_init:He.DefD:=⟨("View",some "__init__"), "__init__", "View.__init__",defArgs s_View_init,defBody s_View_init,defScope s_View_init,[],[("eye",.non),("boxes",.adr (kwdAt ("View",some "__init__") "boxes"))]⟩
abbrev s_View_limit:Stmt:=inClass (top 12) 1
abbrev N_View_limit:List Str:=["self", "shape", "best", "box"]
theorem sc_View_limit:FnScope N_View_limit ["self", "shape"] (defScope s_View_limit):=⟨rfl,rfl,rfl,by decide +kernel,rfl,by decide +kernel,by decide +kernel⟩
def d_View_limit:He.DefD:=⟨("View",some "limit"), "limit", "View.limit",defArgs s_View_limit,defBody s_View_limit,defScope s_View_limit,[],[]⟩
abbrev s_View_far:Stmt:=inClass (top 12) 2
abbrev N_View_far:List Str:=["self", "shape", "x", "y", "k"]
theorem sc_View_far:FnScope N_View_far ["self", "shape"] (defScope s_View_far):=⟨rfl,rfl,rfl,by decide +kernel,rfl,by decide +kernel,by decide +kernel⟩
def d_View_far:He.DefD:=⟨("View",some "far"), "far", "View.far",defArgs s_View_far,defBody s_View_far,defScope s_View_far,[],[]⟩
abbrev s_View_init__o:Stmt:=s_View_init
abbrev N_View_init__o:List Str:=N_View_init
theorem sc_View_init__o:FnScope N_View_init__o ["self", "tolerance", "eye", "boxes"] (defScope s_View_init__o):=sc_View_init
abbrev d_View_init__o:He.DefD:=d_View_init
def fnL:List He.DefD:=[d__wall,d_is_whole,d_less,d_as_share,d_as_box,d_touches,d_lw_whole,d_lw_same,d_lw_bag,d_lw_draw,d_lw_plan,d_lw_roots,d_lw_middle,d_lw_halves,d_lw_corners_of,d_lw_low,d_lw_tolerance,d_lw_sight,d_lw_limit,d_lw_far,d_lw_shape,d_lw_view,d_lw_holds,d_law,d_View_init,d_View_limit,d_View_far]
def tlL:Tl:=[]
def xsL:List Ft:=[tabsNd tlL,objB "View" ["tolerance", "eye", "boxes"] ["__init__", "limit", "far"],empB (kwdAt ("View",some "__init__") "boxes")]
def faL:List He.Fa:=[.glo "_wall",.glo "is_whole",.glo "less",.glo "as_share",.glo "as_box",.glo "touches",.glo "_law_whole",.glo "_law_same",.glo "_law_bag",.glo "_law_draw",.glo "_law_plan",.glo "_law_roots",.glo "_law_middle",.glo "_law_halves",.glo "_law_corners_of",.glo "_law_low",.glo "_law_tolerance",.glo "_law_sight",.glo "_law_limit",.glo "_law_far",.glo "_law_shape",.glo "_law_view",.glo "_law_holds",.glo "law",.free "int",.free "isinstance",.free "bool",.free "min",.free "max",.free "str",.free "tuple",.free "list",.free "len",.free "range",.free "abs",.free "sum",.glo "View"]
abbrev Rw:PySem.W.OpenRow:=PySem.W.OpenLaw.row PySem.Challenge.rw_braemantle_k48_limits_and_distances
/-- where the things stand that the names reach -/
def adL:List Addr:=[3,6,4,21,31,51,60,67,74,81,88,124,135,142,149,156,163,170,177,184,191,198,205,212,219,224,231,238,245,250] ++ [0,20,30,50,59,66,73,80,87,123,134,141,148,155,162,169,176,183,190,197,204,211,218,223,230,237,244,249,15,16] ++ [17,18,19,29,32,48,49,54,55,56,57,58,61,62,63,64,65,68,69,70,71,72,75,76,77,78,79,82,83,84] ++ [85,86,102,109,114,121,122,125,126,129,130,131,132,133,136,137,138,139,140,143,144,145,146,147,150,151,152,153,154,157] ++ [158,159,160,161,164,165,166,167,168,171,172,173,174,175,178,179,180,181,182,185,186,187,188,189,192,193,194,195,196,199] ++ [200,201,202,203,206,207,208,209,210,213,214,215,216,217,220,221,222,225,226,227,228,229,232,233,234,235,236,239,240,241] ++ [242,243,246,247,248,47,101,97,108,113,120,42,43,44,45,46,98,99,100,96,103,104,105,106,107,110,111,112,115,116] ++ [117,118,119]
abbrev hk:PySem.W.Hook:=hookXT adL faL xsL fnL tlL
def ob (s:PySem.W.SharedT) : AlT:=obsXT adL faL xsL fnL tlL (HandSHeadRun.getT s)
theorem ob_eq (s:PySem.W.SharedT) : ob s = hk.obs s.abs:=obsXT_eq (HandSHeadRun.getT_eq s)
def loose:List PySem.Str:=["_wall", "LandError", "BadView", "is_whole", "less", "as_share", "as_box", "touches", "View", "_law_whole", "_law_same", "_law_bag", "_law_draw", "_law_plan", "_law_roots", "_law_middle", "_law_halves", "_law_corners_of", "_law_low", "_law_tolerance", "_law_sight", "_law_limit", "_law_far", "_law_shape", "_law_view", "_law_holds"]
open HandSHeadRun PySem.W in
noncomputable def runE (w:World) (os:PySem.OsState) : Option SharedT:=endF (stepQ (denQ tabQ) Rw.prog w) 6500 Rw.prog w os
open HandSHeadRun PySem.W in
theorem runA (w:World) (os:PySem.OsState) : (runE w os).map (fun s=>looksF Rw.prog (boot_heap w.params) s.abs) = some true:=by
  kernel_rfl
open HandSHeadRun PySem.W in
theorem runB (w:World) (os:PySem.OsState) : (runE w os).map (fun s=>seenQ (PySem.W.view Rw.prog [31]) loose (importedModules Rw.prog.main.body) (fun s=>xlAt (PySem.W.view Rw.prog [31]) [] s && recOk Rw.toRowW.records s) s.abs) = some (openGood (PySem.W.view Rw.prog [31]) loose):=by
  kernel_rfl
theorem runC (w:World) (os:PySem.OsState) : (runE w os).map (fun s=>ob s) = some (hk.val w):=by
  kernel_rfl
theorem run (w:World) : HandSHeadRun.RunEq Rw (PySem.W.view Rw.prog [31]) hk ob 6500 loose w:=by
  intro os
  exact three (runA w os) (runB w os) (runC w os)
open PySem.W in
set_option maxHeartbeats 0 in
/-- the head,here,where the memory is small: all but the walk -/
theorem heads (said:Rw.wellSaid = true) (hc:PySem.W.WalkO (PySem.W.view Rw.prog [31]) loose (PySem.W.XL (PySem.W.view Rw.prog [31]) []) hk.says Rw.toRowW (HandSHeadRun.topDef Rw.prog 31) [] fun f vs=>PySem.call f vs) : Rw.Holds:=by
  refine HandSHeadRun.head_any (r:=Rw) (q:=PySem.W.view Rw.prog [31]) (H:=hk) (ob:=ob) (M:=6500) (loose:=loose) (d:=HandSHeadRun.topDef Rw.prog 31) (kwd:=[]) ob_eq
    (by kernel_rfl) (fun s=>by kernel_rfl) run (by kernel_rfl) (by kernel_rfl) (by kernel_rfl) (by rfl) (by first | assumption | decide +kernel) (by decide +kernel) ⟨rfl,rfl,rfl,rfl,rfl,by decide +kernel⟩ ?hw hc
  case hw=>w_witness2
end K48
namespace Bk
open PySem PySem.Spec PyProof.Rows L2
inductive D where
  | non | bl (b:Bool) | int (i:Int) | str (x:Str)
  | tup (xs:List D) | lst (xs:List D)
  | dct (ks:List (List Key)) (vs:List D)
  | obj (c:Str) (ns:List Str) (vs:List D)
  /-- a dict whose keys are texts -/
  | rcd (ns:List Str) (vs:List D)
  /-- the cell k of the store -/
  | ptr (k:Nat)
instance:Inhabited D:=⟨.non⟩
/-- the mark of the cell k; of a cell's own dict -/
def mkP (k:Nat) : HO:=.met k 0
/-- the mark of the cell k while it is lent: with what stands there -/
def objI (k:Nat) : Obj:={ cls:=.none,data:=.fields #[.int k 0] }
def mkL (k:Nat) (ob:Obj) (w:HO) : HO:=.frz (objI k) (.frz ob w)
def isMk:HO → Bool
  | .met _ _=>true
  | .frz _ (.frz _ _)=>true
  | _=>false
/-- what stands at a lent cell -/
def lentO:HO → Option HO
  | .frz _ (.frz ob w)=>some (.frz ob w)
  | _=>none
theorem mkL_inj {i k:Nat} {ob ob':Obj} {w w':HO} (h:mkL i ob w = mkL k ob' w') : i = k ∧ ob = ob' ∧ w = w':=by
  unfold mkL at h
  injection h with h1 h2
  injection h2 with h3 h4
  refine ⟨?_,h3,h4⟩
  unfold objI at h1
  simp at h1
  omega
theorem mkL_ne {i k:Nat} {ob:Obj} {w:HO} : mkL i ob w ≠ mkP k:=fun h=>by cases h
theorem mkP_inj {i k:Nat} (h:mkP i = mkP k) : i = k:=by injection h
/-- where the classes stand -/
class Cls where
  ga:Str → Addr
  /-- the tables of code objects,with the name that their code objects bear -/
  tabs:List (Addr × Str)
  /-- tuples that the module holds as defaults,with a mark for each: .non for an empty one -/
  emps:List (Addr × D)
variable [Cls]
mutual
inductive Rep (F:Hp) : D → V → Prop
  | non:Rep F .non .non
  | bl (b:Bool) : Rep F (.bl b) (.bl b)
  | int (i:Int) : Rep F (.int i) (.int i)
  | str (x:Str) : Rep F (.str x) (.str x)
  | tup {ds:List D} {vs:List V} {a:Addr} : F a = some (.tup vs) → Reps F ds vs → Rep F (.tup ds) (.ref a)
  | lst {ds:List D} {vs:List V} {a:Addr} : F a = some (.lst vs) → Reps F ds vs → Rep F (.lst ds) (.ref a)
  | dct {ks:List (List Key)} {ds:List D} {vs:List V} {a:Addr} {o:Obj} : F a = some (.frz o (.dT (ks.zip vs))) → ks.length = vs.length → Reps F ds vs → Rep F (.dct ks ds) (.ref a)
  | obj {c:Str} {ns:List Str} {ds:List D} {vs:List V} {a dx:Addr} : F a = some (.ins (Cls.ga c) dx (ns.zip vs)) → ns.length = vs.length → Reps F ds vs → Rep F (.obj c ns ds) (.ref a)
  | emp {a:Addr} {d:D} : (a,d) ∈ Cls.emps → Rep F (.obj "()" [] [d]) (.ref a)
  | ptr {k:Nat} {a:Addr} : F a = some (mkP k) → Rep F (.ptr k) (.ref a)
  | ptrL {k:Nat} {a:Addr} {ob:Obj} {w:HO} : F a = some (mkL k ob w) → Rep F (.ptr k) (.ref a)
  | rcd {ns:List Str} {ds:List D} {vs:List V} {a:Addr} {o:Obj} : F a = some (.frz o (.dK ((ns.map (Sum.inr:Str → Key)).zip vs))) → ns.length = vs.length → Reps F ds vs → Rep F (.rcd ns ds) (.ref a)
inductive Reps (F:Hp) : List D → List V → Prop
  | nil:Reps F [] []
  | cons {d:D} {ds:List D} {v:V} {vs:List V} : Rep F d v → Reps F ds vs → Reps F (d :: ds) (v :: vs)
end
mutual
theorem Rep.mono {F F':Hp} (h:Same F F') : ∀ {d:D} {v:V},Rep F d v → Rep F' d v
  | _,_,.non=>.non
  | _,_,.bl b=>.bl b
  | _,_,.int i=>.int i
  | _,_,.str x=>.str x
  | _,_,.tup e r=>.tup (h _ _ e) (Reps.mono h r)
  | _,_,.lst e r=>.lst (h _ _ e) (Reps.mono h r)
  | _,_,.dct e l r=>.dct (h _ _ e) l (Reps.mono h r)
  | _,_,.obj e l r=>.obj (h _ _ e) l (Reps.mono h r)
  | _,_,.emp e=>.emp e
  | _,_,.ptr e=>.ptr (h _ _ e)
  | _,_,.ptrL e=>.ptrL (h _ _ e)
  | _,_,.rcd e l r=>.rcd (h _ _ e) l (Reps.mono h r)
theorem Reps.mono {F F':Hp} (h:Same F F') : ∀ {ds:List D} {vs:List V},Reps F ds vs → Reps F' ds vs
  | _,_,.nil=>.nil
  | _,_,.cons r t=>.cons (Rep.mono h r) (Reps.mono h t)
end
theorem Reps.len {F:Hp} : ∀ {ds:List D} {vs:List V},Reps F ds vs → ds.length = vs.length
  | _,_,.nil=>rfl
  | _,_,.cons _ t=>congrArg Nat.succ (Reps.len t)
theorem Reps.get {F:Hp} : ∀ {ds:List D} {vs:List V} {i:Nat} {d:D},Reps F ds vs → ds[i]? = some d → ∃ v,vs[i]? = some v ∧ Rep F d v
  | _,_,_,_,.nil,e=>by simp at e
  | _,_,0,_,.cons r _,e=>by simp at e; subst e; exact ⟨_,rfl,r⟩
  | _,_,i + 1,d,.cons r t,e=>by
    obtain ⟨v,h1,h2⟩:=Reps.get (i:=i) (d:=d) t (by simpa using e)
    exact ⟨v,by simpa using h1,h2⟩
theorem Reps.app {F:Hp} : ∀ {ds es:List D} {vs ws:List V},Reps F ds vs → Reps F es ws → Reps F (ds ++ es) (vs ++ ws)
  | _,_,_,_,.nil,s=>s
  | _,_,_,_,.cons r t,s=>.cons r (Reps.app t s)
theorem Reps.set {F:Hp} {d:D} {v:V} (r:Rep F d v) : ∀ {ds:List D} {vs:List V} (i:Nat),Reps F ds vs → Reps F (ds.set i d) (vs.set i v)
  | _,_,_,.nil=>.nil
  | _,_,0,.cons _ t=>.cons r t
  | _,_,i + 1,.cons q t=>.cons q (Reps.set r i t)
theorem Reps.take {F:Hp} : ∀ {ds:List D} {vs:List V} (n:Nat),Reps F ds vs → Reps F (ds.take n) (vs.take n)
  | _,_,0,_=>.nil
  | _,_,_ + 1,.nil=>.nil
  | _,_,n + 1,.cons r t=>.cons r (Reps.take n t)
theorem Reps.drop {F:Hp} : ∀ {ds:List D} {vs:List V} (n:Nat),Reps F ds vs → Reps F (ds.drop n) (vs.drop n)
  | _,_,0,r=>r
  | _,_,_ + 1,.nil=>.nil
  | _,_,n + 1,.cons _ t=>Reps.drop n t
/-- kinds of an own object's fields -/
inductive Kd where
  | fr | ol | od
  deriving DecidableEq
inductive Ty where
  /-- fixed for good -/
  | fr
  /-- a list that is this frame's own,of fixed things -/
  | ol
  /-- a dict that is this frame's own,of fixed things -/
  | od
  /-- a law's bag of draws -/
  | bag
  /-- an own instance of the class c; the kinds of its fields -/
  | ob (c:Str) (ks:List (Str × Kd))
  /-- an own list of own lists of fixed things -/
  | ll
  /-- an own list,or a fixed thing -/
  | xl
  /-- an own dict,or a fixed thing -/
  | xd
  /-- a fixed thing that is not set -/
  | ln
  deriving DecidableEq
/-- the mark of an own list in such a slot -/
def ownL (ds:List D) : D:=.obj "" [] ds
def ownD (ks:List (List Key)) (ds:List D) : D:=.obj "" [] [.dct ks ds]
def isOwn:D → Bool
  | .obj _ [] _=>true
  | _=>false
def kdOf (ks:List (Str × Kd)) (x:Str) : Kd:=match ks.find? (fun p=>p.1 == x) with
  | some p=>p.2
  | none=>.fr
def AtOl (F H:Hp) (d:D) (v:V) (p:Addr) : Prop:=∃ (ds:List D) (vs:List V),d = .lst ds ∧ v = .ref p ∧ H p = some (.lst vs) ∧ Reps F ds vs
def AtOd (F H:Hp) (d:D) (v:V) (p:Addr) : Prop:=∃ (ks:List (List Key)) (ds:List D) (vs:List V),d = .dct ks ds ∧ v = .ref p ∧ H p = some (.dT (ks.zip vs)) ∧ ks.length = vs.length ∧ Reps F ds vs
def AtK (F H:Hp) : Kd → D → V → List Addr → Prop
  | .fr,d,v,B=>Rep F d v ∧ B = []
  | .ol,d,v,B=>∃ p,AtOl F H d v p ∧ B = [p]
  | .od,d,v,B=>∃ p,AtOd F H d v p ∧ B = [p]
/-- fields with what they own,apart from each other -/
inductive AtFs (F H:Hp) (ks:List (Str × Kd)) : List Str → List D → List V → List Addr → Prop
  | nil:AtFs F H ks [] [] [] []
  | cons {x:Str} {ns:List Str} {d:D} {ds:List D} {v:V} {vs:List V} {B Bs:List Addr} : AtK F H (kdOf ks x) d v B → AtFs F H ks ns ds vs Bs → (∀ a ∈ B,a ∉ Bs) → AtFs F H ks (x :: ns) (d :: ds) (v :: vs) (B ++ Bs)
inductive AtLs (F H:Hp) : List D → List V → List Addr → Prop
  | nil:AtLs F H [] [] []
  | cons {d:D} {ds:List D} {v:V} {vs:List V} {p:Addr} {Bs:List Addr} : AtOl F H d v p → AtLs F H ds vs Bs → p ∉ Bs → AtLs F H (d :: ds) (v :: vs) (p :: Bs)
def At (F H:Hp) : Ty → D → V → List Addr → Prop
  | .fr,d,v,B=>Rep F d v ∧ B = []
  | .ln,d,v,B=>Rep F d v ∧ B = []
  | .ol,d,v,B=>∃ (p:Addr) (ds:List D) (vs:List V),d = .lst ds ∧ v = .ref p ∧ H p = some (.lst vs) ∧ Reps F ds vs ∧ B = [p]
  | .od,d,v,B=>∃ (p:Addr) (ks:List (List Key)) (ds:List D) (vs:List V),d = .dct ks ds ∧ v = .ref p ∧ H p = some (.dT (ks.zip vs)) ∧ ks.length = vs.length ∧ Reps F ds vs ∧ B = [p]
  | .bag,d,v,B=>∃ (b c:Addr) (ns:List Int) (k z:Int),d = .tup [.lst (ns.map D.int),.int k,.int z] ∧ v = .ref b ∧ H b = some (.lst [.ref c,.int k,.int z]) ∧ H c = some (.lst (ns.map V.int)) ∧ ns.length ≤ 63 ∧ B = [b,c]
  | .ob c ks,d,v,B=>∃ (p dx:Addr) (ns:List Str) (ds:List D) (vs:List V) (Bs:List Addr),d = .obj c ns ds ∧ v = .ref p ∧ H p = some (.ins (Cls.ga c) dx (ns.zip vs)) ∧ H dx = some (.own p) ∧ ns.length = vs.length ∧ AtFs F H ks ns ds vs Bs ∧ p ∉ Bs ∧ dx ∉ Bs ∧ p ≠ dx ∧ B = p :: dx :: Bs
  | .ll,d,v,B=>∃ (p:Addr) (ds:List D) (vs:List V) (Bs:List Addr),d = .lst ds ∧ v = .ref p ∧ H p = some (.lst vs) ∧ AtLs F H ds vs Bs ∧ p ∉ Bs ∧ B = p :: Bs
  | .xl,d,v,B=>(isOwn d = false ∧ Rep F d v ∧ B = []) ∨ ∃ (p:Addr) (ds:List D) (vs:List V),d = ownL ds ∧ v = .ref p ∧ H p = some (.lst vs) ∧ Reps F ds vs ∧ B = [p]
  | .xd,d,v,B=>(isOwn d = false ∧ Rep F d v ∧ B = []) ∨ ∃ (p:Addr) (ks:List (List Key)) (ds:List D) (vs:List V),d = ownD ks ds ∧ v = .ref p ∧ H p = some (.dT (ks.zip vs)) ∧ ks.length = vs.length ∧ Reps F ds vs ∧ B = [p]
/-- a thing that is no tuple stands at a -/
noncomputable def tupO:HO → Bool
  | .tup _=>true
  | .tbl _=>true
  | .ext φ=>@decide (∃ c q,HO.ext φ = LamX.CodeO c q) (Classical.propDecidable _)
  | _=>false
theorem tupO_code (c:Addr) (q:Str) : tupO (LamX.CodeO c q) = true:=@decide_eq_true _ (Classical.propDecidable _) ⟨c,q,rfl⟩
/-- the tables stand,and are not fixed -/
def TbOk (F H:Hp) : Prop:=LamX.Tabs Cls.tabs H ∧ ∀ q ∈ Cls.tabs,F q.1 = none
theorem TbOk.at {F H:Hp} (t:TbOk F H) {q:Addr × Str} (hq:q ∈ Cls.tabs) : ∃ ps,H q.1 = some (.tbl ps):=by
  obtain ⟨ps,h,_⟩:=t.1 q hq
  exact ⟨ps,h⟩
theorem TbOk.ne {F H:Hp} (t:TbOk F H) {a:Addr} (h:∀ ps,H a ≠ some (.tbl ps)) : ∀ q ∈ Cls.tabs,a ≠ q.1:=fun q hq z=>by
  obtain ⟨ps,e⟩:=t.at hq
  exact h ps (by rw [z]; exact e)
theorem TbOk.no {F H:Hp} (t:TbOk F H) {a:Addr} {o:HO} (h:H a = some o) (ho:∀ ps,o ≠ .tbl ps:=by intro _ z; cases z) : ∀ q ∈ Cls.tabs,a ≠ q.1:=t.ne fun ps e=>ho ps (Option.some.inj (h.symm.trans e))
theorem TbOk.neF {F H:Hp} (t:TbOk F H) {a:Addr} {o:HO} (h:F a = some o) : ∀ q ∈ Cls.tabs,a ≠ q.1:=fun q hq z=>by
  rw [z,t.2 q hq] at h
  cases h
theorem TbOk.new {F H:Hp} (t:TbOk F H) {a:Addr} (h:H a = none) : ∀ q ∈ Cls.tabs,a ≠ q.1:=t.ne fun ps e=>by rw [h] at e; cases e
theorem TbOk.fixF {F H:Hp} (t:TbOk F H) {a:Addr} {o:HO} (h:∀ q ∈ Cls.tabs,a ≠ q.1) : TbOk (L2.upd F a o) H:=⟨t.1,fun q hq=>by rw [upd_ne (Ne.symm (h q hq))]; exact t.2 q hq⟩
theorem TbOk.ext {F H H':Hp} (t:TbOk F H) (e:∀ b o,H b = some o → H' b = some o) : TbOk F H':=⟨t.1.ext e,t.2⟩
theorem TbOk.lay {F H:Hp} (t:TbOk F H) {a:Addr} {o:HO} (h:H a = none) : TbOk F (L2.upd H a o):=t.ext fun b u e=>by rw [upd_ne (ne_of_none e h)]; exact e
/-- what is no table and no code object is changed -/
theorem TbOk.chg {F H H':Hp} (t:TbOk F H) (e:∀ b o,H b = some o → tupO o = true → H' b = some o) : TbOk F H':=⟨fun q hq=>by
  obtain ⟨ps,h1,h2,h3⟩:=t.1 q hq
  refine ⟨ps,e _ _ h1 rfl,h2,fun pos cv hc=>?_⟩
  obtain ⟨c,e1,e2⟩:=h3 pos cv hc
  exact ⟨c,e1,e _ _ e2 (tupO_code _ _)⟩,t.2⟩
def Nt (H:Hp) (a:Addr) : Prop:=∃ o,H a = some o ∧ tupO o = false
theorem Nt.ne {H:Hp} {a:Addr} (h:Nt H a) : H a ≠ none:=by
  obtain ⟨o,e,_⟩:=h
  rw [e]
  exact Option.some_ne_none _
theorem Nt.ntab {F H:Hp} {a:Addr} (h:Nt H a) (t:TbOk F H) : ∀ q ∈ Cls.tabs,a ≠ q.1:=t.ne fun ps e=>by
  obtain ⟨o,e1,e2⟩:=h
  rw [e1] at e
  cases e
  cases e2
theorem TbOk.own {F H:Hp} (t:TbOk F H) {a:Addr} {o:HO} (h:Nt H a) : TbOk F (L2.upd H a o):=t.chg fun b u e q=>by
  by_cases z:b = a
  · obtain ⟨o',e1,e2⟩:=h
    rw [z,e1] at e
    cases e
    rw [q] at e2
    cases e2
  · rw [upd_ne z]; exact e
theorem Nt.upd {H:Hp} {a p:Addr} {o:HO} (h:Nt H a) (hp:H p = none) : Nt (L2.upd H p o) a:=by
  obtain ⟨u,e,t⟩:=h
  exact ⟨u,by rw [upd_ne (ne_of_none e hp)]; exact e,t⟩
theorem Nt.ner {H:Hp} {a p:Addr} {o:HO} (h:Nt H a) (hp:a ≠ p) : Nt (L2.upd H p o) a:=by
  obtain ⟨u,e,t⟩:=h
  exact ⟨u,by rw [upd_ne hp]; exact e,t⟩
theorem Nt.upd' {H:Hp} {a p:Addr} {o:HO} (h:Nt H a) (ho:tupO o = false) : Nt (L2.upd H p o) a:=by
  by_cases z:a = p
  · rw [z]; exact ⟨o,upd_same,ho⟩
  · obtain ⟨u,e,t⟩:=h
    exact ⟨u,by rw [upd_ne z]; exact e,t⟩
theorem AtOl.mono {F F' H H':Hp} {d:D} {v:V} {p:Addr} (h:Same F F') (x:AtOl F H d v p) (k:∀ o,H p = some o → H' p = some o) : AtOl F' H' d v p:=by
  obtain ⟨ds,vs,e1,e2,e3,r⟩:=x
  exact ⟨ds,vs,e1,e2,k _ e3,r.mono h⟩
theorem AtOd.mono {F F' H H':Hp} {d:D} {v:V} {p:Addr} (h:Same F F') (x:AtOd F H d v p) (k:∀ o,H p = some o → H' p = some o) : AtOd F' H' d v p:=by
  obtain ⟨ks,ds,vs,e1,e2,e3,l,r⟩:=x
  exact ⟨ks,ds,vs,e1,e2,k _ e3,l,r.mono h⟩
theorem AtK.mono {F F' H H':Hp} (h:Same F F') : ∀ {t:Kd} {d:D} {v:V} {B:List Addr},AtK F H t d v B → (∀ a ∈ B,∀ o,H a = some o → H' a = some o) → AtK F' H' t d v B
  | .fr,_,_,_,⟨r,e⟩,_=>⟨r.mono h,e⟩
  | .ol,_,_,_,⟨p,x,e⟩,q=>⟨p,x.mono h (q p (by rw [e]; exact List.mem_singleton.mpr rfl)),e⟩
  | .od,_,_,_,⟨p,x,e⟩,q=>⟨p,x.mono h (q p (by rw [e]; exact List.mem_singleton.mpr rfl)),e⟩
theorem AtFs.mono {F F' H H':Hp} {ks:List (Str × Kd)} (h:Same F F') {ns:List Str} {ds:List D} {vs:List V} {B:List Addr} (x:AtFs F H ks ns ds vs B) : (∀ a ∈ B,∀ o,H a = some o → H' a = some o) → AtFs F' H' ks ns ds vs B:=by
  induction x with
  | nil=>exact fun _=>.nil
  | cons a t n ih=>exact fun k=>.cons (a.mono h fun b hb=>k b (List.mem_append_left _ hb)) (ih fun b hb=>k b (List.mem_append_right _ hb)) n
theorem AtLs.mono {F F' H H':Hp} (h:Same F F') {ds:List D} {vs:List V} {B:List Addr} (x:AtLs F H ds vs B) : (∀ a ∈ B,∀ o,H a = some o → H' a = some o) → AtLs F' H' ds vs B:=by
  induction x with
  | nil=>exact fun _=>.nil
  | cons a t n ih=>exact fun k=>.cons (a.mono h (k _ List.mem_cons_self)) (ih fun b hb=>k b (List.mem_cons_of_mem _ hb)) n
theorem AtK.there {F H:Hp} : ∀ {t:Kd} {d:D} {v:V} {B:List Addr},AtK F H t d v B → ∀ a ∈ B,Nt H a
  | .fr,_,_,_,⟨_,e⟩,a,ha=>by rw [e] at ha; cases ha
  | .ol,_,_,_,⟨p,⟨ds,vs,e1,e2,e3,r⟩,e4⟩,a,ha=>by rw [e4] at ha; rw [List.mem_singleton.mp ha]; exact ⟨_,e3,rfl⟩
  | .od,_,_,_,⟨p,⟨ks,ds,vs,e1,e2,e3,l,r⟩,e4⟩,a,ha=>by rw [e4] at ha; rw [List.mem_singleton.mp ha]; exact ⟨_,e3,rfl⟩
theorem AtFs.there {F H:Hp} {ks:List (Str × Kd)} {ns:List Str} {ds:List D} {vs:List V} {B:List Addr} (x:AtFs F H ks ns ds vs B) : ∀ a ∈ B,Nt H a:=by
  induction x with
  | nil=>exact fun _ h=>by cases h
  | cons a t n ih=>exact fun b hb=>(List.mem_append.mp hb).elim (a.there b) (ih b)
theorem AtLs.there {F H:Hp} {ds:List D} {vs:List V} {B:List Addr} (x:AtLs F H ds vs B) : ∀ a ∈ B,Nt H a:=by
  induction x with
  | nil=>exact fun _ h=>by cases h
  | cons a t n ih=>
    obtain ⟨_,_,_,_,e3,_⟩:=a
    exact fun b hb=>(List.mem_cons.mp hb).elim (fun z=>by rw [z]; exact ⟨_,e3,rfl⟩) (ih b)
theorem AtFs.len {F H:Hp} {ks:List (Str × Kd)} {ns:List Str} {ds:List D} {vs:List V} {B:List Addr} (x:AtFs F H ks ns ds vs B) : ds.length = ns.length ∧ vs.length = ns.length:=by
  induction x with
  | nil=>exact ⟨rfl,rfl⟩
  | cons a t n ih=>exact ⟨congrArg Nat.succ ih.1,congrArg Nat.succ ih.2⟩
theorem At.mono {F F' H H':Hp} (h:Same F F') : ∀ {t:Ty} {d:D} {v:V} {B:List Addr},At F H t d v B → (∀ a ∈ B,∀ o,H a = some o → H' a = some o) → At F' H' t d v B
  | .fr,_,_,_,⟨r,e⟩,_=>⟨r.mono h,e⟩
  | .ln,_,_,_,⟨r,e⟩,_=>⟨r.mono h,e⟩
  | .ol,_,_,_,⟨p,ds,vs,e1,e2,e3,r,e4⟩,k=>⟨p,ds,vs,e1,e2,k p (by rw [e4]; exact List.mem_singleton.mpr rfl) _ e3,r.mono h,e4⟩
  | .od,_,_,_,⟨p,ks,ds,vs,e1,e2,e3,l,r,e4⟩,k=>⟨p,ks,ds,vs,e1,e2,k p (by rw [e4]; exact List.mem_singleton.mpr rfl) _ e3,l,r.mono h,e4⟩
  | .bag,_,_,_,⟨b,c,ns,k,z,e1,e2,e3,e4,l,e5⟩,q=>⟨b,c,ns,k,z,e1,e2,q b (by rw [e5]; simp) _ e3,q c (by rw [e5]; simp) _ e4,l,e5⟩
  | .ob c ks,_,_,_,⟨p,dx,ns,ds,vs,Bs,e1,e2,e3,e4,l,x,n1,n2,n3,e5⟩,q=>⟨p,dx,ns,ds,vs,Bs,e1,e2,q p (by rw [e5]; simp) _ e3,q dx (by rw [e5]; simp) _ e4,l,x.mono h fun a ha=>q a (by rw [e5]; simp [ha]),n1,n2,n3,e5⟩
  | .ll,_,_,_,⟨p,ds,vs,Bs,e1,e2,e3,x,n1,e5⟩,q=>⟨p,ds,vs,Bs,e1,e2,q p (by rw [e5]; simp) _ e3,x.mono h fun a ha=>q a (by rw [e5]; simp [ha]),n1,e5⟩
  | .xl,_,_,_,.inl ⟨o,r,e⟩,_=>.inl ⟨o,r.mono h,e⟩
  | .xl,_,_,_,.inr ⟨p,ds,vs,e1,e2,e3,r,e4⟩,k=>.inr ⟨p,ds,vs,e1,e2,k p (by rw [e4]; exact List.mem_singleton.mpr rfl) _ e3,r.mono h,e4⟩
  | .xd,_,_,_,.inl ⟨o,r,e⟩,_=>.inl ⟨o,r.mono h,e⟩
  | .xd,_,_,_,.inr ⟨p,ks,ds,vs,e1,e2,e3,l,r,e4⟩,k=>.inr ⟨p,ks,ds,vs,e1,e2,k p (by rw [e4]; exact List.mem_singleton.mpr rfl) _ e3,l,r.mono h,e4⟩
/-- what it owns stands -/
theorem At.there {F H:Hp} : ∀ {t:Ty} {d:D} {v:V} {B:List Addr},At F H t d v B → ∀ a ∈ B,Nt H a
  | .fr,_,_,_,⟨_,e⟩,a,ha=>by rw [e] at ha; cases ha
  | .ln,_,_,_,⟨_,e⟩,a,ha=>by rw [e] at ha; cases ha
  | .ol,_,_,_,⟨p,ds,vs,e1,e2,e3,r,e4⟩,a,ha=>by rw [e4] at ha; rw [List.mem_singleton.mp ha]; exact ⟨_,e3,rfl⟩
  | .od,_,_,_,⟨p,ks,ds,vs,e1,e2,e3,l,r,e4⟩,a,ha=>by rw [e4] at ha; rw [List.mem_singleton.mp ha]; exact ⟨_,e3,rfl⟩
  | .bag,_,_,_,⟨b,c,ns,k,z,e1,e2,e3,e4,l,e5⟩,a,ha=>by
    rw [e5] at ha
    rcases List.mem_cons.mp ha with q | q
    · rw [q]; exact ⟨_,e3,rfl⟩
    · rw [List.mem_singleton.mp q]; exact ⟨_,e4,rfl⟩
  | .ob c ks,_,_,_,⟨p,dx,ns,ds,vs,Bs,e1,e2,e3,e4,l,x,n1,n2,n3,e5⟩,a,ha=>by
    rw [e5] at ha
    rcases List.mem_cons.mp ha with q | q
    · rw [q]; exact ⟨_,e3,rfl⟩
    · rcases List.mem_cons.mp q with q | q
      · rw [q]; exact ⟨_,e4,rfl⟩
      · exact x.there a q
  | .ll,_,_,_,⟨p,ds,vs,Bs,e1,e2,e3,x,n1,e5⟩,a,ha=>by
    rw [e5] at ha
    rcases List.mem_cons.mp ha with q | q
    · rw [q]; exact ⟨_,e3,rfl⟩
    · exact x.there a q
  | .xl,_,_,_,.inl ⟨_,_,e⟩,a,ha=>by rw [e] at ha; cases ha
  | .xl,_,_,_,.inr ⟨p,ds,vs,e1,e2,e3,r,e4⟩,a,ha=>by rw [e4] at ha; rw [List.mem_singleton.mp ha]; exact ⟨_,e3,rfl⟩
  | .xd,_,_,_,.inl ⟨_,_,e⟩,a,ha=>by rw [e] at ha; cases ha
  | .xd,_,_,_,.inr ⟨p,ks,ds,vs,e1,e2,e3,l,r,e4⟩,a,ha=>by rw [e4] at ha; rw [List.mem_singleton.mp ha]; exact ⟨_,e3,rfl⟩
/-- keys of a dict that are no tuples -/
def kD:Key → D
  | .inl i=>.int i
  | .inr x=>.str x
/-- what a cell holds at a; what it takes -/
def AtC (F H:Hp) (a:Addr) (c:D) (B:List Addr) : Prop:=
  (∃ (ds:List D) (vs:List V),c = .lst ds ∧ H a = some (.lst vs) ∧ Reps F ds vs ∧ B = [a]) ∨
  (∃ (ks:List (List Key)) (ds:List D) (vs:List V),c = .dct ks ds ∧ H a = some (.dT (ks.zip vs)) ∧ ks.length = vs.length ∧ Reps F ds vs ∧ B = [a]) ∨
  (∃ (ks:List Key) (ds:List D) (vs:List V),c = .tup [.dct (ks.map fun k=>[k]) ds] ∧ H a = some (.dK (ks.zip vs)) ∧ ks.length = vs.length ∧ Reps F ds vs ∧ B = [a]) ∨
  (∃ (n:Str) (ns:List Str) (ds:List D) (vs:List V) (dx:Addr),c = .obj n ns ds ∧ H a = some (.ins (Cls.ga n) dx (ns.zip vs)) ∧ H dx = some (.own a) ∧ ns.length = vs.length ∧ Reps F ds vs ∧ a ≠ dx ∧ B = [a,dx]) ∨
  (∃ (k:Nat) (ob:Obj) (ks:List (List Key)) (ds:List D) (vs:List V),c = .tup [.dct ks ds,.bl true] ∧ F a = some (mkL k ob (.dT (ks.zip vs))) ∧ ks.length = vs.length ∧ Reps F ds vs ∧ B = []) ∨
  (∃ (k:Nat) (ob:Obj) (ks:List Key) (ds:List D) (vs:List V),c = .tup [.tup [.dct (ks.map fun k=>[k]) ds],.bl true] ∧ F a = some (mkL k ob (.dK (ks.zip vs))) ∧ ks.length = vs.length ∧ Reps F ds vs ∧ B = []) ∨
  (∃ (k:Nat) (ob:Obj) (ds:List D) (vs:List V),c = .tup [.lst ds,.bl true] ∧ F a = some (mkL k ob (.lst vs)) ∧ Reps F ds vs ∧ B = [])
def isLent:D → Bool
  | .tup [_,.bl true]=>true
  | _=>false
theorem AtC.mono {F F' H H':Hp} (h:Same F F') {a:Addr} {c:D} {B:List Addr} (x:AtC F H a c B) (k:∀ b ∈ B,∀ o,H b = some o → H' b = some o) : AtC F' H' a c B:=by
  rcases x with ⟨ds,vs,e1,e2,r,e3⟩ | ⟨ks,ds,vs,e1,e2,l,r,e3⟩ | ⟨ks,ds,vs,e1,e2,l,r,e3⟩ | ⟨n,ns,ds,vs,dx,e1,e2,e4,l,r,q,e3⟩ | ⟨i,ob,ks,ds,vs,e1,e2,l,r,e3⟩ | ⟨i,ob,ks,ds,vs,e1,e2,l,r,e3⟩ | ⟨i,ob,ds,vs,e1,e2,r,e3⟩
  · exact .inl ⟨ds,vs,e1,k a (by rw [e3]; exact List.mem_singleton.mpr rfl) _ e2,r.mono h,e3⟩
  · exact .inr (.inl ⟨ks,ds,vs,e1,k a (by rw [e3]; exact List.mem_singleton.mpr rfl) _ e2,l,r.mono h,e3⟩)
  · exact .inr (.inr (.inl ⟨ks,ds,vs,e1,k a (by rw [e3]; exact List.mem_singleton.mpr rfl) _ e2,l,r.mono h,e3⟩))
  · exact .inr (.inr (.inr (.inl ⟨n,ns,ds,vs,dx,e1,k a (by rw [e3]; simp) _ e2,k dx (by rw [e3]; simp) _ e4,l,r.mono h,q,e3⟩)))
  · exact .inr (.inr (.inr (.inr (.inl ⟨i,ob,ks,ds,vs,e1,h _ _ e2,l,r.mono h,e3⟩))))
  · exact .inr (.inr (.inr (.inr (.inr (.inl ⟨i,ob,ks,ds,vs,e1,h _ _ e2,l,r.mono h,e3⟩)))))
  · exact .inr (.inr (.inr (.inr (.inr (.inr ⟨i,ob,ds,vs,e1,h _ _ e2,r.mono h,e3⟩)))))
/-- the store that a frame holds -/
structure Cells (F H:Hp) (cs:List D) (B:List Addr) (as:Nat → Addr) (bs:Nat → List Addr) : Prop where
  mks:∀ a i,(F a = some (mkP i) ∨ ∃ ob w,F a = some (mkL i ob w)) ↔ i < cs.length ∧ as i = a
  unl:∀ i c,cs[i]? = some c → isLent c = false → F (as i) = some (mkP i)
  at_:∀ i c,cs[i]? = some c → AtC F H (as i) c (bs i)
  dis:∀ i j b,i < cs.length → j < cs.length → b ∈ bs i → b ∈ bs j → i = j
  mem:∀ b,b ∈ B ↔ ∃ i,i < cs.length ∧ b ∈ bs i
  mkd:∀ b ∈ B,∃ o,F b = some o ∧ isMk o = true ∧ lentO o = none
def StOk (F H:Hp) (o:Option (Option D)) (B:List Addr) : Prop:=match o with
  | some (some (.lst cs))=>∃ as bs,Cells F H cs B as bs
  | _=>B = []
theorem StOk.mono {F F' H H':Hp} {o:Option (Option D)} {B:List Addr} (x:StOk F H o B) (h:Same F F') (hm:∀ a o,F' a = some o → isMk o = true → F a = some o ∨ a ∈ B) (k:∀ b ∈ B,∀ u,H b = some u → H' b = some u) : StOk F' H' o B:=by
  have other:∀ q:Option (Option D),(∀ cs,q ≠ some (some (.lst cs))) → StOk F H q B → StOk F' H' q B:=fun q hq y=>by
    unfold StOk at y ⊢
    split
    · rename_i cs
      exact absurd rfl (hq cs)
    · split at y
      · rename_i cs _
        exact absurd rfl (hq cs)
      · exact y
  rcases o with _ | _ | d
  · exact other _ (fun _ z=>by cases z) x
  · exact other _ (fun _ z=>by cases z) x
  · cases d
    case lst cs=>
      obtain ⟨as,bs,C⟩:=(show ∃ as bs,Cells F H cs B as bs from x)
      have old:∀ a o,F' a = some o → isMk o = true → F a = some o:=fun a o e ho=>by
        rcases hm a o e ho with z | z
        · exact z
        · obtain ⟨u,e1,e2⟩:=C.mkd a z
          rw [←e,h _ _ e1]
          exact e1
      refine ⟨as,bs,fun a i=>⟨fun e=>(C.mks a i).mp ?_,fun e=>((C.mks a i).mpr e).imp (h _ _) fun ⟨ob,w,q⟩=>⟨ob,w,h _ _ q⟩⟩,fun i c e hl=>h _ _ (C.unl i c e hl),fun i c e=>(C.at_ i c e).mono h fun b hb=>k b ((C.mem b).mpr ⟨i,(List.getElem?_eq_some_iff.mp e).1,hb⟩),C.dis,C.mem,fun b hb=>?_⟩
      · exact e.imp (fun q=>old a _ q rfl) fun ⟨ob,w,q⟩=>⟨ob,w,old a _ q rfl⟩
      · obtain ⟨u,e1,e2⟩:=C.mkd b hb
        exact ⟨u,h _ _ e1,e2⟩
    all_goals exact other _ (fun _ z=>by cases z) x
abbrev Env:=List (Option D)
abbrev Sl:=L2.St
abbrev Fp:=Nat → List Addr
abbrev Lk:=Addr → Option Obj
def lk (L:Lk) (a:Addr) (o:HO) : HO:=match L a with
  | none=>o
  | some ob=>.frz ob o
abbrev L0:Lk:=fun _=>none
/-- from one moment to a later one: what is fixed stays,what is not owned stays,what is owned is owned or new -/
structure Stp (L:Lk) (F:Hp) (fp:Fp) (H F':Hp) (fp':Fp) (H':Hp) : Prop where
  f:Same F F'
  keep:∀ a o,H a = some o → (∀ q ∈ Cls.tabs,a ≠ q.1) → (∀ i,a ∉ fp i) → H' a = some (lk L a o)
  new:∀ i a,a ∈ fp' i → (∃ j,a ∈ fp j) ∨ H a = none
  nof:∀ a,Nt H a → F a = none → (∀ i,a ∉ fp i) → F' a = none
  there:∀ a,H a ≠ none → H' a ≠ none
  nt:∀ a,Nt H a → Nt H' a
  tab:TbOk F H → TbOk F' H'
theorem Stp.refl (F:Hp) (fp:Fp) (H:Hp) : Stp L0 F fp H F fp H:=⟨Same.refl F,fun _ _ e _ _=>e,fun i _ h=>.inl ⟨i,h⟩,fun _ _ e _=>e,fun _ h=>h,fun _ h=>h,fun t=>t⟩
theorem Stp.trans {L:Lk} {F F1 F2 H H1 H2:Hp} {fp fp1 fp2:Fp} (x:Stp L F fp H F1 fp1 H1) (y:Stp L0 F1 fp1 H1 F2 fp2 H2) : Stp L F fp H F2 fp2 H2:=by
  have out:∀ a o,H a = some o → (∀ i,a ∉ fp i) → ∀ i,a ∉ fp1 i:=fun a o e n i hi=>by
    rcases x.new i a hi with ⟨j,hj⟩ | z
    · exact n j hj
    · rw [e] at z; cases z
  refine ⟨x.f.trans y.f,fun a o e z n=>y.keep a _ (x.keep a o e z n) z (out a o e n),fun i a hi=>?_,fun a h0 e n=>?_,fun a h=>y.there a (x.there a h),fun a h=>y.nt a (x.nt a h),fun t=>y.tab (x.tab t)⟩
  · rcases y.new i a hi with ⟨j,hj⟩ | z
    · exact x.new j a hj
    · exact .inr (Classical.byContradiction fun q=>x.there a q z)
  · obtain ⟨o,eo,_⟩:=id h0
    exact y.nof a (x.nt a h0) (x.nof a h0 e n) (out a o eo n)
/-- the ground of a body of n parameters: the entry -/
structure Gr (n:Nat) where
  σ:Sl
  F:Hp
  fp:Fp
  H:Hp
  /-- the locks that are held; those of them that this body took -/
  L:Lk
  N:Lk
  /-- the frame holds the store -/
  sf:Bool:=false
/-- what a fixed thing is in the heap; a marked one stands and is no tuple -/
abbrev ExO (L:Lk) (H:Hp) (a:Addr) (o:HO) : Prop:=(isMk o = false → H a = some (lk L a o)) ∧ (isMk o = true → Nt H a) ∧ ∀ u,lentO o = some u → H a = some u
theorem ExO.eq {L:Lk} {H H':Hp} {a:Addr} {o:HO} (x:ExO L H a o) (h:H' a = H a) : ExO L H' a o:=⟨fun m=>by rw [h]; exact x.1 m,fun m=>(by obtain ⟨u,e,z⟩:=x.2.1 m; exact ⟨u,by rw [h]; exact e,z⟩),fun u e=>by rw [h]; exact x.2.2 u e⟩
theorem ExO.ne {L:Lk} {H:Hp} {a:Addr} {o:HO} (x:ExO L H a o) : H a ≠ none:=by
  cases z:isMk o with
  | false=>rw [x.1 z]; exact Option.some_ne_none _
  | true=>exact (x.2.1 z).ne
def isDct:HO → Bool
  | .dT _=>true
  | .dK _=>true
  | _=>false
structure Rel {n:Nat} (G:Gr n) (Γ : List Ty) (s:Env) (σ:Sl) (F:Hp) (fp:Fp) (H:Hp) : Prop where
  ls:Γ.length ≤ s.length
  lσ:σ.length = Γ.length
  slot:∀ (i:Nat) (t:Ty) (d:D),Γ[i]? = some t → s[i]? = some (some d) → ∃ v,σ[i]? = some (some v) ∧ At F H t d v (fp i)
  dis:∀ i j a,a ∈ fp i → a ∈ fp j → i = j
  nF:∀ i a,a ∈ fp i → F a = none ∨ i = Γ.length
  oh:∀ i a,a ∈ fp i → Nt H a
  ext:∀ a o,F a = some o → ExO G.L H a o
  lkd:∀ a ob,G.L a = some ob → ∃ o,F a = some o ∧ isDct o = true
  stp:Stp G.N G.F G.fp G.H F fp H
  par:∀ i:Nat,i < n → Γ[i]? ≠ some .fr → σ[i]? = G.σ[i]?
  loc:∀ i a,a ∈ fp i → G.H a = none ∨ ((i < n ∨ i = Γ.length) ∧ a ∈ G.fp i)
  tb:TbOk F H
  sto:StOk F H s[Γ.length]? (fp Γ.length)
  nmk:G.sf = false → ∀ a o,F a = some o → isMk o = true → G.F a = some o
theorem ne_len {Γ : List Ty} {i:Nat} {t:Ty} (h:Γ[i]? = some t) : i ≠ Γ.length:=Nat.ne_of_lt (List.getElem?_eq_some_iff.mp h).1
theorem Rel.nFt {n:Nat} {G:Gr n} {Γ : List Ty} {s:Env} {σ:Sl} {F H:Hp} {fp:Fp} (R:Rel G Γ s σ F fp H) {i:Nat} (h:i < Γ.length) {a:Addr} (ha:a ∈ fp i) : F a = none:=(R.nF i a ha).resolve_right (Nat.ne_of_lt h)
theorem Rel.nFs {n:Nat} {G:Gr n} {Γ : List Ty} {s:Env} {σ:Sl} {F H:Hp} {fp:Fp} (R:Rel G Γ s σ F fp H) {i:Nat} {t:Ty} (h:Γ[i]? = some t) {a:Addr} (ha:a ∈ fp i) : F a = none:=R.nFt (List.getElem?_eq_some_iff.mp h).1 ha
theorem Rel.locN {n:Nat} {G:Gr n} {Γ : List Ty} {s:Env} {σ:Sl} {F H:Hp} {fp:Fp} (R:Rel G Γ s σ F fp H) {i:Nat} {t:Ty} (h:Γ[i]? = some t) (hn:n ≤ i) {a:Addr} (ha:a ∈ fp i) : G.H a = none:=(R.loc i a ha).elim id fun z=>z.1.elim (fun q=>absurd q (Nat.not_lt.mpr hn)) fun q=>absurd (List.getElem?_eq_some_iff.mp h).1 (by omega)
/-- what is owned is not fixed,or is marked -/
theorem Rel.nFm {n:Nat} {G:Gr n} {Γ : List Ty} {s:Env} {σ:Sl} {F H:Hp} {fp:Fp} (R:Rel G Γ s σ F fp H) {i:Nat} {a:Addr} (ha:a ∈ fp i) {o:HO} (e:F a = some o) : i = Γ.length ∧ isMk o = true ∧ lentO o = none:=by
  rcases R.nF i a ha with z | z
  · rw [z] at e; cases e
  · subst z
    refine ⟨rfl,?_⟩
    have x:=R.sto
    unfold StOk at x
    split at x
    · obtain ⟨_,_,C⟩:=x
      obtain ⟨u,e1,e2⟩:=C.mkd a ha
      rw [e1] at e
      cases e
      exact e2
    · rw [x] at ha; cases ha
theorem Rel.nowF {n:Nat} {G:Gr n} {Γ : List Ty} {s:Env} {σ:Sl} {F H:Hp} {fp:Fp} (R:Rel G Γ s σ F fp H) {p:Addr} (hp:H p = none) : F p = none:=by
  cases q:F p with
  | none=>rfl
  | some u=>
    exact absurd hp (R.ext p u q).ne
theorem Rel.at {n:Nat} {G:Gr n} {Γ : List Ty} {s:Env} {σ:Sl} {F H:Hp} {fp:Fp} (R:Rel G Γ s σ F fp H) {a:Addr} {o:HO} (e:F a = some o) (h:isDct o = false) (hm:isMk o = false:=by rfl) : H a = some o:=by
  have q:=(R.ext a o e).1 hm
  unfold lk at q
  cases z:G.L a with
  | none=>rw [z] at q; exact q
  | some ob=>
    obtain ⟨o',e',h'⟩:=R.lkd a ob z
    rw [e] at e'
    cases e'
    rw [h] at h'
    cases h'
/-- nothing of the slots has changed,the rest has gone on -/
theorem Rel.step {n:Nat} {G:Gr n} {Γ : List Ty} {s:Env} {σ:Sl} {F F' H H':Hp} {fp:Fp} (R:Rel G Γ s σ F fp H) (x:Stp L0 F fp H F' fp H') (own:∀ i a,a ∈ fp i → ∀ o,H a = some o → H' a = some o)
    (nF:∀ i a,a ∈ fp i → F' a = none ∨ i = Γ.length) (ext:∀ a o,F a = none → F' a = some o → isMk o = false ∧ H' a = some o) : Rel G Γ s σ F' fp H':=by
  have mks:∀ a o,F' a = some o → isMk o = true → F a = some o:=fun a o e hm=>by
    cases q:F a with
    | none=>
      have:=(ext a o q e).1
      rw [hm] at this
      cases this
    | some o'=>rw [←e]; exact (x.f a o' q).symm
  refine ⟨R.ls,R.lσ,fun i t d ht hs=>?_,R.dis,nF,fun i a h=>x.nt a (R.oh i a h),fun a o e=>⟨fun hm=>?_,fun hm=>x.nt a ((R.ext a o (mks a o e hm)).2.1 hm),fun u eu=>?_⟩,fun a ob e=>?_,R.stp.trans x,R.par,R.loc,x.tab R.tb,R.sto.mono x.f (fun a o e h=>.inl (mks a o e h)) (own _),fun hs a o e hm=>R.nmk hs a o (mks a o e hm) hm⟩
  · obtain ⟨v,h1,h2⟩:=R.slot i t d ht hs
    exact ⟨v,h1,h2.mono x.f (own i)⟩
  · cases q:F a with
    | none=>
      have z:=(ext a o q e).2
      unfold lk
      cases zL:G.L a with
      | none=>exact z
      | some ob=>
        obtain ⟨o',e',_⟩:=R.lkd a ob zL
        rw [q] at e'
        cases e'
    | some o'=>
      have e2:=x.f a o' q
      rw [e] at e2
      cases e2
      refine x.keep a _ ((R.ext a o q).1 hm) (R.tb.neF q) fun i hi=>?_
      have:=(R.nFm hi q).2.1
      rw [hm] at this
      cases this
  · have hm:isMk o = true:=by
      unfold lentO at eu
      split at eu
      · rfl
      · cases eu
    have q:=mks a o e hm
    refine x.keep a u ((R.ext a o q).2.2 u eu) (R.tb.neF q) fun i hi=>?_
    rw [(R.nFm hi q).2.2] at eu
    cases eu
  · obtain ⟨o,e1,e2⟩:=R.lkd a ob e
    exact ⟨o,x.f a o e1,e2⟩
/-- what has come to be fixed meanwhile -/
theorem Rel.newX {n:Nat} {G:Gr n} {Γ : List Ty} {s:Env} {σ:Sl} {F F' H H':Hp} {fp:Fp} (R:Rel G Γ s σ F fp H) (nm:∀ a o,F' a = some o → isMk o = true → F a = some o) {a:Addr} {o:HO} (ex:ExO G.L H' a o) (e1:F a = none) (e2:F' a = some o) : isMk o = false ∧ H' a = some o:=by
  have hm:isMk o = false:=by
    cases hm:isMk o with
    | false=>rfl
    | true=>
      have:=nm a o e2 hm
      rw [e1] at this
      cases this
  refine ⟨hm,?_⟩
  have z:=ex.1 hm
  unfold lk at z
  cases zL:G.L a with
  | none=>rw [zL] at z; exact z
  | some ob=>
    obtain ⟨o',e',_⟩:=R.lkd a ob zL
    rw [e1] at e'
    cases e'
/-- a new thing is laid and fixed -/
theorem Rel.fix {n:Nat} {G:Gr n} {Γ : List Ty} {s:Env} {σ:Sl} {F H:Hp} {fp:Fp} (R:Rel G Γ s σ F fp H) {p:Addr} {o:HO} (hp:H p = none) (hm:isMk o = false:=by rfl) : Rel G Γ s σ (upd F p o) fp (upd H p o) ∧ Stp L0 F fp H (upd F p o) fp (upd H p o):=by
  have fp0:F p = none:=R.nowF hp
  have hne:∀ {a u},H a = some u → a ≠ p:=fun {a u} e=>ne_of_none e hp
  have np:∀ i a,a ∈ fp i → a ≠ p:=fun i a h e=>(R.oh i a h).ne (by rw [e]; exact hp)
  have x:Stp L0 F fp H (upd F p o) fp (upd H p o):=by
    refine ⟨fun a u e=>?_,fun a u e _ _=>?_,fun i a h=>.inl ⟨i,h⟩,fun a h e _=>?_,fun a h=>?_,fun a h=>h.upd hp,fun t=>(t.lay hp).fixF (t.new hp)⟩
    · rw [upd_ne (ne_of_none e fp0)]; exact e
    · rw [upd_ne (hne e)]; exact e
    · obtain ⟨u,eu,_⟩:=h
      rw [upd_ne (hne eu)]; exact e
    · obtain ⟨u,eu⟩:=Option.ne_none_iff_exists'.mp h
      rw [upd_ne (hne eu)]; exact h
  refine ⟨R.step x (fun i a h u e=>?_) (fun i a h=>?_) (fun a u e1 e2=>?_),x⟩
  · rw [upd_ne (hne e)]; exact e
  · rw [upd_ne (np i a h)]; exact R.nF i a h
  · by_cases z:a = p
    · subst z; rw [upd_same] at e2 ⊢; cases e2; exact ⟨hm,rfl⟩
    · rw [upd_ne z,e1] at e2; cases e2
end Bk
namespace Bk
open PySem PySem.Spec PyProof.Rows L2
variable [Cls]
/-- an own exception: its class's name,its fields' names and values -/
structure Err where
  c:Str
  ns:List Str
  vs:List D
inductive R (α:Type) where
  | ok (a:α) (s:Env)
  | err (e:Err) (s:Env)
  | stuck
def R.bind {α β:Type} (r:R α) (k:α → Env → R β) : R β:=match r with
  | .ok a s=>k a s
  | .err e s=>.err e s
  | .stuck=>.stuck
@[simp] theorem R.bind_ok {α β:Type} (a:α) (s:Env) (k:α → Env → R β) : (R.ok a s).bind k = k a s:=rfl
@[simp] theorem R.bind_err {α β:Type} (e:Err) (s:Env) (k:α → Env → R β) : (R.err e s:R α).bind k = .err e s:=rfl
@[simp] theorem R.bind_stuck {α β:Type} (k:α → Env → R β) : (R.stuck:R α).bind k = .stuck:=rfl
def R.opt {α:Type} (o:Option α) (s:Env) : R α:=match o with
  | some a=>.ok a s
  | none=>.stuck
@[simp] theorem R.opt_some {α:Type} (a:α) (s:Env) : R.opt (some a) s = .ok a s:=rfl
@[simp] theorem R.opt_none {α:Type} (s:Env) : (R.opt (none:Option α) s) = .stuck:=rfl
abbrev M:=Env → R D
abbrev MB:=Env → R Bool
abbrev MA:=Env → R (List D)
def ErrAt (K:PySem.W.Frag) (F:Hp) (e:Err) (cls:Value) (od:Option Addr) : Prop:=cls = .ref (He.ga K e.c) ∧
  ((e.ns = [] ∧ od = none) ∨ ∃ (d:Addr) (ws:List V),e.ns ≠ [] ∧ od = some d ∧ F d = some (.xd (e.ns.zip ws)) ∧ e.ns.length = ws.length ∧ Reps F e.vs ws)
def PostG {α β:Type} (K:PySem.W.Frag) {n:Nat} (G:Gr n) (W:WX) (Γ : List Ty) (σ:Sl) (F:Hp) (fp:Fp) (H:Hp) (A:α → β → Hp → Fp → Hp → Prop) (Q:β → Hp → Prop) : R α → Prop
  | .ok a s'=>∀ b F' fp' H',Rel G Γ s' σ F' fp' H' → Stp L0 F fp H F' fp' H' → A a b F' fp' H' → Q b H'
  | .err e s'=>∀ cls od F' fp' H',Rel G Γ s' σ F' fp' H' → Stp L0 F fp H F' fp' H' → ErrAt K F' e cls od → W cls od σ H'
  | .stuck=>False
theorem PostG.shift {α β:Type} {K:PySem.W.Frag} {n:Nat} {G:Gr n} {W:WX} {Γ : List Ty} {σ:Sl} {F F1 H H1:Hp} {fp fp1:Fp} {A:α → β → Hp → Fp → Hp → Prop} {Q:β → Hp → Prop} (x:Stp L0 F fp H F1 fp1 H1) :
    ∀ {r:R α},PostG K G W Γ σ F fp H A Q r → PostG K G W Γ σ F1 fp1 H1 A Q r
  | .ok _ _,h=>fun b F' fp' H' R y z=>h b F' fp' H' R (x.trans y) z
  | .err _ _,h=>fun cls od F' fp' H' R y z=>h cls od F' fp' H' R (x.trans y) z
  | .stuck,h=>h
theorem pbind {α β α' β':Type} {K:PySem.W.Frag} {n:Nat} {G:Gr n} {W:WX} {Γ : List Ty} {σ:Sl} {F H:Hp} {fp:Fp} {A:α → β → Hp → Fp → Hp → Prop} {Q:β → Hp → Prop} {A':α' → β' → Hp → Fp → Hp → Prop} {Q':β' → Hp → Prop} {k:α' → Env → R α} :
    ∀ {r:R α'},PostG K G W Γ σ F fp H A Q (r.bind k) → (∀ a s1 b F1 fp1 H1,Rel G Γ s1 σ F1 fp1 H1 → Stp L0 F fp H F1 fp1 H1 → A' a b F1 fp1 H1 → PostG K G W Γ σ F1 fp1 H1 A Q (k a s1) → Q' b H1) → PostG K G W Γ σ F fp H A' Q' r
  | .ok a s1,h,f=>fun b F1 fp1 H1 R1 x z=>f a s1 b F1 fp1 H1 R1 x z (PostG.shift x h)
  | .err _ _,h,_=>h
  | .stuck,h,_=>h
theorem pok {α β:Type} {K:PySem.W.Frag} {n:Nat} {G:Gr n} {W:WX} {Γ : List Ty} {σ:Sl} {F H:Hp} {fp:Fp} {A:α → β → Hp → Fp → Hp → Prop} {Q:β → Hp → Prop} {a:α} {s:Env} {b:β} (h:PostG K G W Γ σ F fp H A Q (.ok a s)) (R:Rel G Γ s σ F fp H) (z:A a b F fp H) : Q b H:=h b F fp H R (Stp.refl F fp H) z
def Tmp {n:Nat} (G:Gr n) (fp0:Fp) (H0 F:Hp) (fp:Fp) (B:List Addr) : Prop:=∀ a ∈ B,F a = none ∧ (∀ i,a ∉ fp i) ∧ G.H a = none ∧ ((∃ i,a ∈ fp0 i) ∨ H0 a = none)
theorem Tmp.nil {n:Nat} {G:Gr n} {fp0:Fp} {H0 F:Hp} {fp:Fp} : Tmp G fp0 H0 F fp []:=fun _ h=>by cases h
/-- d of the kind t lies at v,behind an expression that began with fp0 and H0 -/
def AE {n:Nat} (G:Gr n) (t:Ty) (fp0:Fp) (H0:Hp) : D → V → Hp → Fp → Hp → Prop:=fun d v F fp H=>∃ B,At F H t d v B ∧ Tmp G fp0 H0 F fp B
def AB:Bool → Bool → Hp → Fp → Hp → Prop:=fun a b _ _ _=>a = b
def AA:List D → List V → Hp → Fp → Hp → Prop:=fun ds vs F _ _=>Reps F ds vs
theorem AE.fr {n:Nat} {G:Gr n} {d:D} {v:V} {F H H0:Hp} {fp fp0:Fp} (r:Rep F d v) : AE G .fr fp0 H0 d v F fp H:=⟨[],⟨r,rfl⟩,Tmp.nil⟩
theorem AE.rep {n:Nat} {G:Gr n} {d:D} {v:V} {F H H0:Hp} {fp fp0:Fp} (h:AE G .fr fp0 H0 d v F fp H) : Rep F d v:=h.elim fun _ x=>x.1.1
theorem AE.back {n:Nat} {G:Gr n} {t:Ty} {d:D} {v:V} {F H H0 H1 F0 F1:Hp} {fp fp0 fp1:Fp} (x:Stp L0 F0 fp0 H0 F1 fp1 H1) (h:AE G t fp1 H1 d v F fp H) : AE G t fp0 H0 d v F fp H:=by
  obtain ⟨B,a,q⟩:=h
  refine ⟨B,a,fun b hb=>?_⟩
  obtain ⟨q1,q2,q3,q4⟩:=q b hb
  refine ⟨q1,q2,q3,?_⟩
  rcases q4 with ⟨i,hi⟩ | z
  · exact x.new i b hi
  · exact .inr (Classical.byContradiction fun w=>x.there b w z)
theorem PostG.imp {α β:Type} {K:PySem.W.Frag} {n:Nat} {G:Gr n} {W:WX} {Γ : List Ty} {σ:Sl} {F H:Hp} {fp:Fp} {A A':α → β → Hp → Fp → Hp → Prop} {Q:β → Hp → Prop} (hA:∀ a b F' fp' H',A' a b F' fp' H' → A a b F' fp' H') :
    ∀ {r:R α},PostG K G W Γ σ F fp H A Q r → PostG K G W Γ σ F fp H A' Q r
  | .ok _ _,h=>fun b F' fp' H' R y z=>h b F' fp' H' R y (hA _ _ _ _ _ z)
  | .err _ _,h=>h
  | .stuck,h=>h
def tM (K:PySem.W.Frag) {n:Nat} (G:Gr n) (W:WX) (Γ : List Ty) (t:Ty) (m:M) : TE:=fun σ H Q=>∃ s F fp,Rel G Γ s σ F fp H ∧ PostG K G W Γ σ F fp H (AE G t fp H) Q (m s)
def tMB (K:PySem.W.Frag) {n:Nat} (G:Gr n) (W:WX) (Γ : List Ty) (m:MB) : TT:=fun σ H Q=>∃ s F fp,Rel G Γ s σ F fp H ∧ PostG K G W Γ σ F fp H AB Q (m s)
def tMA (K:PySem.W.Frag) {n:Nat} (G:Gr n) (W:WX) (Γ : List Ty) (m:MA) : TA:=fun σ H Q=>∃ s F fp,Rel G Γ s σ F fp H ∧ PostG K G W Γ σ F fp H AA Q (m s)
abbrev ME (X:Cx) {n:Nat} (G:Gr n) (W:WX) (Γ : List Ty) (e:Expr) (t:Ty) (m:M) : Prop:=PE X e (tM X.K G W Γ t m)
abbrev MT (X:Cx) {n:Nat} (G:Gr n) (W:WX) (Γ : List Ty) (e:Expr) (m:MB) : Prop:=PT X e (tMB X.K G W Γ m)
abbrev MTW (X:Cx) {n:Nat} (G:Gr n) (W:WX) (Γ : List Ty) (e:Expr) (m:MB) : Prop:=PW X e (tMB X.K G W Γ m)
abbrev MAs (X:Cx) {n:Nat} (G:Gr n) (W:WX) (Γ : List Ty) (es:List Expr) (m:MA) : Prop:=PA X es (tMA X.K G W Γ m)
theorem peI {X:Cx} {e:Expr} {t t':TE} (h:PE X e t) (f:∀ σ H Q,t' σ H Q → t σ H Q) : PE X e t':=⟨fun pins s σ H Q I q=>h.run pins s σ H Q I (f σ H Q q)⟩
theorem ptI {X:Cx} {e:Expr} {t t':TT} (h:PT X e t) (f:∀ σ H Q,t' σ H Q → t σ H Q) : PT X e t':=⟨fun pins s σ H Q I q=>h.run pins s σ H Q I (f σ H Q q)⟩
theorem pwI {X:Cx} {e:Expr} {t t':TT} (h:PW X e t) (f:∀ σ H Q,t' σ H Q → t σ H Q) : PW X e t':=⟨fun w pins s σ H Q I q=>h.run w pins s σ H Q I (f σ H Q q)⟩
theorem paI {X:Cx} {e:List Expr} {t t':TA} (h:PA X e t) (f:∀ σ H Q,t' σ H Q → t σ H Q) : PA X e t':=⟨fun po pins s σ H Q I q=>h.run po pins s σ H Q I (f σ H Q q)⟩
theorem psI {X:Cx} {e:Stmt} {t t':TS} (h:PS X e t) (f:∀ D σ H,t' D σ H → t D σ H) : PS X e t':=⟨fun pins s σ H D I q=>h.run pins s σ H D I (f D σ H q)⟩
theorem pssI {X:Cx} {e:List Stmt} {t t':TS} (h:PSs X e t) (f:∀ D σ H,t' D σ H → t D σ H) : PSs X e t':=⟨fun pins s σ H D I q=>h.run pins s σ H D I (f D σ H q)⟩
section
variable {X:Cx} {n:Nat} {G:Gr n} {W:WX} {Γ : List Ty}
def mVar (i:Nat) : M:=fun s=>match s[i]? with
  | some (some d)=>.ok d s
  | _=>.stuck
theorem me_var {e:Expr} {i:Nat} (h:PE X e (tVar i)) (ht:Γ[i]? = some .fr) : ME X G W Γ e .fr (mVar i):=peI h fun σ H Q ⟨s,F,fp,R,q⟩=>by
  unfold mVar at q
  split at q
  · rename_i d e
    obtain ⟨v,hv,a⟩:=R.slot i _ _ ht e
    exact ⟨v,hv,pok q R (AE.fr a.1)⟩
  · exact q.elim
def mK (d:D) : M:=fun s=>.ok d s
theorem me_k {e:Expr} {d:D} {v:V} (h:PE X e (tC v)) (r:∀ F,Rep F d v) : ME X G W Γ e .fr (mK d):=peI h fun σ H Q ⟨s,F,fp,R,q⟩=>pok q R (AE.fr (r F))
theorem me_int {i j pos} : ME X G W Γ (.Constant (.int i) j pos) .fr (mK (.int i)):=me_k pe_int fun _=>.int i
theorem me_bl {b j pos} : ME X G W Γ (.Constant (.bool b) j pos) .fr (mK (.bl b)):=me_k pe_bl fun _=>.bl b
theorem me_non {j pos} : ME X G W Γ (.Constant .none j pos) .fr (mK .non):=me_k pe_non fun _=>.non
def mOp (f:D → D → Option D) (ma mb:M) : M:=fun s=>(ma s).bind fun d s1=>(mb s1).bind fun e s2=>R.opt (f d e) s2
def mUn (f:D → Option D) (ma:M) : M:=fun s=>(ma s).bind fun d s1=>R.opt (f d) s1
/-- what an operator's rule asks is given by a function on data -/
def OpD (r:R2) (f:D → D → Option D) : Prop:=∀ d e z x y F H (Q:VK),f d e = some z → Rep F d x → Rep F e y → (∀ w,Rep F z w → Q w H) → r x y H Q
theorem opt_post {α β:Type} {K:PySem.W.Frag} {σ:Sl} {F H:Hp} {fp:Fp} {A:α → β → Hp → Fp → Hp → Prop} {Q:β → Hp → Prop} {o:Option α} {s:Env} (h:PostG K G W Γ σ F fp H A Q (R.opt o s)) : ∃ a,o = some a ∧ PostG K G W Γ σ F fp H A Q (.ok a s):=by
  cases o with
  | none=>exact h.elim
  | some a=>exact ⟨a,rfl,h⟩
theorem two' {K:PySem.W.Frag} {σ:Sl} {H:Hp} {Q:VK} {r:R2} {f:D → D → Option D} (hf:∀ d e z x y s F fp H (Q:VK),Rel G Γ s σ F fp H → f d e = some z → Rep F d x → Rep F e y → (∀ w,Rep F z w → Q w H) → r x y H Q) {ma mb:M} (h:tM K G W Γ .fr (mOp f ma mb) σ H Q) :
    tM K G W Γ .fr ma σ H fun x H1=>tM K G W Γ .fr mb σ H1 fun y H2=>r x y H2 Q:=by
  obtain ⟨s,F,fp,R,q⟩:=h
  refine ⟨s,F,fp,R,pbind q fun d s1 x F1 fp1 H1 R1 st1 a1 q1=>⟨s1,F1,fp1,R1,pbind q1 fun e s2 y F2 fp2 H2 R2 st2 a2 q2=>?_⟩⟩
  obtain ⟨z,ez,q3⟩:=opt_post q2
  exact hf d e z x y s2 F2 fp2 H2 Q R2 ez (a1.rep.mono st2.f) a2.rep fun w rw=>pok q3 R2 (AE.fr rw)
theorem two {K:PySem.W.Frag} {σ:Sl} {H:Hp} {Q:VK} {r:R2} {f:D → D → Option D} (hf:OpD r f) {ma mb:M} (h:tM K G W Γ .fr (mOp f ma mb) σ H Q) :
    tM K G W Γ .fr ma σ H fun x H1=>tM K G W Γ .fr mb σ H1 fun y H2=>r x y H2 Q:=two' (fun d e z x y s F fp H Q _=>hf d e z x y F H Q) h
theorem me_op {op:Operator} {r:R2} {f:D → D → Option D} {a b:Expr} {ma mb:M} {pos:Pos} (ho:OpR X (binaryOp op) r) (hf:OpD r f) (ha:ME X G W Γ a .fr ma) (hb:ME X G W Γ b .fr mb) : ME X G W Γ (.BinOp a op b pos) .fr (mOp f ma mb):=
  peI (pe_op ho ha hb) fun σ H Q h=>two hf h
theorem me_cmp {op:CmpOp} {r:R2} {f:D → D → Option D} {a b:Expr} {ma mb:M} {pos:Pos} (ho:OpR X (compareOp op) r) (hf:OpD r f) (ha:ME X G W Γ a .fr ma) (hb:ME X G W Γ b .fr mb) (hm:behindInMarks op b = false) : ME X G W Γ (.Compare a [op] [b] pos) .fr (mOp f ma mb):=
  peI (pe_cmpR ho ha hb hm) fun σ H Q h=>two hf h
/-- a bool-valued comparison as a test -/
def mTst (m:M) : MB:=fun s=>(m s).bind fun d s1=>match d with
  | .bl b=>.ok b s1
  | _=>.stuck
theorem tst {K:PySem.W.Frag} {σ:Sl} {H:Hp} {Q:Bool → Hp → Prop} {m:M} (h:tMB K G W Γ (mTst m) σ H Q) : tM K G W Γ .fr m σ H fun x H1=>∃ k,x = .bl k ∧ Q k H1:=by
  obtain ⟨s,F,fp,R,q⟩:=h
  refine ⟨s,F,fp,R,pbind q fun d s1 x F1 fp1 H1 R1 st1 a1 q1=>?_⟩
  cases a1.rep with
  | bl b=>exact ⟨b,rfl,pok q1 R1 rfl⟩
  | _=>exact q1.elim
theorem mt_cmp {op:CmpOp} {r:R2} {f:D → D → Option D} {a b:Expr} {ma mb:M} {pos:Pos} (ho:OpR X (compareOp op) r) (hf:OpD r f) (ha:ME X G W Γ a .fr ma) (hb:ME X G W Γ b .fr mb) (hm:behindInMarks op b = false) : MT X G W Γ (.Compare a [op] [b] pos) (mTst (mOp f ma mb)):=
  ptI (pt_cmpR ho ha hb hm) fun σ H Q h=>two hf (tst h)
def mAnd (a b:MB) : MB:=fun s=>(a s).bind fun c s1=>if c = true then b s1 else .ok false s1
def mOr (a b:MB) : MB:=fun s=>(a s).bind fun c s1=>if c = true then .ok true s1 else b s1
def mNot (a:MB) : MB:=fun s=>(a s).bind fun c s1=>.ok (!c) s1
variable {a b:Expr} {rest:List Expr} {ma mb:MB} {pos:Pos}
theorem mt_and1 (h:MT X G W Γ a ma) : MTW X G W Γ (.BoolOp .And [a] pos) ma:=pw_and1 h
theorem mt_or1 (h:MT X G W Γ a ma) : MTW X G W Γ (.BoolOp .Or [a] pos) ma:=pw_or1 h
theorem mt_and (ha:MT X G W Γ a ma) (hb:MTW X G W Γ (.BoolOp .And (b :: rest) pos) mb) : MTW X G W Γ (.BoolOp .And (a :: b :: rest) pos) (mAnd ma mb):=
  pwI (pw_and ha hb) fun σ H Q ⟨s,F,fp,R,q⟩=>⟨s,F,fp,R,pbind q fun c s1 c' F1 fp1 H1 R1 st1 a1 q1=>by
    cases a1
    cases c with
    | true=>exact ⟨s1,F1,fp1,R1,q1⟩
    | false=>exact pok q1 R1 rfl⟩
theorem mt_or (ha:MT X G W Γ a ma) (hb:MTW X G W Γ (.BoolOp .Or (b :: rest) pos) mb) : MTW X G W Γ (.BoolOp .Or (a :: b :: rest) pos) (mOr ma mb):=
  pwI (pw_or ha hb) fun σ H Q ⟨s,F,fp,R,q⟩=>⟨s,F,fp,R,pbind q fun c s1 c' F1 fp1 H1 R1 st1 a1 q1=>by
    cases a1
    cases c with
    | true=>exact pok q1 R1 rfl
    | false=>exact ⟨s1,F1,fp1,R1,q1⟩⟩
theorem mt_w (h:MTW X G W Γ a ma) : MT X G W Γ a ma:=h.pt
theorem mt_not (h:MT X G W Γ a ma) : MT X G W Γ (.UnaryOp .Not a pos) (mNot ma):=
  ptI (pt_not h) fun σ H Q ⟨s,F,fp,R,q⟩=>⟨s,F,fp,R,pbind q fun c s1 c' F1 fp1 H1 R1 st1 a1 q1=>by
    cases a1
    exact pok q1 R1 rfl⟩
/-- .. as values -/
def mAndV (a b:M) : M:=fun s=>(a s).bind fun d s1=>match d with
  | .bl true=>b s1
  | .bl false=>.ok (.bl false) s1
  | _=>.stuck
def mOrV (a b:M) : M:=fun s=>(a s).bind fun d s1=>match d with
  | .bl true=>.ok (.bl true) s1
  | .bl false=>b s1
  | _=>.stuck
def mNotV (a:M) : M:=fun s=>(a s).bind fun d s1=>match d with
  | .bl c=>.ok (.bl (!c)) s1
  | _=>.stuck
variable {va vb:M}
theorem me_one {op} (h:ME X G W Γ a .fr va) : ME X G W Γ (.BoolOp op [a] pos) .fr va:=pe_one h
theorem me_and (ha:ME X G W Γ a .fr va) (hb:ME X G W Γ (.BoolOp .And (b :: rest) pos) .fr vb) : ME X G W Γ (.BoolOp .And (a :: b :: rest) pos) .fr (mAndV va vb):=
  peI (pe_and ha hb) fun σ H Q ⟨s,F,fp,R,q⟩=>⟨s,F,fp,R,pbind q fun d s1 x F1 fp1 H1 R1 st1 a1 q1=>by
    cases a1.rep with
    | bl c=>
      refine ⟨c,rfl,?_⟩
      cases c with
      | true=>exact ⟨s1,F1,fp1,R1,q1.imp fun _ _ _ _ _ z=>z.back st1⟩
      | false=>exact pok q1 R1 (AE.fr (.bl false))
    | _=>exact q1.elim⟩
theorem me_not (ha:ME X G W Γ a .fr va) : ME X G W Γ (.UnaryOp .Not a pos) .fr (mNotV va):=
  peI (pe_not ha) fun σ H Q ⟨s,F,fp,R,q⟩=>⟨s,F,fp,R,pbind q fun d s1 x F1 fp1 H1 R1 st1 a1 q1=>by
    cases a1.rep with
    | bl c=>exact ⟨c,rfl,pok q1 R1 (AE.fr (.bl (!c)))⟩
    | _=>exact q1.elim⟩
def mIf (c:MB) (a b:M) : M:=fun s=>(c s).bind fun k s1=>if k = true then a s1 else b s1
theorem me_ifExp {c:Expr} {mc:MB} {t:Ty} (hc:MT X G W Γ c mc) (ha:ME X G W Γ a t va) (hb:ME X G W Γ b t vb) : ME X G W Γ (.IfExp c a b pos) t (mIf mc va vb):=
  peI (pe_ifExp hc ha hb) fun σ H Q ⟨s,F,fp,R,q⟩=>⟨s,F,fp,R,pbind q fun k s1 x F1 fp1 H1 R1 st1 a1 q1=>by
    cases a1
    cases k with
    | true=>exact ⟨s1,F1,fp1,R1,q1.imp fun _ _ _ _ _ z=>z.back st1⟩
    | false=>exact ⟨s1,F1,fp1,R1,q1.imp fun _ _ _ _ _ z=>z.back st1⟩⟩
end
mutual
def D.py:D → PyData
  | .non=>.none
  | .bl b=>.bool b
  | .int i=>.int i
  | .str x=>.str x
  | .tup xs=>.tuple (D.pys xs)
  | .lst xs=>.list (D.pys xs)
  | .dct _ _=>.dict []
  | .obj _ _ _=>.dict []
  | .rcd _ _=>.dict []
  | .ptr _=>.dict []
def D.pys:List D → List PyData
  | []=>[]
  | x :: xs=>D.py x :: D.pys xs
end
mutual
def D.flat:Nat → D → Bool
  | _,.non=>true
  | _,.bl _=>true
  | _,.int _=>true
  | _,.str x=>PyData.strOk x
  | 0,.tup _=>false
  | 0,.lst _=>false
  | n + 1,.tup xs=>D.flats n xs
  | n + 1,.lst xs=>D.flats n xs
  | _,.dct _ _=>false
  | _,.obj _ _ _=>false
  | _,.rcd _ _=>false
  | _,.ptr _=>false
def D.flats:Nat → List D → Bool
  | _,[]=>true
  | n,x :: xs=>D.flat n x && D.flats n xs
end
mutual
def D.eq:D → D → Bool
  | .non,.non=>true
  | .bl a,.bl b=>a == b
  | .bl a,.int j=>(if a then 1 else 0) == j
  | .int i,.bl b=>i == (if b then 1 else 0)
  | .int i,.int j=>i == j
  | .str x,.str y=>x == y
  | .lst xs,.lst ys=>D.eqs xs ys
  | .tup xs,.tup ys=>D.eqs xs ys
  | _,_=>false
def D.eqs:List D → List D → Bool
  | [],[]=>true
  | x :: xs,y :: ys=>D.eq x y && D.eqs xs ys
  | _,_=>false
end
mutual
theorem D.eq_py:∀ d e:D,PyData.eqv d.py e.py = D.eq d e
  | .non,e=>by cases e <;> rfl
  | .bl a,e=>by cases e <;> rfl
  | .int i,e=>by cases e <;> rfl
  | .str x,e=>by cases e <;> rfl
  | .lst xs,e=>by
    cases e with
    | lst ys=>exact D.eqs_py xs ys
    | _=>rfl
  | .tup xs,e=>by
    cases e with
    | tup ys=>exact D.eqs_py xs ys
    | _=>rfl
  | .dct _ _,e=>by cases e <;> rfl
  | .obj _ _ _,e=>by cases e <;> rfl
  | .rcd _ _,e=>by cases e <;> rfl
  | .ptr _,e=>by cases e <;> rfl
theorem D.eqs_py:∀ ds es:List D,PyData.eqvAll (D.pys ds) (D.pys es) = D.eqs ds es
  | [],[]=>rfl
  | [],_ :: _=>rfl
  | _ :: _,[]=>rfl
  | d :: ds,e :: es=>by
    show (PyData.eqv d.py e.py && PyData.eqvAll (D.pys ds) (D.pys es)) = (D.eq d e && D.eqs ds es)
    rw [D.eq_py d e,D.eqs_py ds es]
end
mutual
theorem D.flat_lay:∀ (n:Nat) (d:D),D.flat n d = true → d.py.canLay0 = true ∧ d.py.depth ≤ n
  | _,.non,_=>⟨rfl,Nat.zero_le _⟩
  | _,.bl _,_=>⟨rfl,Nat.zero_le _⟩
  | _,.int _,_=>⟨rfl,Nat.zero_le _⟩
  | n,.str x,h=>by
    have h':PyData.strOk x = true:=by cases n <;> exact h
    exact ⟨h',Nat.zero_le _⟩
  | 0,.tup _,h=>by cases h
  | 0,.lst _,h=>by cases h
  | n + 1,.tup xs,h=>by
    obtain ⟨a,b⟩:=D.flats_lay n xs h
    exact ⟨a,Nat.succ_le_succ b⟩
  | n + 1,.lst xs,h=>by
    obtain ⟨a,b⟩:=D.flats_lay n xs h
    exact ⟨a,Nat.succ_le_succ b⟩
  | n,.dct _ _,h=>by cases n <;> cases h
  | n,.obj _ _ _,h=>by cases n <;> cases h
  | n,.rcd _ _,h=>by cases n <;> cases h
  | n,.ptr _,h=>by cases n <;> cases h
theorem D.flats_lay:∀ (n:Nat) (ds:List D),D.flats n ds = true → PyData.canLayAll0 (D.pys ds) = true ∧ PyData.depthAll (D.pys ds) ≤ n
  | _,[],_=>⟨rfl,Nat.zero_le _⟩
  | n,d :: ds,h=>by
    have h':(D.flat n d && D.flats n ds) = true:=by cases n <;> exact h
    rw [Bool.and_eq_true] at h'
    obtain ⟨a,b⟩:=D.flat_lay n d h'.1
    obtain ⟨a2,b2⟩:=D.flats_lay n ds h'.2
    exact ⟨by show (d.py.canLay0 && PyData.canLayAll0 (D.pys ds)) = true; rw [a,a2]; rfl,Nat.max_le.mpr ⟨b,b2⟩⟩
end
theorem D.shaped {d:D} (h:D.flat 60 d = true) : SeqAt.shaped d.py = true:=by
  obtain ⟨a,b⟩:=D.flat_lay 60 d h
  unfold SeqAt.shaped
  rw [a,Bool.true_and]
  exact decide_eq_true (by omega)
section
variable {X:Cx} {n:Nat} {G:Gr n} {W:WX} {Γ : List Ty}
/-- what is fixed may be read as data -/
theorem Rel.sqT {K:PySem.W.Frag} {s:Env} {σ:Sl} {F H:Hp} {fp:Fp} (R:Rel G Γ s σ F fp H) {a:Addr} {vs:List V} (e:F a = some (.tup vs)) : SqT K H a vs:=.of (R.at e rfl)
theorem Rel.sqL {K:PySem.W.Frag} {s:Env} {σ:Sl} {F H:Hp} {fp:Fp} (R:Rel G Γ s σ F fp H) {a:Addr} {vs:List V} (e:F a = some (.lst vs)) : SqL K H a vs:=.of (R.at e rfl)
mutual
theorem Rel.dp {K:PySem.W.Frag} {s:Env} {σ:Sl} {F H:Hp} {fp:Fp} (R:Rel G Γ s σ F fp H) : ∀ {m:Nat} {d:D} {v:V},D.flat m d = true → Rep F d v → Dp K H v d.py
  | _,_,_,_,.non=>.non
  | _,_,_,_,.bl b=>.bl b
  | _,_,_,_,.int i=>.int i
  | _,_,_,_,.str x=>.str x
  | 0,_,_,h,.tup _ _=>by cases h
  | 0,_,_,h,.lst _ _=>by cases h
  | n + 1,_,_,h,.tup e r=>.tup (R.sqT e) (Rel.dps R (m:=n) h r)
  | n + 1,_,_,h,.lst e r=>.lst (R.sqL e) (Rel.dps R (m:=n) h r)
  | n,_,_,h,.dct _ _ _=>by cases n <;> cases h
  | n,_,_,h,.obj _ _ _=>by cases n <;> cases h
  | n,_,_,h,.rcd _ _ _=>by cases n <;> cases h
  | n,_,_,h,.ptr _=>by cases n <;> cases h
  | n,_,_,h,.ptrL _=>by cases n <;> cases h
theorem Rel.dps {K:PySem.W.Frag} {s:Env} {σ:Sl} {F H:Hp} {fp:Fp} (R:Rel G Γ s σ F fp H) : ∀ {m:Nat} {ds:List D} {vs:List V},D.flats m ds = true → Reps F ds vs → DpAll K H vs (D.pys ds)
  | _,_,_,_,.nil=>.nil
  | n,d :: ds,_,h,.cons r t=>by
    have h':(D.flat n d && D.flats n ds) = true:=by cases n <;> exact h
    rw [Bool.and_eq_true] at h'
    exact .cons (Rel.dp R h'.1 r) (Rel.dps R h'.2 t)
end
def mulOk (i j:Int) : Bool:=decide (-(2 ^ 64) < i ∧ i < 2 ^ 64) || (decide (-(2 ^ 64) < j ∧ j < 2 ^ 64) || decide (i.natAbs.log2 + j.natAbs.log2 < 1000000))
def dAdd:D → D → Option D
  | .int i,.int j=>some (.int (i + j))
  | .str x,.str y=>if x.length + y.length ≤ sizeLine then some (.str (x ++ y)) else none
  | _,_=>none
def dSub:D → D → Option D
  | .int i,.int j=>some (.int (i - j))
  | _,_=>none
def dMul:D → D → Option D
  | .int i,.int j=>if mulOk i j = true then some (.int (i * j)) else none
  | _,_=>none
def dDiv:D → D → Option D
  | .int i,.int j=>if 0 < j ∧ j.natAbs.log2 < 9000 then some (.int (i / j)) else none
  | _,_=>none
def dMod:D → D → Option D
  | .int i,.int j=>if 0 < j then some (.int (i % j)) else none
  | _,_=>none
def dPow:D → D → Option D
  | .int i,.int j=>if 0 ≤ j ∧ j ≤ 1000000 ∧ i.natAbs < 2 ^ 64 then some (.int (i ^ j.toNat)) else none
  | _,_=>none
def dLt:D → D → Option D
  | .int i,.int j=>some (.bl (decide (i < j)))
  | _,_=>none
def dLe:D → D → Option D
  | .int i,.int j=>some (.bl (decide (i ≤ j)))
  | _,_=>none
def dGt:D → D → Option D
  | .int i,.int j=>some (.bl (decide (j < i)))
  | _,_=>none
def dGe:D → D → Option D
  | .int i,.int j=>some (.bl (decide (j ≤ i)))
  | _,_=>none
def dNeg:D → Option D
  | .int i=>some (.int (-i))
  | _=>none
theorem od_add:OpD (fun x y H Q=>(∃ i j,x = .int i ∧ y = .int j ∧ Q (.int (i + j)) H) ∨ (∃ i j,x = .str i ∧ y = .str j ∧ i.length + j.length ≤ sizeLine ∧ Q (.str (i ++ j)) H)) dAdd:=by
  intro d e z x y F H Q h rx ry k
  cases rx with
  | int i=>
    cases ry with
    | int j=>cases h; exact .inl ⟨i,j,rfl,rfl,k _ (.int _)⟩
    | _=>cases h
  | str i=>
    cases ry with
    | str j=>
      have h:(if i.length + j.length ≤ sizeLine then some (D.str (i ++ j)) else none) = some z:=h
      by_cases hc:i.length + j.length ≤ sizeLine
      · rw [if_pos hc] at h; cases h; exact .inr ⟨i,j,rfl,rfl,hc,k _ (.str _)⟩
      · rw [if_neg hc] at h; cases h
    | _=>cases h
  | _=>cases h
theorem od_i0 {g:Int → Int → V} {f:D → D → Option D} {r:Int → Int → D} (hr:∀ i j F,Rep F (r i j) (g i j)) (hf:∀ i j,f (.int i) (.int j) = some (r i j)) (hn:∀ d e z,f d e = some z → ∃ i j,d = .int i ∧ e = .int j) : OpD (rI0 g) f:=by
  intro d e z x y F H Q h rx ry k
  obtain ⟨i,j,rfl,rfl⟩:=hn d e z h
  rw [hf] at h
  cases h
  cases rx
  cases ry
  exact ⟨i,j,rfl,rfl,k _ (hr i j F)⟩
theorem od_i {C:Int → Int → Prop} {g:Int → Int → V} {f:D → D → Option D} {r:Int → Int → D} (hr:∀ i j F,Rep F (r i j) (g i j)) (hn:∀ d e z,f d e = some z → ∃ i j,d = .int i ∧ e = .int j ∧ C i j ∧ z = r i j) : OpD (rI C g) f:=by
  intro d e z x y F H Q h rx ry k
  obtain ⟨i,j,rfl,rfl,c,rfl⟩:=hn d e z h
  cases rx
  cases ry
  exact ⟨i,j,rfl,rfl,c,k _ (hr i j F)⟩
theorem if_some {α:Type} {c:Prop} [Decidable c] {a z:α} (h:(if c then some a else none) = some z) : c ∧ z = a:=by
  by_cases hc:c
  · rw [if_pos hc] at h; cases h; exact ⟨hc,rfl⟩
  · rw [if_neg hc] at h; cases h
theorem od_sub:OpD (rI0 fun i j=>.int (i - j)) dSub:=od_i0 (fun _ _ _=>.int _) (fun _ _=>rfl) (by intro d e z h; cases d <;> cases e <;> first | exact ⟨_,_,rfl,rfl⟩ | cases h)
theorem od_lt:OpD (rI0 fun i j=>.bl (decide (i < j))) dLt:=od_i0 (r:=fun i j=>.bl (decide (i < j))) (fun _ _ _=>.bl _) (fun _ _=>rfl) (by intro d e z h; cases d <;> cases e <;> first | exact ⟨_,_,rfl,rfl⟩ | cases h)
theorem od_le:OpD (rI0 fun i j=>.bl (decide (i ≤ j))) dLe:=od_i0 (r:=fun i j=>.bl (decide (i ≤ j))) (fun _ _ _=>.bl _) (fun _ _=>rfl) (by intro d e z h; cases d <;> cases e <;> first | exact ⟨_,_,rfl,rfl⟩ | cases h)
theorem od_gt:OpD (rI0 fun i j=>.bl (decide (j < i))) dGt:=od_i0 (r:=fun i j=>.bl (decide (j < i))) (fun _ _ _=>.bl _) (fun _ _=>rfl) (by intro d e z h; cases d <;> cases e <;> first | exact ⟨_,_,rfl,rfl⟩ | cases h)
theorem od_ge:OpD (rI0 fun i j=>.bl (decide (j ≤ i))) dGe:=od_i0 (r:=fun i j=>.bl (decide (j ≤ i))) (fun _ _ _=>.bl _) (fun _ _=>rfl) (by intro d e z h; cases d <;> cases e <;> first | exact ⟨_,_,rfl,rfl⟩ | cases h)
theorem od_mul:OpD (fun x y H Q=>rI CMul (fun i j=>.int (i * j)) x y H Q ∨ rI CMulW (fun i j=>.int (i * j)) x y H Q) dMul:=by
  intro d e z x y F H Q h rx ry k
  obtain ⟨i,j,rfl,rfl⟩ : ∃ i j,d = .int i ∧ e = .int j:=by cases d <;> cases e <;> first | exact ⟨_,_,rfl,rfl⟩ | cases h
  cases rx
  cases ry
  obtain ⟨hc,rfl⟩:=if_some (show (if mulOk i j = true then some (D.int (i * j)) else none) = some z from h)
  unfold mulOk at hc
  rcases Bool.or_eq_true_iff.mp hc with q | q
  · exact .inl ⟨i,j,rfl,rfl,.inl (of_decide_eq_true q),k _ (.int _)⟩
  · rcases Bool.or_eq_true_iff.mp q with q | q
    · exact .inl ⟨i,j,rfl,rfl,.inr (of_decide_eq_true q),k _ (.int _)⟩
    · exact .inr ⟨i,j,rfl,rfl,(show i.natAbs.log2 + j.natAbs.log2 < 1000000 from of_decide_eq_true q),k _ (.int _)⟩
theorem od_div:OpD (rI CDivW fun i j=>.int (i / j)) dDiv:=od_i (r:=fun i j=>.int (i / j)) (fun _ _ _=>.int _) (by
  intro d e z h
  obtain ⟨i,j,rfl,rfl⟩ : ∃ i j,d = .int i ∧ e = .int j:=by cases d <;> cases e <;> first | exact ⟨_,_,rfl,rfl⟩ | cases h
  obtain ⟨hc,rfl⟩:=if_some (show (if 0 < j ∧ j.natAbs.log2 < 9000 then some (D.int (i / j)) else none) = some z from h)
  exact ⟨i,j,rfl,rfl,hc,rfl⟩)
theorem od_mod:OpD (rI (fun _ j=>0 < j) fun i j=>.int (i % j)) dMod:=od_i (r:=fun i j=>.int (i % j)) (fun _ _ _=>.int _) (by
  intro d e z h
  obtain ⟨i,j,rfl,rfl⟩ : ∃ i j,d = .int i ∧ e = .int j:=by cases d <;> cases e <;> first | exact ⟨_,_,rfl,rfl⟩ | cases h
  obtain ⟨hc,rfl⟩:=if_some (show (if 0 < j then some (D.int (i % j)) else none) = some z from h)
  exact ⟨i,j,rfl,rfl,hc,rfl⟩)
theorem od_pow:OpD (rI CPow fun i j=>.int (i ^ j.toNat)) dPow:=od_i (r:=fun i j=>.int (i ^ j.toNat)) (fun _ _ _=>.int _) (by
  intro d e z h
  obtain ⟨i,j,rfl,rfl⟩ : ∃ i j,d = .int i ∧ e = .int j:=by cases d <;> cases e <;> first | exact ⟨_,_,rfl,rfl⟩ | cases h
  obtain ⟨hc,rfl⟩:=if_some (show (if 0 ≤ j ∧ j ≤ 1000000 ∧ i.natAbs < 2 ^ 64 then some (D.int (i ^ j.toNat)) else none) = some z from h)
  exact ⟨i,j,rfl,rfl,hc,rfl⟩)
variable {a b:Expr} {ma mb:M} {pos:Pos}
theorem me_add (ha:ME X G W Γ a .fr ma) (hb:ME X G W Γ b .fr mb) : ME X G W Γ (.BinOp a .Add b pos) .fr (mOp dAdd ma mb):=me_op (op_add.or op_add_str) od_add ha hb
theorem me_sub (ha:ME X G W Γ a .fr ma) (hb:ME X G W Γ b .fr mb) : ME X G W Γ (.BinOp a .Sub b pos) .fr (mOp dSub ma mb):=me_op op_sub od_sub ha hb
theorem me_mul (ha:ME X G W Γ a .fr ma) (hb:ME X G W Γ b .fr mb) : ME X G W Γ (.BinOp a .Mult b pos) .fr (mOp dMul ma mb):=me_op (op_mul.or op_mulW) od_mul ha hb
theorem me_div (ha:ME X G W Γ a .fr ma) (hb:ME X G W Γ b .fr mb) : ME X G W Γ (.BinOp a .FloorDiv b pos) .fr (mOp dDiv ma mb):=me_op op_fdivW od_div ha hb
theorem me_mod (ha:ME X G W Γ a .fr ma) (hb:ME X G W Γ b .fr mb) : ME X G W Γ (.BinOp a .Mod b pos) .fr (mOp dMod ma mb):=me_op op_mod od_mod ha hb
theorem me_pow (ha:ME X G W Γ a .fr ma) (hb:ME X G W Γ b .fr mb) : ME X G W Γ (.BinOp a .Pow b pos) .fr (mOp dPow ma mb):=me_op op_pow od_pow ha hb
theorem me_lt (ha:ME X G W Γ a .fr ma) (hb:ME X G W Γ b .fr mb) : ME X G W Γ (.Compare a [.Lt] [b] pos) .fr (mOp dLt ma mb):=me_cmp op_lt od_lt ha hb (nomark _)
theorem me_le (ha:ME X G W Γ a .fr ma) (hb:ME X G W Γ b .fr mb) : ME X G W Γ (.Compare a [.LtE] [b] pos) .fr (mOp dLe ma mb):=me_cmp op_le od_le ha hb (nomark _)
theorem me_ge (ha:ME X G W Γ a .fr ma) (hb:ME X G W Γ b .fr mb) : ME X G W Γ (.Compare a [.GtE] [b] pos) .fr (mOp dGe ma mb):=me_cmp op_ge od_ge ha hb (nomark _)
theorem mt_lt (ha:ME X G W Γ a .fr ma) (hb:ME X G W Γ b .fr mb) : MT X G W Γ (.Compare a [.Lt] [b] pos) (mTst (mOp dLt ma mb)):=mt_cmp op_lt od_lt ha hb (nomark _)
theorem mt_gt (ha:ME X G W Γ a .fr ma) (hb:ME X G W Γ b .fr mb) : MT X G W Γ (.Compare a [.Gt] [b] pos) (mTst (mOp dGt ma mb)):=mt_cmp op_gt od_gt ha hb (nomark _)
def dEq (d e:D) : Option Bool:=if (D.flat 60 d && D.flat 60 e) = true then some (D.eq d e) else none
def mEq (ma mb:M) : M:=fun s=>(ma s).bind fun d s1=>(mb s1).bind fun e s2=>R.opt ((dEq d e).map D.bl) s2
def mNe (ma mb:M) : M:=fun s=>(ma s).bind fun d s1=>(mb s1).bind fun e s2=>R.opt ((dEq d e).map fun k=>D.bl (!k)) s2
theorem two_eq {K:PySem.W.Frag} {σ:Sl} {H:Hp} {Q:VK} {ma mb:M} {g:Bool → Bool} (h:tM K G W Γ .fr (fun s=>(ma s).bind fun d s1=>(mb s1).bind fun e s2=>R.opt ((dEq d e).map fun k=>D.bl (g k)) s2) σ H Q) :
    tM K G W Γ .fr ma σ H fun x H1=>tM K G W Γ .fr mb σ H1 fun y H2=>∃ d e,Dp K H2 x d ∧ Dp K H2 y e ∧ SeqAt.shaped d = true ∧ SeqAt.shaped e = true ∧ Q (.bl (g (PyData.eqv d e))) H2:=by
  obtain ⟨s,F,fp,R,q⟩:=h
  refine ⟨s,F,fp,R,pbind q fun d s1 x F1 fp1 H1 R1 st1 a1 q1=>⟨s1,F1,fp1,R1,pbind q1 fun e s2 y F2 fp2 H2 R2 st2 a2 q2=>?_⟩⟩
  obtain ⟨z,ez,q3⟩:=opt_post q2
  obtain ⟨k,ek,rfl⟩:=Option.map_eq_some_iff.mp ez
  unfold dEq at ek
  obtain ⟨hc,rfl⟩:=if_some ek
  rw [Bool.and_eq_true] at hc
  refine ⟨d.py,e.py,R2.dp hc.1 (a1.rep.mono st2.f),R2.dp hc.2 a2.rep,D.shaped hc.1,D.shaped hc.2,?_⟩
  rw [D.eq_py]
  exact pok q3 R2 (AE.fr (.bl _))
theorem me_eq {k:Nat} (hr:Room k X.A) (ha:ME X G W Γ a .fr ma) (hb:ME X G W Γ b .fr mb) : ME X G W Γ (.Compare a [.Eq] [b] pos) .fr (mEq ma mb):=
  peI (pe_cmpR (op_eqD hr.units) ha hb (nomark _)) fun σ H Q h=>two_eq (g:=fun k=>k) h
theorem mt_eq {k:Nat} (hr:Room k X.A) (ha:ME X G W Γ a .fr ma) (hb:ME X G W Γ b .fr mb) : MT X G W Γ (.Compare a [.Eq] [b] pos) (mTst (mEq ma mb)):=
  ptI (pt_cmpR (op_eqD hr.units) ha hb (nomark _)) fun σ H Q h=>two_eq (g:=fun k=>k) (tst h)
theorem mt_ne {k:Nat} (hr:Room k X.A) (ha:ME X G W Γ a .fr ma) (hb:ME X G W Γ b .fr mb) : MT X G W Γ (.Compare a [.NotEq] [b] pos) (mTst (mNe ma mb)):=
  ptI (pt_cmpR (op_neD hr.units) ha hb (nomark _)) fun σ H Q h=>two_eq (g:=fun k=>!k) (tst h)
/-- a is None -/
def D.isNon:D → Bool
  | .non=>true
  | _=>false
theorem Rep.isNon {F:Hp} {d:D} {v:V} (r:Rep F d v) : decide (v = .non) = d.isNon:=by cases r <;> rfl
def mIsN (g:Bool → Bool) (ma:M) : M:=fun s=>(ma s).bind fun d s1=>.ok (.bl (g d.isNon)) s1
theorem me_isN {j pos'} (ha:ME X G W Γ a .fr ma) : ME X G W Γ (.Compare a [.Is] [.Constant .none j pos'] pos) .fr (mIsN (fun k=>k) ma):=
  peI (pe_cmp (pc_isN ha)) fun σ H Q ⟨s,F,fp,R,q⟩=>⟨s,F,fp,R,pbind q fun d s1 x F1 fp1 H1 R1 st1 a1 q1=>by
    rw [a1.rep.isNon]
    exact pok q1 R1 (AE.fr (.bl _))⟩
theorem mt_isN {j pos'} (ha:ME X G W Γ a .fr ma) : MT X G W Γ (.Compare a [.Is] [.Constant .none j pos'] pos) (mTst (mIsN (fun k=>k) ma)):=
  ptI (pt_cmp (pc_isN ha)) fun σ H Q ⟨s,F,fp,R,q⟩=>⟨s,F,fp,R,pbind (r:=ma s) (by unfold mTst mIsN at q; cases hm:ma s <;> rw [hm] at q <;> exact q) fun d s1 x F1 fp1 H1 R1 st1 (a1:AE G .fr fp H d x F1 fp1 H1) (q1:PostG X.K G W Γ σ F1 fp1 H1 AB Q (.ok d.isNon s1))=>by
    refine ⟨d.isNon,?_,pok q1 R1 rfl⟩
    rw [a1.rep.isNon]⟩
theorem mt_notN {j pos'} (ha:ME X G W Γ a .fr ma) : MT X G W Γ (.Compare a [.IsNot] [.Constant .none j pos'] pos) (mTst (mIsN (fun k=>!k) ma)):=
  ptI (pt_cmp (pc_notN ha)) fun σ H Q ⟨s,F,fp,R,q⟩=>⟨s,F,fp,R,pbind (r:=ma s) (by unfold mTst mIsN at q; cases hm:ma s <;> rw [hm] at q <;> exact q) fun d s1 x F1 fp1 H1 R1 st1 (a1:AE G .fr fp H d x F1 fp1 H1) (q1:PostG X.K G W Γ σ F1 fp1 H1 AB Q (.ok (!d.isNon) s1))=>by
    refine ⟨!d.isNon,?_,pok q1 R1 rfl⟩
    rw [a1.rep.isNon]⟩
end
end Bk
namespace Bk
open PySem PySem.Spec PyProof.Rows L2
variable [Cls]
section
variable {n:Nat} {G:Gr n} {Γ : List Ty} {s:Env} {σ:Sl} {F H:Hp} {fp:Fp}
theorem Rel.newG (R:Rel G Γ s σ F fp H) {p:Addr} (hp:H p = none) : G.H p = none:=Classical.byContradiction fun q=>R.stp.there p q hp
theorem Rel.newFp (R:Rel G Γ s σ F fp H) {p:Addr} (hp:H p = none) : ∀ i,p ∉ fp i:=fun i h=>(R.oh i p h).ne hp
/-- a new thing is laid; nothing is fixed -/
theorem Rel.lay (R:Rel G Γ s σ F fp H) {p:Addr} {o:HO} (hp:H p = none) : Rel G Γ s σ F fp (upd H p o) ∧ Stp L0 F fp H F fp (upd H p o):=by
  have hne:∀ {a u},H a = some u → a ≠ p:=fun {a u} e=>ne_of_none e hp
  have x:Stp L0 F fp H F fp (upd H p o):=by
    refine ⟨Same.refl F,fun a u e _ _=>?_,fun i a h=>.inl ⟨i,h⟩,fun _ _ e _=>e,fun a h=>?_,fun a h=>h.upd hp,fun t=>t.lay hp⟩
    · rw [upd_ne (hne e)]; exact e
    · obtain ⟨u,eu⟩:=Option.ne_none_iff_exists'.mp h
      rw [upd_ne (hne eu)]; exact h
  refine ⟨R.step x (fun i a h u e=>?_) R.nF (fun a u e1 e2=>?_),x⟩
  · rw [upd_ne (hne e)]; exact e
  · rw [e1] at e2; cases e2
/-- a thing of nobody is fixed -/
theorem Rel.free (R:Rel G Γ s σ F fp H) {p:Addr} {o:HO} (hF:F p = none) (hf:∀ i,p ∉ fp i) (hG:G.H p = none) (hH:H p = some o) (ho:∀ ps,o ≠ .tbl ps:=by intro _ z; cases z) (hm:isMk o = false:=by rfl) : Rel G Γ s σ (upd F p o) fp H:=by
  have mks:∀ a u,upd F p o a = some u → isMk u = true → F a = some u:=fun a u e h=>by
    by_cases z:a = p
    · subst z; rw [upd_same] at e; cases e; rw [hm] at h; cases h
    · rw [upd_ne z] at e; exact e
  have sm:Same F (upd F p o):=fun a u e=>by rw [upd_ne (ne_of_none e hF)]; exact e
  refine ⟨R.ls,R.lσ,fun i t d ht hs=>?_,R.dis,fun i a h=>?_,R.oh,fun a u e=>?_,fun a ob e=>?_,?_,R.par,R.loc,R.tb.fixF (R.tb.no hH ho),R.sto.mono sm (fun a o e h=>.inl (mks a o e h)) fun _ _ _ e=>e,fun hs a u e h=>R.nmk hs a u (mks a u e h) h⟩
  · obtain ⟨v,h1,h2⟩:=R.slot i t d ht hs
    exact ⟨v,h1,h2.mono sm fun _ _ _ e=>e⟩
  · have z:a ≠ p:=fun z=>by subst z; exact hf i h
    rw [upd_ne z]; exact R.nF i a h
  · by_cases z:a = p
    · subst z
      rw [upd_same] at e
      cases e
      refine ⟨fun _=>?_,fun q=>(by rw [hm] at q; cases q),fun u eu=>?_⟩
      rotate_left
      · unfold lentO at eu
        split at eu
        · cases hm
        · cases eu
      unfold lk
      cases zL:G.L a with
      | none=>exact hH
      | some ob=>
        obtain ⟨o',e',_⟩:=R.lkd a ob zL
        rw [hF] at e'
        cases e'
    · rw [upd_ne z] at e; exact R.ext a u e
  · obtain ⟨o',e1,e2⟩:=R.lkd a ob e
    exact ⟨o',sm a o' e1,e2⟩
  · refine ⟨R.stp.f.trans sm,R.stp.keep,R.stp.new,fun a h0 e n=>?_,R.stp.there,R.stp.nt,fun t=>(R.stp.tab t).fixF (R.tb.no hH ho)⟩
    have z:a ≠ p:=fun z=>by subst z; exact h0.ne hG
    rw [upd_ne z]; exact R.stp.nof a h0 e n
theorem Stp.free {L:Lk} {F0 H0:Hp} {fp0:Fp} (x:Stp L F0 fp0 H0 F fp H) {p:Addr} {o:HO} (hF:F p = none) (h0:(∃ i,p ∈ fp0 i) ∨ H0 p = none) (hT:∀ q ∈ Cls.tabs,p ≠ q.1) : Stp L F0 fp0 H0 (upd F p o) fp H:=by
  refine ⟨x.f.trans fun a u e=>by rw [upd_ne (ne_of_none e hF)]; exact e,x.keep,x.new,fun a h e n=>?_,x.there,x.nt,fun t=>(x.tab t).fixF hT⟩
  have z:a ≠ p:=fun z=>by
    subst z
    rcases h0 with ⟨i,hi⟩ | q
    · exact n i hi
    · exact h.ne q
  rw [upd_ne z]; exact x.nof a h e n
/-- a slot is forgotten -/
theorem Rel.drop (R:Rel G Γ s σ F fp H) (i:Nat) (hi:i ≠ Γ.length) : Rel G Γ (s.set i none) σ F fp H:=by
  refine ⟨by rw [List.length_set]; exact R.ls,R.lσ,fun j t d ht hs=>?_,R.dis,R.nF,R.oh,R.ext,R.lkd,R.stp,R.par,R.loc,R.tb,by rw [List.getElem?_set_ne hi]; exact R.sto,R.nmk⟩
  by_cases z:i = j
  · subst z
    by_cases hl:i < s.length
    · rw [List.getElem?_set_self hl] at hs; cases hs
    · rw [List.getElem?_eq_none (by rw [List.length_set]; omega)] at hs; cases hs
  · rw [List.getElem?_set_ne z] at hs
    exact R.slot j t d ht hs
/-- a slot's holdings are let go -/
def fpSet (fp:Fp) (i:Nat) (B:List Addr) : Fp:=fun j=>if j = i then B else fp j
theorem fpSet_same {fp:Fp} {i:Nat} {B:List Addr} : fpSet fp i B i = B:=if_pos rfl
theorem fpSet_ne {fp:Fp} {i j:Nat} {B:List Addr} (h:j ≠ i) : fpSet fp i B j = fp j:=if_neg h
theorem fpSet_mem {fp:Fp} {i j:Nat} {B:List Addr} {a:Addr} (h:a ∈ fpSet fp i B j) : (j = i ∧ a ∈ B) ∨ (j ≠ i ∧ a ∈ fp j):=by
  by_cases z:j = i
  · rw [z,fpSet_same] at h; exact .inl ⟨z,h⟩
  · rw [fpSet_ne z] at h; exact .inr ⟨z,h⟩
/-- what stands at slot i is told anew: d,of the slot's kind,at v,its holdings B -/
theorem Rel.put (R:Rel G Γ s σ F fp H) {i:Nat} {t:Ty} {d:D} {v:V} {B:List Addr} (ht:Γ[i]? = some t) (a:At F H t d v B) (hB:∀ b ∈ B,F b = none ∧ (∀ j,j ≠ i → b ∉ fp j) ∧ (G.H b = none ∨ (i < n ∧ b ∈ G.fp i)))
    (hp:i < n → t = .fr ∨ σ[i]? = some (some v)) : Rel G Γ (s.set i (some d)) (σ.set i (some v)) F (fpSet fp i B) H:=by
  have hi:i < Γ.length:=(List.getElem?_eq_some_iff.mp ht).1
  refine ⟨by rw [List.length_set]; exact R.ls,by rw [List.length_set]; exact R.lσ,fun j t' d' ht' hs=>?_,fun j k b hj hk=>?_,fun j b hj=>?_,fun j b hj=>?_,R.ext,R.lkd,?_,fun j hj hf=>?_,fun j b hj=>?_,R.tb,by rw [List.getElem?_set_ne (Nat.ne_of_lt hi),fpSet_ne (Nat.ne_of_gt hi)]; exact R.sto,R.nmk⟩
  · by_cases z:i = j
    · subst z
      rw [List.getElem?_set_self (Nat.lt_of_lt_of_le hi R.ls)] at hs
      rw [ht] at ht'
      cases ht'
      cases hs
      exact ⟨v,by rw [List.getElem?_set_self (by rw [R.lσ]; exact hi)],by rw [fpSet_same]; exact a⟩
    · rw [List.getElem?_set_ne z] at hs
      obtain ⟨v',h1,h2⟩:=R.slot j t' d' ht' hs
      exact ⟨v',by rw [List.getElem?_set_ne z]; exact h1,by rw [fpSet_ne (Ne.symm z)]; exact h2⟩
  · rcases fpSet_mem hj with ⟨z1,h1⟩ | ⟨z1,h1⟩
    · rcases fpSet_mem hk with ⟨z2,h2⟩ | ⟨z2,h2⟩
      · rw [z1,z2]
      · exact absurd h2 ((hB b h1).2.1 k z2)
    · rcases fpSet_mem hk with ⟨z2,h2⟩ | ⟨z2,h2⟩
      · exact absurd h1 ((hB b h2).2.1 j z1)
      · exact R.dis j k b h1 h2
  · rcases fpSet_mem hj with ⟨z1,h1⟩ | ⟨z1,h1⟩
    · exact .inl (hB b h1).1
    · exact R.nF j b h1
  · rcases fpSet_mem hj with ⟨z1,h1⟩ | ⟨z1,h1⟩
    · exact a.there b h1
    · exact R.oh j b h1
  · refine ⟨R.stp.f,R.stp.keep,fun j b hj=>?_,R.stp.nof,R.stp.there,R.stp.nt,R.stp.tab⟩
    rcases fpSet_mem hj with ⟨z1,h1⟩ | ⟨z1,h1⟩
    · exact (hB b h1).2.2.elim .inr fun q=>.inl ⟨i,q.2⟩
    · exact R.stp.new j b h1
  · by_cases z:i = j
    · subst z
      rcases hp hj with q | q
      · rw [q] at ht; exact absurd ht hf
      · rw [List.getElem?_set_self (by rw [R.lσ]; exact hi),←q]
        exact R.par i hj hf
    · rw [List.getElem?_set_ne z]; exact R.par j hj hf
  · rcases fpSet_mem hj with ⟨z1,h1⟩ | ⟨z1,h1⟩
    · rw [z1]; exact (hB b h1).2.2.imp_right fun q=>⟨.inl q.1,q.2⟩
    · exact R.loc j b h1
theorem Stp.put {L:Lk} {F0 H0:Hp} {fp0:Fp} (x:Stp L F0 fp0 H0 F fp H) {i:Nat} {B:List Addr} (hB:∀ b ∈ B,(∃ j,b ∈ fp0 j) ∨ H0 b = none) : Stp L F0 fp0 H0 F (fpSet fp i B) H:=by
  refine ⟨x.f,x.keep,fun j b hj=>?_,x.nof,x.there,x.nt,x.tab⟩
  rcases fpSet_mem hj with ⟨z1,h1⟩ | ⟨z1,h1⟩
  · exact hB b h1
  · exact x.new j b h1
/-- a slot of fixed things -/
theorem Rel.putF (R:Rel G Γ s σ F fp H) {i:Nat} {d:D} {v:V} (ht:Γ[i]? = some .fr) (r:Rep F d v) : Rel G Γ (s.set i (some d)) (σ.set i (some v)) F (fpSet fp i []) H:=
  R.put ht ⟨r,rfl⟩ (fun _ h=>by cases h) fun _=>.inl rfl
theorem Stp.putF {L:Lk} {F0 H0:Hp} {fp0:Fp} (x:Stp L F0 fp0 H0 F fp H) {i:Nat} : Stp L F0 fp0 H0 F (fpSet fp i []) H:=x.put fun _ h=>by cases h
/-- a thing of nobody,new since fp0 and H0,is changed -/
theorem Rel.tmp (R:Rel G Γ s σ F fp H) {p:Addr} {o u:HO} (hF:F p = none) (hf:∀ i,p ∉ fp i) (hG:G.H p = none) (hH:H p = some u) (ho:tupO o = false:=by rfl) (hu:tupO u = false:=by rfl) : Rel G Γ s σ F fp (upd H p o):=by
  refine ⟨R.ls,R.lσ,fun i t d ht hs=>?_,R.dis,R.nF,fun i a h=>?_,fun a u e=>?_,R.lkd,?_,R.par,R.loc,R.tb.own ⟨u,hH,hu⟩,R.sto.mono (Same.refl F) (fun _ _ e _=>.inl e) (fun b hb u' e=>by rw [upd_ne (fun z=>hf _ (by rw [←z]; exact hb))]; exact e),R.nmk⟩
  · obtain ⟨v,h1,h2⟩:=R.slot i t d ht hs
    refine ⟨v,h1,h2.mono (Same.refl F) fun a ha o' e=>?_⟩
    rw [upd_ne (fun z=>hf i (by rw [←z]; exact ha))]; exact e
  · exact (R.oh i a h).ner fun z=>hf i (by rw [←z]; exact h)
  · exact (R.ext a u e).eq (upd_ne (fun z=>by rw [z,hF] at e; cases e))
  · refine ⟨R.stp.f,fun a u' e hz h=>?_,R.stp.new,R.stp.nof,fun a h=>?_,fun a h=>(R.stp.nt a h).upd' ho,fun t=>(R.stp.tab t).own ⟨u,hH,hu⟩⟩
    · rw [upd_ne (fun z=>by rw [z,hG] at e; cases e)]; exact R.stp.keep a u' e hz h
    · rw [upd_ne (fun z=>h (by rw [z]; exact hG))]; exact R.stp.there a h
theorem Stp.tmp {L:Lk} {F0 H0:Hp} {fp0:Fp} (x:Stp L F0 fp0 H0 F fp H) {p:Addr} {o:HO} (h0:H0 p = none) (hn:Nt H p) (ho:tupO o = false:=by rfl) : Stp L F0 fp0 H0 F fp (upd H p o):=by
  refine ⟨x.f,fun a u' e hz h=>?_,x.new,x.nof,fun a h=>?_,fun a h=>(x.nt a h).upd' ho,fun t=>(x.tab t).own hn⟩
  · rw [upd_ne (fun z=>by rw [z,h0] at e; cases e)]; exact x.keep a u' e hz h
  · rw [upd_ne (fun z=>h (by rw [z]; exact h0))]; exact x.there a h
/-- what a temporary thing owns stays while other things go on -/
theorem AE.go {t:Ty} {d:D} {v:V} {F1 H1 H0:Hp} {fp1 fp0:Fp} (h:AE G t fp0 H0 d v F fp H) (x:Stp L0 F fp H F1 fp1 H1) (tb:TbOk F H) : AE G t fp0 H0 d v F1 fp1 H1:=by
  obtain ⟨B,a,q⟩:=h
  refine ⟨B,a.mono x.f fun b hb o e=>x.keep b o e ((a.there b hb).ntab tb) (q b hb).2.1,fun b hb=>?_⟩
  obtain ⟨q1,q2,q3,q4⟩:=q b hb
  refine ⟨x.nof b (a.there b hb) q1 q2,fun i hi=>?_,q3,q4⟩
  rcases x.new i b hi with ⟨j,hj⟩ | z
  · exact q2 j hj
  · exact (a.there b hb).ne z
end
section
variable {X:Cx} {n:Nat} {G:Gr n} {W:WX} {Γ : List Ty}
def mNil:MA:=fun s=>.ok [] s
def mCons (m:M) (ms:MA) : MA:=fun s=>(m s).bind fun d s1=>(ms s1).bind fun ds s2=>.ok (d :: ds) s2
def LenOk (ms:MA) (k:Nat) : Prop:=∀ s ds s',ms s = .ok ds s' → ds.length = k
theorem len_nil:LenOk mNil 0:=fun s ds s' h=>by cases h; rfl
theorem len_cons {m:M} {ms:MA} {k:Nat} (h:LenOk ms k) : LenOk (mCons m ms) (k + 1):=fun s ds s' e=>by
  unfold mCons at e
  cases e1:m s with
  | ok d s1=>
    rw [e1,R.bind_ok] at e
    cases e2:ms s1 with
    | ok ds2 s2=>
      rw [e2,R.bind_ok] at e
      cases e
      exact congrArg Nat.succ (h _ _ _ e2)
    | err _ _=>rw [e2] at e; cases e
    | stuck=>rw [e2] at e; cases e
  | err _ _=>rw [e1] at e; cases e
  | stuck=>rw [e1] at e; cases e
theorem ma_nil:MAs X G W Γ [] mNil:=paI pa_nil fun σ H Q ⟨s,F,fp,R,q⟩=>pok q R .nil
theorem ma_cons {e:Expr} {es:List Expr} {m:M} {ms:MA} (h:ME X G W Γ e .fr m) (hs:MAs X G W Γ es ms) (he:starEach (e :: es) X.env = (false,eval e X.env) :: starEach es X.env:=by rfl) : MAs X G W Γ (e :: es) (mCons m ms):=
  paI (pa_cons h hs he) fun σ H Q ⟨s,F,fp,R,q⟩=>⟨s,F,fp,R,pbind q fun d s1 x F1 fp1 H1 R1 st1 a1 q1=>⟨s1,F1,fp1,R1,pbind q1 fun ds s2 xs F2 fp2 H2 R2 st2 a2 q2=>pok q2 R2 (.cons (a1.rep.mono st2.f) a2)⟩⟩
def mTup (ms:MA) : M:=fun s=>(ms s).bind fun ds s1=>.ok (.tup ds) s1
def mLst (ms:MA) : M:=fun s=>(ms s).bind fun ds s1=>.ok (.lst ds) s1
theorem pmapL {K:PySem.W.Frag} {σ:Sl} {H:Hp} {Q:List V → Hp → Prop} {ms:MA} {k:Nat} (hl:LenOk ms k) {s:Env} {F:Hp} {fp:Fp} {α β:Type} {A:α → β → Hp → Fp → Hp → Prop} {Qo:β → Hp → Prop} {g:List D → Env → R α} (R0:Rel G Γ s σ F fp H)
    (q:PostG K G W Γ σ F fp H A Qo ((ms s).bind g)) (f:∀ ds s1 vs F1 fp1 H1,ds.length = k → Rel G Γ s1 σ F1 fp1 H1 → Stp L0 F fp H F1 fp1 H1 → Reps F1 ds vs → PostG K G W Γ σ F1 fp1 H1 A Qo (g ds s1) → Q vs H1) :
    PostG K G W Γ σ F fp H AA Q (ms s):=by
  cases e:ms s with
  | ok ds s1=>
    rw [e] at q
    exact fun vs F1 fp1 H1 R1 x z=>f ds s1 vs F1 fp1 H1 (hl _ _ _ e) R1 x z (PostG.shift x q)
  | err er s1=>rw [e] at q; exact q
  | stuck=>rw [e] at q; exact q
theorem small_line {k:Nat} (h:k ≤ 1000) : k ≤ sizeLine:=Nat.le_of_lt (small1000 h)
theorem me_tup {es:List Expr} {ms:MA} {k:Nat} {x1:Nat} {pos:Pos} (h:MAs X G W Γ es ms) (hl:LenOk ms k) (hk:k ≤ 1000) : ME X G W Γ (.Tuple es x1 pos) .fr (mTup ms):=
  peI (pe_tup h) fun σ H Q ⟨s,F,fp,R,q⟩=>⟨s,F,fp,R,pmapL hl R q fun ds s1 vs F1 fp1 H1 el R1 st1 a1 q1=>by
    refine ⟨by rw [←a1.len,el]; exact small_line hk,fun p hp=>?_⟩
    obtain ⟨R2,st2⟩:=R1.fix (o:=.tup vs) hp
    exact q1 _ _ _ _ R2 st2 (AE.fr (.tup upd_same (a1.mono st2.f)))⟩
theorem me_lst {es:List Expr} {ms:MA} {k:Nat} {pos:Pos} (h:MAs X G W Γ es ms) (hl:LenOk ms k) (hk:k ≤ 1000) : ME X G W Γ (.List es pos) .ol (mLst ms):=
  peI (pe_lst h) fun σ H Q ⟨s,F,fp,R,q⟩=>⟨s,F,fp,R,pmapL hl R q fun ds s1 vs F1 fp1 H1 el R1 st1 a1 q1=>by
    refine ⟨by rw [←a1.len,el]; exact small_line hk,fun p hp=>?_⟩
    obtain ⟨R2,st2⟩:=R1.lay (o:=.lst vs) hp
    refine q1 _ _ _ _ R2 st2 ⟨[p],⟨p,ds,vs,rfl,rfl,upd_same,a1,rfl⟩,fun b hb=>?_⟩
    rw [List.mem_singleton.mp hb]
    exact ⟨R1.nowF hp,R1.newFp hp,R1.newG hp,.inr (Classical.byContradiction fun z=>st1.there p z hp)⟩⟩
/-- an own list is fixed for good -/
theorem me_fix {e:Expr} {m:M} (h:ME X G W Γ e .ol m) : ME X G W Γ e .fr m:=
  peI h fun σ H Q ⟨s,F,fp,R,q⟩=>⟨s,F,fp,R,by
    cases em:m s with
    | ok d s1=>
      rw [em] at q
      rintro v F1 fp1 H1 R1 st1 ⟨B,⟨p,ds,vs,rfl,rfl,e3,r,rfl⟩,tq⟩
      obtain ⟨t1,t2,t3,t4⟩:=tq p (List.mem_singleton.mpr rfl)
      exact q _ _ _ _ (R1.free t1 t2 t3 e3) (st1.free t1 t4 (R1.tb.no e3)) (AE.fr (.lst upd_same (r.mono fun a u e=>by rw [upd_ne (ne_of_none e t1)]; exact e)))
    | err er s1=>rw [em] at q; exact q
    | stuck=>rw [em] at q; exact q⟩
/-- an own name is given away -/
def mMov (i:Nat) : M:=fun s=>match s[i]? with
  | some (some d)=>.ok d (s.set i none)
  | _=>.stuck
theorem me_mov {e:Expr} {i:Nat} {t:Ty} (h:PE X e (tVar i)) (ht:Γ[i]? = some t) (hn:n ≤ i) : ME X G W Γ e t (mMov i):=peI h fun σ H Q ⟨s,F,fp,R,q⟩=>by
  unfold mMov at q
  split at q
  · rename_i d e
    obtain ⟨v,hv,a⟩:=R.slot i _ _ ht e
    refine ⟨v,hv,q v F (fpSet fp i []) H ?_ ?_ ⟨fp i,a,fun b hb=>⟨R.nFs ht hb,fun j hj=>?_,R.locN ht hn hb,.inl ⟨i,hb⟩⟩⟩⟩
    · have hi:i < Γ.length:=(List.getElem?_eq_some_iff.mp ht).1
      have R':=R.drop i (Nat.ne_of_lt hi)
      refine ⟨R'.ls,R'.lσ,fun j t d hj hs=>?_,fun j k b hj hk=>?_,fun j b hj=>?_,fun j b hj=>?_,R'.ext,R'.lkd,?_,R'.par,fun j b hj=>?_,R'.tb,by rw [fpSet_ne (Nat.ne_of_gt hi)]; exact R'.sto,R'.nmk⟩
      · obtain ⟨v',h1,h2⟩:=R'.slot j t d hj hs
        have z:j ≠ i:=fun z=>by
          subst z
          by_cases hl:j < s.length
          · rw [List.getElem?_set_self hl] at hs; cases hs
          · rw [List.getElem?_eq_none (by rw [List.length_set]; omega)] at hs; cases hs
        exact ⟨v',h1,by rw [fpSet_ne z]; exact h2⟩
      · rcases fpSet_mem hj with ⟨_,z⟩ | ⟨z1,h1⟩
        · cases z
        · rcases fpSet_mem hk with ⟨_,z⟩ | ⟨z2,h2⟩
          · cases z
          · exact R.dis j k b h1 h2
      · rcases fpSet_mem hj with ⟨_,z⟩ | ⟨z1,h1⟩
        · cases z
        · exact R.nF j b h1
      · rcases fpSet_mem hj with ⟨_,z⟩ | ⟨z1,h1⟩
        · cases z
        · exact R.oh j b h1
      · exact R.stp.put fun _ z=>by cases z
      · rcases fpSet_mem hj with ⟨_,z⟩ | ⟨z1,h1⟩
        · cases z
        · exact R.loc j b h1
    · exact (Stp.refl F fp H).put fun _ z=>by cases z
    · rcases fpSet_mem hj with ⟨_,z⟩ | ⟨z1,h1⟩
      · cases z
      · exact z1 (R.dis j i b h1 hb)
  · exact q.elim
def dIx:D → D → Option D
  | .tup ds,.int i=>atI ds i
  | .lst ds,.int i=>atI ds i
  | _,_=>none
theorem Reps.atI {F:Hp} {ds:List D} {vs:List V} {i:Int} {d:D} (r:Reps F ds vs) (h:L2.atI ds i = some d) : ∃ v,L2.atI vs i = some v ∧ Rep F d v:=by
  unfold L2.atI at h ⊢
  rw [r.len] at h
  cases e:ixN vs.length i with
  | none=>rw [e] at h; cases h
  | some j=>
    rw [e] at h
    exact r.get h
theorem me_ix {a b:Expr} {ma mb:M} {pos:Pos} (ha:ME X G W Γ a .fr ma) (hb:ME X G W Γ b .fr mb) (hs:PlainIx b) : ME X G W Γ (.Subscript a b pos) .fr (mOp dIx ma mb):=
  peI (pe_ix ix_seq ha hb hs) fun σ H Q h=>two' (fun d e z x y s F fp H Q R hz rx ry k=>by
    cases ry with
    | int i=>
      cases rx with
      | tup e r=>
        obtain ⟨v,h1,h2⟩:=r.atI hz
        exact .inr (.inl ⟨_,_,_,v,rfl,rfl,R.sqT e,h1,k v h2⟩)
      | lst e r=>
        obtain ⟨v,h1,h2⟩:=r.atI hz
        exact .inl ⟨_,_,_,v,rfl,rfl,R.sqL e,h1,k v h2⟩
      | _=>cases hz
    | _=>cases rx <;> cases hz) h
def mCall (f:List D → Option D) (ms:MA) : M:=fun s=>(ms s).bind fun ds s1=>R.opt (f ds) s1
/-- what a built-in function's rule asks is given by a function on data -/
theorem cb {K:PySem.W.Frag} {σ:Sl} {H:Hp} {Q:VK} {r:List V → Hp → VK → Prop} {f:List D → Option D} (hf:∀ ds z vs s F fp H (Q:VK),Rel G Γ s σ F fp H → f ds = some z → Reps F ds vs → (∀ w,Rep F z w → Q w H) → r vs H Q) {ms:MA}
    (h:tM K G W Γ .fr (mCall f ms) σ H Q) : tCB r (tMA K G W Γ ms) σ H Q:=by
  obtain ⟨s,F,fp,R,q⟩:=h
  refine ⟨s,F,fp,R,pbind q fun ds s1 vs F1 fp1 H1 R1 st1 a1 q1=>?_⟩
  obtain ⟨z,ez,q3⟩:=opt_post q1
  exact hf ds z vs s1 F1 fp1 H1 Q R1 ez a1 fun w rw=>pok q3 R1 (AE.fr rw)
/-- .. of which a new list comes -/
theorem cbL {K:PySem.W.Frag} {σ:Sl} {H:Hp} {Q:VK} {r:List V → Hp → VK → Prop} {f:List D → Option (List D)} (hf:∀ ds zs vs s F fp H (Q:VK),Rel G Γ s σ F fp H → f ds = some zs → Reps F ds vs → (∀ p ws,H p = none → Reps F zs ws → Q (.ref p) (upd H p (.lst ws))) → r vs H Q) {ms:MA}
    (h:tM K G W Γ .ol (mCall (fun ds=>(f ds).map D.lst) ms) σ H Q) : tCB r (tMA K G W Γ ms) σ H Q:=by
  obtain ⟨s,F,fp,R,q⟩:=h
  refine ⟨s,F,fp,R,pbind q fun ds s1 vs F1 fp1 H1 R1 st1 a1 q1=>?_⟩
  obtain ⟨z,ez,q3⟩:=opt_post q1
  obtain ⟨zs,ez2,rfl⟩:=Option.map_eq_some_iff.mp ez
  refine hf ds zs vs s1 F1 fp1 H1 Q R1 ez2 a1 fun p ws hp rw=>?_
  obtain ⟨R2,st2⟩:=R1.lay (o:=.lst ws) hp
  refine q3 _ _ _ _ R2 st2 ⟨[p],⟨p,zs,ws,rfl,rfl,upd_same,rw,rfl⟩,fun b hb=>?_⟩
  rw [List.mem_singleton.mp hb]
  exact ⟨R1.nowF hp,R1.newFp hp,R1.newG hp,.inr (Classical.byContradiction fun z=>st1.there p z hp)⟩
def bLen:List D → Option D
  | [.tup ds]=>some (.int ds.length)
  | [.lst ds]=>some (.int ds.length)
  | [.str x]=>if x.length ≤ sizeLine then some (.int x.length) else none
  | _=>none
def bAbs:List D → Option D
  | [.int i]=>some (.int (if i < 0 then -i else i))
  | _=>none
theorem Reps.one {F:Hp} {d:D} {vs:List V} (h:Reps F [d] vs) : ∃ v,vs = [v] ∧ Rep F d v:=by
  cases h with
  | cons r t=>cases t; exact ⟨_,rfl,r⟩
theorem Reps.two {F:Hp} {d e:D} {vs:List V} (h:Reps F [d,e] vs) : ∃ v w,vs = [v,w] ∧ Rep F d v ∧ Rep F e w:=by
  cases h with
  | cons r t=>
    obtain ⟨w,rfl,q⟩:=t.one
    exact ⟨_,w,rfl,r,q⟩
theorem cb_len {K:PySem.W.Frag} {σ:Sl} {H:Hp} {Q:VK} {ms:MA} (h:tM K G W Γ .fr (mCall bLen ms) σ H Q) : tCB (fun xs H Q=>∃ x k,xs = [x] ∧ LenV K x H k ∧ Q (.int k) H) (tMA K G W Γ ms) σ H Q:=cb (fun ds z vs s F fp H Q R hz rs k=>by
  match ds,hz with
  | [.tup es],hz=>
    cases hz
    obtain ⟨v,rfl,r⟩:=rs.one
    cases r with
    | tup e t=>exact ⟨_,_,rfl,.inr ⟨_,R.sqT e,t.len⟩,k _ (.int _)⟩
  | [.lst es],hz=>
    cases hz
    obtain ⟨v,rfl,r⟩:=rs.one
    cases r with
    | lst e t=>exact ⟨_,_,rfl,.inl ⟨_,R.sqL e,t.len⟩,k _ (.int _)⟩
  | [.str x],hz=>
    obtain ⟨hc,rfl⟩:=if_some hz
    obtain ⟨v,rfl,r⟩:=rs.one
    cases r
    exact ⟨_,_,rfl,⟨hc,rfl⟩,k _ (.int _)⟩) h
theorem cb_abs {K:PySem.W.Frag} {σ:Sl} {H:Hp} {Q:VK} {ms:MA} (h:tM K G W Γ .fr (mCall bAbs ms) σ H Q) : tCB (fun xs H Q=>∃ i,xs = [.int i] ∧ Q (.int (if i < 0 then -i else i)) H) (tMA K G W Γ ms) σ H Q:=cb (fun ds z vs s F fp H Q R hz rs k=>by
  match ds,hz with
  | [.int i],hz=>
    cases hz
    obtain ⟨v,rfl,r⟩:=rs.one
    cases r
    exact ⟨i,rfl,k _ (.int _)⟩) h
theorem me_len {e:Expr} {ms:MA} (h:PE X e (tCB (fun xs H Q=>∃ x k,xs = [x] ∧ LenV X.K x H k ∧ Q (.int k) H) (tMA X.K G W Γ ms))) : ME X G W Γ e .fr (mCall bLen ms):=peI h fun _ _ _=>cb_len
theorem me_abs {e:Expr} {ms:MA} (h:PE X e (tCB (fun xs H Q=>∃ i,xs = [.int i] ∧ Q (.int (if i < 0 then -i else i)) H) (tMA X.K G W Γ ms))) : ME X G W Γ e .fr (mCall bAbs ms):=peI h fun _ _ _=>cb_abs
inductive Tn where
  | int | bool | str | tuple | list | dict
def Tn.name:Tn → String
  | .int=> "int" | .bool=> "bool" | .str=> "str" | .tuple=> "tuple" | .list=> "list" | .dict=> "dict"
def D.ty:D → String
  | .non=> "NoneType" | .bl _=> "bool" | .int _=> "int" | .str _=> "str" | .tup _=> "tuple" | .lst _=> "list" | .dct _ _=> "dict" | .obj _ _ _=> "object" | .rcd _ _=> "object" | .ptr _=> "object"
def isT:Tn → D → Bool
  | .int,.int _=>true
  | .int,.bl _=>true
  | .bool,.bl _=>true
  | .str,.str _=>true
  | .tuple,.tup _=>true
  | .list,.lst _=>true
  | .dict,.dct _ _=>true
  | _,_=>false
theorem kit_is (t:Tn) (d:D) : kitB d.ty t.name = some (isT t d):=by
  cases t <;> cases d <;> (dsimp only [D.ty,Tn.name,isT]; decide +kernel)
def D.isDct:D → Bool
  | .dct _ _=>true
  | .obj _ _ _=>true
  | .rcd _ _=>true
  | .ptr _=>true
  | _=>false
theorem Rel.tyX {s:Env} {σ:Sl} {F H:Hp} {fp:Fp} {K:PySem.W.Frag} (R:Rel G Γ s σ F fp H) {d:D} {v:V} (h:d.isDct = false) (r:Rep F d v) : TyX K H v (.type d.ty):=by
  cases r with
  | non=>exact .base .non
  | bl b=>exact .base (.bl b)
  | int i=>exact .base (.int i)
  | str x=>exact .base (.str x)
  | tup e _=>exact .base (.tup (R.at e rfl))
  | lst e _=>exact .base (.lst (R.at e rfl))
  | dct e _ _=>cases h
  | obj e _ _=>cases h
  | emp _=>cases h
  | rcd _ _ _=>cases h
  | ptr _=>cases h
  | ptrL _=>cases h
def mIsi (t:Tn) (m:M) : M:=fun s=>(m s).bind fun d s1=>if d.isDct = true then .stuck else .ok (.bl (isT t d)) s1
theorem me_isi {e:Expr} {t:Tn} {m:M} (h:PE X e (tCB (rIsi X.K) (tCons (tM X.K G W Γ .fr m) (tCons (tC (.ty t.name)) tNil)))) : ME X G W Γ e .fr (mIsi t m):=peI h fun σ H Q ⟨s,F,fp,R,q⟩=>⟨s,F,fp,R,pbind q fun d s1 x F1 fp1 H1 R1 st1 a1 q1=>by
    by_cases hd:d.isDct = true
    · rw [if_pos hd] at q1; exact q1.elim
    · rw [if_neg hd] at q1
      exact ⟨x,.ty t.name,.type d.ty,.type t.name,isT t d,rfl,.ty _,R1.tyX (by simpa using hd) a1.rep,kit_ty (kit_is t d),pok q1 R1 (AE.fr (.bl _))⟩⟩
end
inductive SO where
  | nx (s:Env) | rt (d:D) (s:Env) | bk (s:Env) | ct (s:Env) | err (e:Err) (s:Env) | stuck
abbrev MS:=Env → SO
def SO.bind (o:SO) (k:Env → SO) : SO:=match o with
  | .nx s=>k s
  | .rt d s=>.rt d s
  | .bk s=>.bk s
  | .ct s=>.ct s
  | .err e s=>.err e s
  | .stuck=>.stuck
@[simp] theorem SO.bind_nx (s:Env) (k:Env → SO) : (SO.nx s).bind k = k s:=rfl
@[simp] theorem SO.bind_rt (d:D) (s:Env) (k:Env → SO) : (SO.rt d s).bind k = .rt d s:=rfl
@[simp] theorem SO.bind_bk (s:Env) (k:Env → SO) : (SO.bk s).bind k = .bk s:=rfl
@[simp] theorem SO.bind_ct (s:Env) (k:Env → SO) : (SO.ct s).bind k = .ct s:=rfl
@[simp] theorem SO.bind_err (e:Err) (s:Env) (k:Env → SO) : (SO.err e s).bind k = .err e s:=rfl
@[simp] theorem SO.bind_stuck (k:Env → SO) : SO.stuck.bind k = .stuck:=rfl
def R.so {α:Type} (r:R α) (k:α → Env → SO) : SO:=match r with
  | .ok a s=>k a s
  | .err e s=>.err e s
  | .stuck=>.stuck
@[simp] theorem R.so_ok {α:Type} (a:α) (s:Env) (k:α → Env → SO) : (R.ok a s).so k = k a s:=rfl
@[simp] theorem R.so_err {α:Type} (e:Err) (s:Env) (k:α → Env → SO) : (R.err e s:R α).so k = .err e s:=rfl
@[simp] theorem R.so_stuck {α:Type} (k:α → Env → SO) : (R.stuck:R α).so k = .stuck:=rfl
/-- what is wanted behind a statement that began with σ,F,fp,H -/
def PostS (K:PySem.W.Frag) {n:Nat} (G:Gr n) (W:WX) (Γ : List Ty) (rt:Ty) (F:Hp) (fp:Fp) (H:Hp) (Dn:Ends) : SO → Prop
  | .nx s'=>∀ σ' F' fp' H',Rel G Γ s' σ' F' fp' H' → Stp L0 F fp H F' fp' H' → Dn.nx σ' H'
  | .bk s'=>∀ σ' F' fp' H',Rel G Γ s' σ' F' fp' H' → Stp L0 F fp H F' fp' H' → Dn.bk σ' H'
  | .ct s'=>∀ σ' F' fp' H',Rel G Γ s' σ' F' fp' H' → Stp L0 F fp H F' fp' H' → Dn.ct σ' H'
  | .rt d s'=>∀ v σ' F' fp' H',Rel G Γ s' σ' F' fp' H' → Stp L0 F fp H F' fp' H' → AE G rt fp H d v F' fp' H' → Dn.rt v H'
  | .err e s'=>∀ cls od σ' F' fp' H',Rel G Γ s' σ' F' fp' H' → Stp L0 F fp H F' fp' H' → ErrAt K F' e cls od → W cls od σ' H'
  | .stuck=>False
def tS (K:PySem.W.Frag) {n:Nat} (G:Gr n) (W:WX) (Γ : List Ty) (rt:Ty) (m:MS) : TS:=fun Dn σ H=>∃ s F fp,Rel G Γ s σ F fp H ∧ PostS K G W Γ rt F fp H Dn (m s)
abbrev MSt (X:Cx) {n:Nat} (G:Gr n) (W:WX) (Γ : List Ty) (rt:Ty) (st:Stmt) (m:MS) : Prop:=PS X st (tS X.K G W Γ rt m)
abbrev MSs (X:Cx) {n:Nat} (G:Gr n) (W:WX) (Γ : List Ty) (rt:Ty) (st:List Stmt) (m:MS) : Prop:=PSs X st (tS X.K G W Γ rt m)
section
variable {X:Cx} {n:Nat} {G:Gr n} {W:WX} {Γ : List Ty} {rt:Ty}
theorem PostS.shift {K:PySem.W.Frag} {F F1 H H1:Hp} {fp fp1:Fp} {Dn:Ends} (x:Stp L0 F fp H F1 fp1 H1) : ∀ {o:SO},PostS K G W Γ rt F fp H Dn o → PostS K G W Γ rt F1 fp1 H1 Dn o
  | .nx _,h=>fun σ' F' fp' H' R y=>h σ' F' fp' H' R (x.trans y)
  | .bk _,h=>fun σ' F' fp' H' R y=>h σ' F' fp' H' R (x.trans y)
  | .ct _,h=>fun σ' F' fp' H' R y=>h σ' F' fp' H' R (x.trans y)
  | .rt _ _,h=>fun v σ' F' fp' H' R y a=>h v σ' F' fp' H' R (x.trans y) (a.back x)
  | .err _ _,h=>fun cls od σ' F' fp' H' R y z=>h cls od σ' F' fp' H' R (x.trans y) z
  | .stuck,h=>h
/-- an expression ahead of the rest of a statement -/
theorem sbind {α β:Type} {K:PySem.W.Frag} {σ:Sl} {F H:Hp} {fp:Fp} {Dn:Ends} {A:α → β → Hp → Fp → Hp → Prop} {Q:β → Hp → Prop} {k:α → Env → SO} :
    ∀ {r:R α},PostS K G W Γ rt F fp H Dn (r.so k) → (∀ a s1 b F1 fp1 H1,Rel G Γ s1 σ F1 fp1 H1 → Stp L0 F fp H F1 fp1 H1 → A a b F1 fp1 H1 → PostS K G W Γ rt F1 fp1 H1 Dn (k a s1) → Q b H1) → PostG K G W Γ σ F fp H A Q r
  | .ok a s1,h,f=>fun b F1 fp1 H1 R1 x z=>f a s1 b F1 fp1 H1 R1 x z (PostS.shift x h)
  | .err _ _,h,_=>fun cls od F' fp' H' R y z=>h cls od σ F' fp' H' R y z
  | .stuck,h,_=>h
/-- a statement ahead of the rest -/
theorem scont {K:PySem.W.Frag} {F H:Hp} {fp:Fp} {Dn:Ends} {N:L2.St → Hp → Prop} {k:Env → SO} :
    ∀ {o:SO},PostS K G W Γ rt F fp H Dn (o.bind k) → (∀ s1 σ1 F1 fp1 H1,Rel G Γ s1 σ1 F1 fp1 H1 → Stp L0 F fp H F1 fp1 H1 → PostS K G W Γ rt F1 fp1 H1 Dn (k s1) → N σ1 H1) → PostS K G W Γ rt F fp H { Dn with nx:=N } o
  | .nx s1,h,f=>fun σ1 F1 fp1 H1 R1 x=>f s1 σ1 F1 fp1 H1 R1 x (PostS.shift x h)
  | .bk _,h,_=>h
  | .ct _,h,_=>h
  | .rt _ _,h,_=>h
  | .err _ _,h,_=>h
  | .stuck,h,_=>h
def sNil:MS:=fun s=>.nx s
def sSeq (a b:MS) : MS:=fun s=>(a s).bind b
theorem snil {K:PySem.W.Frag} {σ:Sl} {F H:Hp} {fp:Fp} {Dn:Ends} {s:Env} (R:Rel G Γ s σ F fp H) (q:PostS K G W Γ rt F fp H Dn (.nx s)) : Dn.nx σ H:=q σ F fp H R (Stp.refl F fp H)
theorem ms_nil:MSs X G W Γ rt [] sNil:=pssI pss_nil fun Dn σ H ⟨s,F,fp,R,q⟩=>snil R q
theorem ms_cons {st:Stmt} {r:List Stmt} {a b:MS} (h:MSt X G W Γ rt st a) (hr:MSs X G W Γ rt r b) : MSs X G W Γ rt (st :: r) (sSeq a b):=
  pssI (pss_cons h hr) fun Dn σ H ⟨s,F,fp,R,q⟩=>⟨s,F,fp,R,scont q fun s1 σ1 F1 fp1 H1 R1 x q1=>⟨s1,F1,fp1,R1,q1⟩⟩
theorem ms_one {st:Stmt} {a:MS} (h:MSt X G W Γ rt st a) : MSs X G W Γ rt [st] a:=pss_one h
def sSet (i:Nat) (m:M) : MS:=fun s=>(m s).so fun d s1=>.nx (s1.set i (some d))
theorem ms_set {st:Stmt} {i:Nat} {m:M} (h:PS X st (tAsg (tM X.K G W Γ .fr m) (gName i))) (ht:Γ[i]? = some .fr) : MSt X G W Γ rt st (sSet i m):=
  psI h fun Dn σ H ⟨s,F,fp,R,q⟩=>⟨s,F,fp,R,sbind q fun d s1 v F1 fp1 H1 R1 x a q1=>q1 _ _ _ _ (R1.putF ht a.rep) (Stp.putF (Stp.refl F1 fp1 H1))⟩
/-- a new own thing comes to a name -/
theorem ms_setO {st:Stmt} {i:Nat} {t:Ty} {m:M} (h:PS X st (tAsg (tM X.K G W Γ t m) (gName i))) (ht:Γ[i]? = some t) (hn:n ≤ i) : MSt X G W Γ rt st (sSet i m):=
  psI h fun Dn σ H ⟨s,F,fp,R,q⟩=>⟨s,F,fp,R,by
    cases e:m s with
    | ok d s1=>
      have q:PostS X.K G W Γ rt F fp H Dn (.nx (s1.set i (some d))):=by
        have q':=q
        unfold sSet at q'
        rw [e] at q'
        exact q'
      rintro v F1 fp1 H1 R1 x ⟨B,a,tq⟩
      refine q _ F1 (fpSet fp1 i B) H1 (R1.put ht a (fun b hb=>?_) fun z=>absurd z (Nat.not_lt.mpr hn)) (x.put fun b hb=>(tq b hb).2.2.2)
      obtain ⟨q1,q2,q3,q4⟩:=tq b hb
      exact ⟨q1,fun j _=>q2 j,.inl q3⟩
    | err er s1=>unfold sSet at q; rw [e] at q; exact fun cls od F' fp' H' R y z=>q cls od σ F' fp' H' R y z
    | stuck=>unfold sSet at q; rw [e] at q; exact q⟩
def sRet (m:M) : MS:=fun s=>(m s).so fun d s1=>.rt d s1
theorem ms_ret {e:Expr} {m:M} {pos:Pos} (h:ME X G W Γ e rt m) : MSt X G W Γ rt (.Return (some e) pos) (sRet m):=
  psI (ps_ret h) fun Dn σ H ⟨s,F,fp,R,q⟩=>⟨s,F,fp,R,by
    unfold sRet at q
    cases em:m s with
    | ok d s1=>rw [em] at q; exact fun v F1 fp1 H1 R1 x a=>q v σ F1 fp1 H1 R1 x a
    | err er s1=>rw [em] at q; exact fun cls od F' fp' H' R y z=>q cls od σ F' fp' H' R y z
    | stuck=>rw [em] at q; exact q⟩
def sRetN:MS:=fun s=>.rt .non s
def sExp (m:M) : MS:=fun s=>(m s).so fun _ s1=>.nx s1
def sIf (c:MB) (a b:MS) : MS:=fun s=>(c s).so fun k s1=>if k = true then a s1 else b s1
theorem ms_if {c:Expr} {a b:List Stmt} {mc:MB} {ma mb:MS} {pos:Pos} (hc:MT X G W Γ c mc) (ha:MSs X G W Γ rt a ma) (hb:MSs X G W Γ rt b mb) : MSt X G W Γ rt (.If c a b pos) (sIf mc ma mb):=
  psI (ps_if hc ha hb) fun Dn σ H ⟨s,F,fp,R,q⟩=>⟨s,F,fp,R,sbind q fun k s1 k' F1 fp1 H1 R1 x a q1=>by
    cases a
    cases k with
    | true=>exact ⟨s1,F1,fp1,R1,q1⟩
    | false=>exact ⟨s1,F1,fp1,R1,q1⟩⟩
theorem ms_pass {pos:Pos} : MSt X G W Γ rt (.Pass pos) sNil:=psI ps_pass fun Dn σ H ⟨s,F,fp,R,q⟩=>snil R q
abbrev MG:=D → Env → Option Env
abbrev MGs:=List D → Env → Option Env
def tG {n:Nat} (G:Gr n) (Γ : List Ty) (js:List Nat) (g:MG) : TG:=fun v σ H Q=>∃ d s F fp,Rel G Γ s σ F fp H ∧ Rep F d v ∧ ∃ s',g d s = some s' ∧ ∀ σ' fp',Rel G Γ s' σ' F fp' H → Stp L0 F fp H F fp' H → (∀ j,j ∉ js → σ'[j]? = σ[j]?) → Q σ' H
def tGs {n:Nat} (G:Gr n) (Γ : List Ty) (js:List Nat) (g:MGs) : TGs:=fun vs σ H Q=>∃ ds s F fp,Rel G Γ s σ F fp H ∧ Reps F ds vs ∧ ∃ s',g ds s = some s' ∧ ∀ σ' fp',Rel G Γ s' σ' F fp' H → Stp L0 F fp H F fp' H → (∀ j,j ∉ js → σ'[j]? = σ[j]?) → Q σ' H
theorem pgI {e:Expr} {t t':TG} (h:PG X e t) (f:∀ v σ H Q,t' v σ H Q → t v σ H Q) : PG X e t':=⟨fun pins s σ H v u Q I r q=>h.run pins s σ H v u Q I r (f v σ H Q q)⟩
end
section
variable {X:Cx} {n:Nat} {G:Gr n} {W:WX} {Γ : List Ty} {rt:Ty}
theorem pgsI {es:List Expr} {t t':TGs} (h:PGs X es t) (f:∀ v σ H Q,t' v σ H Q → t v σ H Q) : PGs X es t':=⟨fun pins s σ H v u Q I r q=>h.run pins s σ H v u Q I r (f v σ H Q q)⟩
theorem pg_or {e:Expr} {t t':TG} (h:PG X e t) (h':PG X e t') : PG X e (fun v σ H Q=>t v σ H Q ∨ t' v σ H Q):=⟨fun pins s σ H v u Q I r q=>q.elim (h.run pins s σ H v u Q I r) (h'.run pins s σ H v u Q I r)⟩
abbrev MGt (X:Cx) {n:Nat} (G:Gr n) (Γ : List Ty) (js:List Nat) (e:Expr) (g:MG) : Prop:=PG X e (tG G Γ js g)
abbrev MGts (X:Cx) {n:Nat} (G:Gr n) (Γ : List Ty) (js:List Nat) (es:List Expr) (g:MGs) : Prop:=PGs X es (tGs G Γ js g)
def gN (i:Nat) : MG:=fun d s=>some (s.set i (some d))
theorem mg_n {e:Expr} {i:Nat} (h:PG X e (gName i)) (ht:Γ[i]? = some .fr) : MGt X G Γ [i] e (gN i):=
  pgI h fun v σ H Q ⟨d,s,F,fp,R,r,s',e,k⟩=>by
    cases e
    exact k _ _ (R.putF ht r) (Stp.putF (Stp.refl F fp H)) fun j hj=>List.getElem?_set_ne fun z=>hj (by rw [z]; exact List.mem_singleton.mpr rfl)
def gE:MGs:=fun ds s=>match ds with
  | []=>some s
  | _=>none
def gC (g:MG) (gs:MGs) : MGs:=fun ds s=>match ds with
  | []=>none
  | d :: ds=>(g d s).bind (gs ds)
theorem mg_nil:MGts X G Γ [] [] gE:=pgsI pgs_nil fun vs σ H Q ⟨ds,s,F,fp,R,r,s',e,k⟩=>by
  cases r with
  | nil=>cases e; exact ⟨rfl,k σ fp R (Stp.refl F fp H) fun _ _=>rfl⟩
  | cons _ _=>cases e
theorem mg_cons {e:Expr} {es:List Expr} {g:MG} {gs:MGs} {js js':List Nat} (h:MGt X G Γ js e g) (hs:MGts X G Γ js' es gs) (ha:(assignEach (e :: es) X.env).map (·.2) = assign e X.env :: (assignEach es X.env).map (·.2):=by rfl) : MGts X G Γ (js ++ js') (e :: es) (gC g gs):=
  pgsI (pgs_cons h hs ha) fun vs σ H Q ⟨ds,s,F,fp,R,r,s',e,k⟩=>by
    cases r with
    | nil=>cases e
    | @cons d ds v vs r t=>
      obtain ⟨s1,e1,e2⟩:=Option.bind_eq_some_iff.mp (show (g d s).bind (gs ds) = some s' from e)
      exact ⟨v,vs,rfl,d,s,F,fp,R,r,s1,e1,fun σ1 fp1 R1 x1 k1=>⟨ds,s1,F,fp1,R1,t,s',e2,fun σ2 fp2 R2 x2 k2=>k σ2 fp2 R2 (x1.trans x2) fun j hj=>(k2 j fun z=>hj (List.mem_append_right _ z)).trans (k1 j fun z=>hj (List.mem_append_left _ z))⟩⟩
/-- (a,b,..) = a tuple or a list -/
def gT (k:Nat) (gs:MGs) : MG:=fun d s=>match d with
  | .tup ds=>if ds.length = k then gs ds s else none
  | .lst ds=>if ds.length = k then gs ds s else none
  | _=>none
theorem mg_tup {es:List Expr} {x1:Nat} {pos:Pos} {gs:MGs} {k:Nat} {js:List Nat} (hc:X.calm = true) (h:MGts X G Γ js es gs) (hn:(assignEach es X.env).length = k:=by rfl) (hst:(assignEach es X.env).findIdx? (·.1) = none:=by rfl) : MGt X G Γ js (.Tuple es x1 pos) (gT k gs):=
  pgI (pg_or (pg_tup hc h hn hst) (pg_lst hc h hn hst)) fun v σ H Q ⟨d,s,F,fp,R,r,s',e,q⟩=>by
    cases r with
    | @tup ds vs a ea rs=>
      have e:(if ds.length = k then gs ds s else none) = some s':=e
      by_cases hk:ds.length = k
      · rw [if_pos hk] at e
        exact .inl ⟨a,vs,rfl,R.sqT ea,by rw [←rs.len]; exact hk,ds,s,F,fp,R,rs,s',e,q⟩
      · rw [if_neg hk] at e; cases e
    | @lst ds vs a ea rs=>
      have e:(if ds.length = k then gs ds s else none) = some s':=e
      by_cases hk:ds.length = k
      · rw [if_pos hk] at e
        exact .inr ⟨a,vs,rfl,R.sqL ea,by rw [←rs.len]; exact hk,ds,s,F,fp,R,rs,s',e,q⟩
      · rw [if_neg hk] at e; cases e
    | _=>cases e
def SO.opt (o:Option Env) : SO:=match o with
  | some s=>.nx s
  | none=>.stuck
def sAsg (g:MG) (m:M) : MS:=fun s=>(m s).so fun d s1=>SO.opt (g d s1)
theorem ms_asg {st:Stmt} {g:MG} {m:M} {js:List Nat} (h:PS X st (tAsg (tM X.K G W Γ .fr m) (tG G Γ js g))) : MSt X G W Γ rt st (sAsg g m):=
  psI h fun Dn σ H ⟨s,F,fp,R,q⟩=>⟨s,F,fp,R,sbind q fun d s1 v F1 fp1 H1 R1 x a q1=>by
    cases e1:g d s1 with
    | none=>rw [e1] at q1; exact q1.elim
    | some s2=>
      rw [e1] at q1
      exact ⟨d,s1,F1,fp1,R1,a.rep,s2,e1,fun σ2 fp2 R2 x2 _=>q1 σ2 F1 fp2 H1 R2 x2⟩⟩
/-- a,b = e1,e2 -/
def sPar (i j:Nat) (ms:MA) : MS:=fun s=>(ms s).so fun ds s1=>match ds with
  | [d,e]=>.nx ((s1.set i (some d)).set j (some e))
  | _=>.stuck
def sApp (i:Nat) (m:M) : MS:=fun s=>match s[i]? with
  | some (some _)=>(m s).so fun d s1=>match s1[i]? with
    | some (some (.lst ds))=>if ds.length < 16000000 then .nx (s1.set i (some (.lst (ds ++ [d])))) else .stuck
    | _=>.stuck
  | _=>.stuck
theorem sixteen {k:Nat} (h:k < 16000000) : k < sizeLine:=by rw [sizeLine_eq]; omega
/-- the thing at an owned address is changed -/
theorem Rel.own {s:Env} {σ:Sl} {F H:Hp} {fp:Fp} (R:Rel G Γ s σ F fp H) {i:Nat} {p:Addr} {o:HO} {d:D} {t:Ty} (ht:Γ[i]? = some t) (hp:p ∈ fp i) (v:V) (hv:σ[i]? = some (some v)) (a:At F (upd H p o) t d v (fp i)) (ho:tupO o = false:=by rfl) :
    Rel G Γ (s.set i (some d)) σ F fp (upd H p o) ∧ Stp L0 F fp H F fp (upd H p o):=by
  have hi:i < Γ.length:=(List.getElem?_eq_some_iff.mp ht).1
  have hF:F p = none:=R.nFs ht hp
  have x:Stp L0 F fp H F fp (upd H p o):=by
    refine ⟨Same.refl F,fun b u e _ hb=>?_,fun j b h=>.inl ⟨j,h⟩,fun _ _ e _=>e,fun b h=>?_,fun b h=>h.upd' ho,fun t=>t.own (R.oh i p hp)⟩
    · rw [upd_ne (fun z=>hb i (by rw [z]; exact hp))]; exact e
    · by_cases z:b = p
      · rw [z,upd_same]; exact Option.some_ne_none _
      · rw [upd_ne z]; exact h
  refine ⟨⟨by rw [List.length_set]; exact R.ls,R.lσ,fun j t' d' ht' hs=>?_,R.dis,R.nF,fun j b h=>x.nt b (R.oh j b h),fun b u e=>?_,R.lkd,R.stp.trans x,R.par,R.loc,x.tab R.tb,by
    rw [List.getElem?_set_ne (Nat.ne_of_lt hi)]
    exact R.sto.mono (Same.refl F) (fun _ _ e _=>.inl e) (fun b hb u e=>by rw [upd_ne (fun w=>Nat.ne_of_lt hi (R.dis _ _ p hp (by rw [←w]; exact hb)))]; exact e),R.nmk⟩,x⟩
  · by_cases z:i = j
    · subst z
      rw [List.getElem?_set_self (Nat.lt_of_lt_of_le hi R.ls)] at hs
      cases hs
      rw [ht] at ht'
      cases ht'
      exact ⟨v,hv,a⟩
    · rw [List.getElem?_set_ne z] at hs
      obtain ⟨v',h1,h2⟩:=R.slot j t' d' ht' hs
      refine ⟨v',h1,h2.mono (Same.refl F) fun b hb u e=>?_⟩
      rw [upd_ne (fun w=>z (R.dis i j p hp (by rw [←w]; exact hb)))]; exact e
  · exact (R.ext b u e).eq (upd_ne (fun z=>by rw [z,hF] at e; cases e))
theorem ms_app {e:Expr} {pos:Pos} {i:Nat} {m:M} (h:PE X e (tBM X.K "list" rAppend (tVar i) (tCons (tM X.K G W Γ .fr m) tNil))) (ht:Γ[i]? = some .ol) (hs:swapsWith e none pos.line X.env = pure false:=by rfl) : MSt X G W Γ rt (.Expr e pos) (sApp i m):=
  psI (ps_expr h hs) fun Dn σ H ⟨s,F,fp,R,q⟩=>by
    unfold sApp at q
    split at q
    · rename_i d0 e0
      obtain ⟨v,hv,a0⟩:=R.slot i _ _ ht e0
      obtain ⟨p,ds0,vs0,_,rfl,e3,_,e4⟩:=id a0
      refine ⟨.ref p,hv,.inl ⟨rfl,vs0,.of e3⟩,s,F,fp,R,sbind q fun d s1 w F1 fp1 H1 R1 x b q1=>?_⟩
      split at q1
      · rename_i ds e1
        by_cases hl:ds.length < 16000000
        · rw [if_pos hl] at q1
          obtain ⟨v',hv',p',ds',vs',z1,z2,z3,z4,z5⟩:=R1.slot i _ _ ht e1
          rw [hv] at hv'
          cases hv'
          cases z1
          cases z2
          refine ⟨p,vs',w,rfl,rfl,z3,by rw [←z4.len]; exact sixteen hl,?_⟩
          have hp:p ∈ fp1 i:=by rw [z5]; exact List.mem_singleton.mpr rfl
          obtain ⟨R2,x2⟩:=R1.own (o:=.lst (vs' ++ [w])) (d:=.lst (ds ++ [d])) ht hp (.ref p) hv ⟨p,ds ++ [d],vs' ++ [w],rfl,rfl,upd_same,z4.app (.cons b.rep .nil),z5⟩
          exact q1 _ _ _ _ R2 x2
        · rw [if_neg hl] at q1; exact q1.elim
      · exact q1.elim
    · exact q.elim
/-- J walks the things ds,whatever comes to be meanwhile -/
def Wk {n:Nat} (G:Gr n) (Γ : List Ty) (J:It) (F:Hp) (ds:List D) : Prop:=∀ i s σ F' fp' H',Rel G Γ s σ F' fp' H' → Same F F' →
  (∀ d,ds[i]? = some d → J.go i H' ∧ ∀ x H'',J.yld i H' x H'' → ∃ F'',Rel G Γ s σ F'' fp' H'' ∧ Stp L0 F' fp' H' F'' fp' H'' ∧ Rep F'' d x) ∧ (ds.length ≤ i → J.stop i H')
def tI (K:PySem.W.Frag) {n:Nat} (G:Gr n) (W:WX) (Γ : List Ty) (mi:MA) : TI:=fun σ H R=>∃ s F fp,Rel G Γ s σ F fp H ∧ PostG K G W Γ σ F fp H (fun ds J F' _ _=>Wk G Γ J F' ds) R (mi s)
abbrev MI (X:Cx) {n:Nat} (G:Gr n) (W:WX) (Γ : List Ty) (tg it:Expr) (mi:MA) : Prop:=PI X tg it (tI X.K G W Γ mi)
theorem piI {tg e:Expr} {t t':TI} (h:PI X tg e t) (f:∀ σ H R,t' σ H R → t σ H R) : PI X tg e t':=⟨fun pins s σ H R I q=>h.run pins s σ H R I (f σ H R q)⟩
theorem wk_list {K:PySem.W.Frag} {F:Hp} {a:Addr} {vs:List V} {ds:List D} (e:F a = some (.lst vs)) (r:Reps F ds vs) : Wk G Γ (Itl K a) F ds:=fun i s σ F' fp' H' R x=>by
  have q:SqL K H' a vs:=R.sqL (x a _ e)
  refine ⟨fun d hd=>?_,fun h=>⟨vs,q,by rw [←r.len]; exact h⟩⟩
  obtain ⟨v,hv,rv⟩:=r.get hd
  refine ⟨⟨vs,v,q,hv⟩,fun y H'' hy=>?_⟩
  obtain ⟨e1,e2⟩:=hy
  subst e1
  have e3:=e2 vs q
  rw [hv] at e3
  cases e3
  exact ⟨F',R,Stp.refl F' fp' _,rv.mono x⟩
theorem wk_tup {K:PySem.W.Frag} {F:Hp} {a:Addr} {vs:List V} {ds:List D} (e:F a = some (.tup vs)) (r:Reps F ds vs) : Wk G Γ (Itt K a) F ds:=fun i s σ F' fp' H' R x=>by
  have q:SqT K H' a vs:=R.sqT (x a _ e)
  refine ⟨fun d hd=>?_,fun h=>⟨vs,q,by rw [←r.len]; exact h⟩⟩
  obtain ⟨v,hv,rv⟩:=r.get hd
  refine ⟨⟨vs,v,q,hv⟩,fun y H'' hy=>?_⟩
  obtain ⟨e1,e2⟩:=hy
  subst e1
  have e3:=e2 vs q
  rw [hv] at e3
  cases e3
  exact ⟨F',R,Stp.refl F' fp' _,rv.mono x⟩
/-- the ints lo,lo + 1,.. -/
def rng (lo:Int) : Nat → List D
  | 0=>[]
  | k + 1=>.int lo :: rng (lo + 1) k
theorem rng_len:∀ (k:Nat) (lo:Int),(rng lo k).length = k
  | 0,_=>rfl
  | k + 1,lo=>congrArg Nat.succ (rng_len k (lo + 1))
theorem rng_get:∀ (k:Nat) (lo:Int) (i:Nat),i < k → (rng lo k)[i]? = some (.int (lo + i))
  | 0,_,_,h=>by omega
  | k + 1,lo,0,_=>by show some (D.int lo) = some (D.int (lo + ((0:Nat) : Int))); rw [Int.natCast_zero,Int.add_zero]
  | k + 1,lo,i + 1,h=>by
    show (rng (lo + 1) k)[i]? = _
    rw [rng_get k (lo + 1) i (by omega)]
    congr 2
    omega
theorem wk_rng {F:Hp} {lo:Int} {k:Nat} : Wk G Γ (Itr lo k) F (rng lo k):=fun i s σ F' fp' H' R x=>by
  refine ⟨fun d hd=>?_,fun h=>by rw [rng_len] at h; exact h⟩
  have hi:i < k:=by
    have:=(List.getElem?_eq_some_iff.mp hd).1
    rw [rng_len] at this
    exact this
  rw [rng_get k lo i hi] at hd
  cases hd
  refine ⟨hi,fun y H'' hy=>?_⟩
  obtain ⟨e1,e2⟩:=hy
  subst e1 e2
  exact ⟨F',R,Stp.refl F' fp' _,.int _⟩
/-- a list or a tuple that is fixed -/
def mSeqI (m:M) : MA:=fun s=>(m s).bind fun d s1=>match d with
  | .tup ds=>.ok ds s1
  | .lst ds=>.ok ds s1
  | _=>.stuck
theorem pi_or {tg e:Expr} {t t':TI} (h:PI X tg e t) (h':PI X tg e t') : PI X tg e (fun σ H R=>t σ H R ∨ t' σ H R):=⟨fun pins s σ H R I q=>q.elim (h.run pins s σ H R I) (h'.run pins s σ H R I)⟩
theorem mi_seq {tg e:Expr} {m:M} (h:ME X G W Γ e .fr m) : MI X G W Γ tg e (mSeqI m):=
  piI (pi_or (pi_list h) (pi_tup h)) fun σ H Q ⟨s,F,fp,R,q⟩=>by
    unfold mSeqI at q
    cases em:m s with
    | ok d s1=>
      rw [em,Bk.R.bind_ok] at q
      cases d with
      | tup ds=>exact .inr ⟨s,F,fp,R,by
          rw [em]
          intro v F1 fp1 H1 R1 x a
          cases a.rep with
          | tup e1 r1=>exact ⟨_,rfl,⟨_,R1.sqT e1⟩,q _ F1 fp1 H1 R1 x (wk_tup e1 r1)⟩⟩
      | lst ds=>exact .inl ⟨s,F,fp,R,by
          rw [em]
          intro v F1 fp1 H1 R1 x a
          cases a.rep with
          | lst e1 r1=>exact ⟨_,rfl,⟨_,R1.sqL e1⟩,q _ F1 fp1 H1 R1 x (wk_list e1 r1)⟩⟩
      | _=>exact q.elim
    | err er s1=>rw [em] at q; exact .inl ⟨s,F,fp,R,by rw [em]; exact q⟩
    | stuck=>rw [em] at q; exact q.elim
def rg (i j:Int) : Bool:=decide (-(2 ^ 62) ≤ i ∧ i < 2 ^ 62 ∧ -(2 ^ 62) ≤ j ∧ j < 2 ^ 62)
def bRng1:List D → Option (List D)
  | [.int j]=>if rg 0 j = true then some (rng 0 j.toNat) else none
  | _=>none
def mRng (f:List D → Option (List D)) (ms:MA) : MA:=fun s=>(ms s).bind fun ds s1=>R.opt (f ds) s1
theorem mi_rng1 {tg e:Expr} {ms:MA} (h:PI X tg e (iRng1 (tMA X.K G W Γ ms))) : MI X G W Γ tg e (mRng bRng1 ms):=
  piI h fun σ H Q ⟨s,F,fp,R,q⟩=>⟨s,F,fp,R,pbind q fun ds s1 vs F1 fp1 H1 R1 x (a:Reps F1 ds vs) q1=>by
    obtain ⟨zs,ez,q2⟩:=opt_post q1
    match ds,ez with
    | [.int j],ez=>
      obtain ⟨v,rfl,r⟩:=a.one
      cases r
      obtain ⟨hj,rfl⟩:=if_some (show (if rg 0 j = true then some (rng 0 j.toNat) else none) = some zs from ez)
      obtain ⟨_,_,h3,h4⟩:=of_decide_eq_true hj
      exact ⟨j,rfl,h3,h4,pok q2 R1 wk_rng⟩⟩
def forM (g:MG) (b:MS) : List D → Env → SO
  | [],s=>.nx s
  | d :: ds,s=>match g d s with
    | none=>.stuck
    | some s1=>match b s1 with
      | .nx s2=>forM g b ds s2
      | .ct s2=>forM g b ds s2
      | .bk s2=>.nx s2
      | .rt d s2=>.rt d s2
      | .err e s2=>.err e s2
      | .stuck=>.stuck
def sFor (mi:MA) (g:MG) (b:MS) : MS:=fun s=>(mi s).so (forM g b)
theorem ms_for {st:Stmt} {mi:MA} {g:MG} {b:MS} {js:List Nat} (h:PS X st (tFor (tI X.K G W Γ mi) (tG G Γ js g) (tS X.K G W Γ rt b))) : MSt X G W Γ rt st (sFor mi g b):=
  psI h fun Dn σ H ⟨s,F,fp,R,q⟩=>⟨s,F,fp,R,sbind q fun ds s1 J F1 fp1 H1 R1 x (wk:Wk G Γ J F1 ds) q1=>by
    refine ⟨fun i k σ' H'=>k = ds.length - i ∧ i ≤ ds.length ∧ ∃ s' F' fp',Rel G Γ s' σ' F' fp' H' ∧ Stp L0 F1 fp1 H1 F' fp' H' ∧ PostS X.K G W Γ rt F' fp' H' Dn (forM g b (ds.drop i) s'),⟨ds.length,by simp,Nat.zero_le _,s1,F1,fp1,R1,Stp.refl F1 fp1 H1,q1⟩,?_⟩
    rintro i k σ' H' ⟨rfl,hi,s',F',fp',R',x',q'⟩
    obtain ⟨w1,w2⟩:=wk i s' σ' F' fp' H' R' x'.f
    by_cases hlt:i < ds.length
    · have hd:ds[i]? = some ds[i]:=by simp [hlt]
      have hdrop:ds.drop i = ds[i] :: ds.drop (i + 1):=List.drop_eq_getElem_cons hlt
      rw [hdrop] at q'
      obtain ⟨go,hy⟩:=w1 _ hd
      refine .inr ⟨go,fun σ2 H2=>i + 1 ≤ ds.length ∧ ∃ s2 F2 fp2,Rel G Γ s2 σ2 F2 fp2 H2 ∧ Stp L0 F1 fp1 H1 F2 fp2 H2 ∧ PostS X.K G W Γ rt F2 fp2 H2 Dn (forM g b (ds.drop (i + 1)) s2),fun σ2 H2 n2=>⟨ds.length - (i + 1),by omega,rfl,n2⟩,fun v H2 yv=>?_⟩
      obtain ⟨F2,R2,x2,r2⟩:=hy v H2 yv
      have q2:=PostS.shift x2 q'
      unfold forM at q2
      cases eg:g ds[i] s' with
      | none=>rw [eg] at q2; exact q2.elim
      | some s2=>
        rw [eg] at q2
        simp only [] at q2
        refine ⟨ds[i],s',F2,fp',R2,r2,s2,eg,fun σ3 fp3 R3 x3 _=>⟨s2,F2,fp3,R3,?_⟩⟩
        have q3:=PostS.shift x3 q2
        have xx:=(x'.trans x2).trans x3
        cases eb:b s2 with
        | nx s4=>rw [eb] at q3; exact fun σ4 F4 fp4 H4 R4 x4=>⟨hlt,s4,F4,fp4,R4,xx.trans x4,PostS.shift x4 q3⟩
        | ct s4=>rw [eb] at q3; exact fun σ4 F4 fp4 H4 R4 x4=>⟨hlt,s4,F4,fp4,R4,xx.trans x4,PostS.shift x4 q3⟩
        | bk s4=>rw [eb] at q3; exact q3
        | rt d s4=>rw [eb] at q3; exact q3
        | err e s4=>rw [eb] at q3; exact q3
        | stuck=>rw [eb] at q3; exact q3
    · have e:i = ds.length:=by omega
      subst e
      rw [List.drop_length] at q'
      exact .inl ⟨w2 (Nat.le_refl _),snil R' q'⟩⟩
def whileM (c:MB) (b:MS) : Nat → Env → SO
  | 0,_=>.stuck
  | k + 1,s=>(c s).so fun t s1=>if t = true then (match b s1 with
      | .nx s2=>whileM c b k s2
      | .ct s2=>whileM c b k s2
      | .bk s2=>.nx s2
      | .rt d s2=>.rt d s2
      | .err e s2=>.err e s2
      | .stuck=>.stuck) else .nx s1
def sWhile (fuel:Env → Nat) (c:MB) (b:MS) : MS:=fun s=>whileM c b (fuel s) s
theorem ms_while {st:Stmt} {fuel:Env → Nat} {c:MB} {b:MS} (h:PS X st (tWhile (tMB X.K G W Γ c) (tS X.K G W Γ rt b))) : MSt X G W Γ rt st (sWhile fuel c b):=
  psI h fun Dn σ H ⟨s,F,fp,R,q⟩=>by
    refine ⟨fun k σ' H'=>∃ s' F' fp',Rel G Γ s' σ' F' fp' H' ∧ PostS X.K G W Γ rt F' fp' H' Dn (whileM c b k s'),⟨fuel s,s,F,fp,R,q⟩,?_⟩
    rintro k σ' H' ⟨s',F',fp',R',q'⟩
    cases k with
    | zero=>exact q'.elim
    | succ k=>
      refine ⟨s',F',fp',R',sbind q' fun t s1 t' F1 fp1 H1 R1 x a q1=>?_⟩
      cases a
      cases t with
      | false=>exact snil R1 q1
      | true=>
        rw [if_pos rfl] at q1
        refine ⟨fun σ2 H2=>∃ s2 F2 fp2,Rel G Γ s2 σ2 F2 fp2 H2 ∧ PostS X.K G W Γ rt F2 fp2 H2 Dn (whileM c b k s2),fun σ2 H2 n2=>⟨k,Nat.lt_succ_self k,n2⟩,s1,F1,fp1,R1,?_⟩
        cases eb:b s1 with
        | nx s4=>rw [eb] at q1; exact fun σ4 F4 fp4 H4 R4 x4=>⟨s4,F4,fp4,R4,PostS.shift x4 q1⟩
        | ct s4=>rw [eb] at q1; exact fun σ4 F4 fp4 H4 R4 x4=>⟨s4,F4,fp4,R4,PostS.shift x4 q1⟩
        | bk s4=>rw [eb] at q1; exact q1
        | rt d s4=>rw [eb] at q1; exact q1
        | err e s4=>rw [eb] at q1; exact q1
        | stuck=>rw [eb] at q1; exact q1
end
/-- the own parameters as a call leaves them -/
def msk:List Ty → Env → Env
  | t :: ts,o :: s=>(if t = .fr then none else o) :: msk ts s
  | _,_=>[]
theorem msk_get:∀ {ts:List Ty} {s:Env} {i:Nat} {t:Ty} {d:D},ts[i]? = some t → (msk ts s)[i]? = some (some d) → t ≠ .fr ∧ s[i]? = some (some d)
  | [],_,_,_,_,h,_=>by simp at h
  | _ :: _,[],_,_,_,_,h=>by simp [msk] at h
  | t' :: ts,o :: s,0,t,d,h,e=>by
    simp at h
    subst h
    have e:some (if t' = .fr then none else o) = some (some d):=e
    by_cases z:t' = .fr
    · rw [if_pos z] at e; cases e
    · rw [if_neg z] at e; exact ⟨z,e⟩
  | t' :: ts,o :: s,i + 1,t,d,h,e=>msk_get (ts:=ts) (s:=s) (i:=i) (by simpa using h) e
def runF (ts:List Ty) (rt:Ty) (k:Nat) (m:MS) (ds:List D) : R D:=match m (ds.map some ++ List.replicate (k - ds.length) none) with
  | .nx s=>if rt = .fr then .ok .non (msk ts s) else .stuck
  | .rt d s=>.ok d (msk ts s)
  | .err e s=>.err e (msk ts s)
  | _=>.stuck
structure PreS (L:Lk) (ts:List Ty) (ds:List D) (so:Option D) (vs:List V) (F:Hp) (fp:Fp) (H:Hp) : Prop where
  ld:ds.length = ts.length
  lv:vs.length = ts.length
  slot:∀ (i:Nat) (t:Ty) (d:D) (v:V),ts[i]? = some t → ds[i]? = some d → vs[i]? = some v → At F H t d v (fp i)
  dis:∀ i j a,a ∈ fp i → a ∈ fp j → i = j
  nF:∀ i a,a ∈ fp i → F a = none ∨ i = ts.length
  oh:∀ i a,a ∈ fp i → Nt H a
  ext:∀ a o,F a = some o → ExO L H a o
  lkd:∀ a ob,L a = some ob → ∃ o,F a = some o ∧ isDct o = true
  tb:TbOk F H
  sto:StOk F H (so.map some) (fp ts.length)
abbrev Pre (L:Lk) (ts:List Ty) (ds:List D) (vs:List V) (F:Hp) (fp:Fp) (H:Hp) : Prop:=PreS L ts ds none vs F fp H
structure PstS (L:Lk) (ts:List Ty) (sf:Bool) (vs:List V) (e:Env) (F:Hp) (fp:Fp) (H F':Hp) (fp':Fp) (H':Hp) : Prop where
  slot:∀ (i:Nat) (t:Ty) (d:D) (v:V),ts[i]? = some t → e[i]? = some (some d) → vs[i]? = some v → At F' H' t d v (fp' i)
  dis:∀ i j a,a ∈ fp' i → a ∈ fp' j → i = j
  nF:∀ i a,a ∈ fp' i → F' a = none ∨ i = ts.length
  oh:∀ i a,a ∈ fp' i → Nt H' a
  ext:∀ a o,F' a = some o → ExO L H' a o
  own:∀ i a,a ∈ fp' i → a ∈ fp i ∨ H a = none
  big:∀ i a,a ∈ fp' i → i < ts.length ∨ (sf = true ∧ i = ts.length)
  stp:Stp L0 F fp H F' fp' H'
  sto:StOk F' H' e[ts.length]? (fp' ts.length)
  nmk:sf = false → ∀ a o,F' a = some o → isMk o = true → F a = some o
abbrev Pst (L:Lk) (ts:List Ty) (vs:List V) (e:Env) (F:Hp) (fp:Fp) (H F':Hp) (fp':Fp) (H':Hp) : Prop:=PstS L ts false vs e F fp H F' fp' H'
theorem PstS.nF0 {L:Lk} {ts:List Ty} {vs:List V} {e:Env} {F H F' H':Hp} {fp fp':Fp} (p:PstS L ts false vs e F fp H F' fp' H') {i:Nat} {a:Addr} (h:a ∈ fp' i) : F' a = none:=(p.nF i a h).resolve_right fun z=>by
  rcases p.big i a h with q | ⟨q,_⟩
  · omega
  · cases q
theorem PreS.nF0 {L:Lk} {ts:List Ty} {ds:List D} {vs:List V} {F H:Hp} {fp:Fp} (p:PreS L ts ds none vs F fp H) {i:Nat} {a:Addr} (h:a ∈ fp i) : F a = none:=(p.nF i a h).resolve_right fun z=>by
  have q:fp ts.length = []:=p.sto
  rw [z,q] at h
  cases h
def PostF (K:PySem.W.Frag) (L:Lk) (ts:List Ty) (rt:Ty) (vs:List V) (F:Hp) (fp:Fp) (H:Hp) (Q:VK) (E:XK) : R D → Prop
  | .ok r e=>∀ v F' fp' H' B,Pst L ts vs e F fp H F' fp' H' → At F' H' rt r v B → (∀ a ∈ B,F' a = none ∧ (∀ i,a ∉ fp' i) ∧ H a = none) → Q v H'
  | .err er e=>∀ cls od F' fp' H',Pst L ts vs e F fp H F' fp' H' → ErrAt K F' er cls od → E cls od H'
  | .stuck=>False
def spM (K:PySem.W.Frag) (ts:List Ty) (rt:Ty) (f:List D → R D) : Sp:=fun vs H Q E=>∃ ds F fp L,Pre L ts ds vs F fp H ∧ PostF K L ts rt vs F fp H Q E (f ds)
theorem spM_len {K:PySem.W.Frag} {ts:List Ty} {rt:Ty} {f:List D → R D} {ps:List Str} (h:ts.length = ps.length) : ∀ vs H Q E,spM K ts rt f vs H Q E → vs.length = ps.length:=fun vs H Q E ⟨ds,F,fp,L,p,_⟩=>p.lv.trans h
def fpCut (n:Nat) (fp:Fp) : Fp:=fun i=>if i < n then fp i else []
theorem fpCut_mem {n:Nat} {fp:Fp} {i:Nat} {a:Addr} (h:a ∈ fpCut n fp i) : i < n ∧ a ∈ fp i:=by
  unfold fpCut at h
  by_cases z:i < n
  · rw [if_pos z] at h; exact ⟨z,h⟩
  · rw [if_neg z] at h; cases h
theorem fpCut_no {n:Nat} {fp:Fp} {i:Nat} (h:n ≤ i) : fpCut n fp i = []:=if_neg (Nat.not_lt.mpr h)
theorem msk_len:∀ {ts:List Ty} {s:Env},(msk ts s).length ≤ ts.length
  | [],_=>Nat.le_refl _
  | _ :: _,[]=>Nat.zero_le _
  | _ :: _,_ :: _=>Nat.succ_le_succ msk_len
theorem start_get {N:List Str} {vs:List V} {i:Nat} (h:i < vs.length) : (L2.start N vs)[i]? = some vs[i]?:=by
  unfold L2.start
  rw [List.getElem?_append_left (by rw [List.length_map]; exact h),List.getElem?_map,List.getElem?_eq_getElem h]
  rfl
theorem Rel.begin {L:Lk} {ts Γ : List Ty} {ds:List D} {vs:List V} {F H:Hp} {fp:Fp} {N:List Str} (p:Pre L ts ds vs F fp H) (hΓ : Γ.length = N.length) (hpre:Γ.take ts.length = ts) (hl:ts.length ≤ N.length) :
    Rel (n:=ts.length) ⟨L2.start N vs,F,fpCut ts.length fp,H,L,L0,false⟩ Γ (ds.map some ++ List.replicate (N.length - ds.length) none) (L2.start N vs) F (fpCut ts.length fp) H:=by
  refine ⟨?_,?_,fun i t d ht hs=>?_,fun i j a hi hj=>p.dis i j a (fpCut_mem hi).2 (fpCut_mem hj).2,fun i a h=>.inl (p.nF0 (fpCut_mem h).2),fun i a h=>p.oh i a (fpCut_mem h).2,p.ext,p.lkd,Stp.refl F _ H,fun _ _ _=>rfl,fun i a h=>.inr ⟨.inl (fpCut_mem h).1,h⟩,p.tb,?_,fun _ _ _ e _=>e⟩
  · rw [List.length_append,List.length_map,List.length_replicate,hΓ,p.ld]; omega
  · unfold L2.start
    rw [List.length_append,List.length_map,List.length_replicate,hΓ,p.lv]; omega
  · by_cases hi:i < ds.length
    · rw [List.getElem?_append_left (by rw [List.length_map]; exact hi),List.getElem?_map,List.getElem?_eq_getElem hi] at hs
      have hs:some (some ds[i]) = some (some d):=hs
      cases hs
      have hi':i < vs.length:=by rw [p.lv,←p.ld]; exact hi
      have hit:i < ts.length:=by rw [←p.ld]; exact hi
      have ht2:ts[i]? = some t:=by
        rw [←hpre,List.getElem?_take,if_pos hit]
        exact ht
      refine ⟨vs[i],by rw [start_get hi',List.getElem?_eq_getElem hi'],?_⟩
      unfold fpCut
      rw [if_pos hit]
      exact p.slot i t _ _ ht2 (List.getElem?_eq_getElem hi) (List.getElem?_eq_getElem hi')
    · rw [List.getElem?_append_right (by rw [List.length_map]; omega),List.getElem?_replicate] at hs
      split at hs <;> cases hs
  · rw [List.getElem?_eq_none (by rw [List.length_append,List.length_map,List.length_replicate,hΓ,p.ld]; omega)]
    exact fpCut_no (by omega)
theorem Rel.ends {L:Lk} {ts Γ : List Ty} {ds:List D} {vs:List V} {F H:Hp} {fp:Fp} {N:List Str} {s:Env} {σ:Sl} {F' H':Hp} {fp':Fp} (p:Pre L ts ds vs F fp H) (hpre:Γ.take ts.length = ts)
    (R:Rel (n:=ts.length) ⟨L2.start N vs,F,fpCut ts.length fp,H,L,L0,false⟩ Γ s σ F' fp' H') (x:Stp L0 F (fpCut ts.length fp) H F' fp' H') : Pst L ts vs (msk ts s) F fp H F' (fpCut ts.length fp') H':=by
  have hle:ts.length ≤ Γ.length:=by
    rw [←hpre,List.length_take]
    exact Nat.min_le_right _ _
  refine ⟨fun i t d v ht he hv=>?_,fun i j a hi hj=>R.dis i j a (fpCut_mem hi).2 (fpCut_mem hj).2,fun i a h=>.inl (R.nFt (Nat.lt_of_lt_of_le (fpCut_mem h).1 hle) (fpCut_mem h).2),fun i a h=>R.oh i a (fpCut_mem h).2,R.ext,fun i a h=>?_,fun i a h=>.inl (fpCut_mem h).1,?_,?_,fun _=>R.nmk rfl⟩
  · obtain ⟨hf,hs⟩:=msk_get ht he
    have hit:i < ts.length:=(List.getElem?_eq_some_iff.mp ht).1
    have hiv:i < vs.length:=by rw [p.lv]; exact hit
    have ht2:Γ[i]? = some t:=by
      rw [←hpre,List.getElem?_take,if_pos hit] at ht
      exact ht
    obtain ⟨v',h1,h2⟩:=R.slot i t d ht2 hs
    have e:=R.par i hit (by rw [ht2]; intro z; cases z; exact hf rfl)
    have e:σ[i]? = (L2.start N vs)[i]?:=e
    rw [h1,start_get hiv,hv] at e
    cases e
    unfold fpCut
    rw [if_pos hit]
    exact h2
  · rcases R.loc i a (fpCut_mem h).2 with z | ⟨_,z⟩
    · exact .inr z
    · exact .inl (fpCut_mem z).2
  · refine ⟨x.f,fun a o e hz hn=>x.keep a o e hz fun i hi=>hn i (fpCut_mem hi).2,fun i a h=>?_,fun a h e hn=>x.nof a h e fun i hi=>hn i (fpCut_mem hi).2,x.there,x.nt,x.tab⟩
    rcases R.loc i a (fpCut_mem h).2 with z | ⟨_,z⟩
    · exact .inr z
    · exact .inl ⟨i,(fpCut_mem z).2⟩
  · rw [List.getElem?_eq_none msk_len]
    exact fpCut_no (Nat.le_refl _)
/-- THE RULE of a def -/
theorem fn_ok {P:Program} {w:World} {K:PySem.W.Frag} {mg:Str → Option Value} {base:Heap} {x qual:Str} {params:Arguments} {body:List Stmt} {scope:Scope} {dvs:List V} {kws:List (Str × V)} {f:Addr} {fd:FuncData}
    {N ps:List Str} {k:Nat} {ts Γ : List Ty} {rt:Ty} {m:MS} (FD:FunD K x qual params body scope dvs kws f fd) (S:FnScope N ps scope) (hts:ts.length = ps.length) (hΓ : Γ.length = N.length) (hpre:Γ.take ts.length = ts) (hl:ts.length ≤ N.length)
    (hb:∀ (cdv:Value) (A:Around) (outer:List PySem.Env) (s:Shared) (H:Hp) (E:XK),Room k (A.deeper (envOfC qual scope s.heap.objs.size f cdv)) → ∀ (G:Gr ts.length) (W:WX),Takes (cxOf (L2.CX P w) P w K mg base N qual scope f cdv A outer s H E) W →
      MSs (cxOf (L2.CX P w) P w K mg base N qual scope f cdv A outer s H E) G W Γ rt body m) :
    FnOk P w K mg base (L2.CX P w) (k + 1) f fd ps (spM K ts rt (runF ts rt N.length m)):=by
  refine FD.ok S (spM_len hts) fun cdv A outer s H vs Q E hr hsp=>?_
  obtain ⟨ds,F,fp,L,p,q⟩:=hsp
  refine ⟨_,hb cdv A outer s H E hr ⟨L2.start N vs,F,fpCut ts.length fp,H,L,L0,false⟩ (fun cls d _ H'=>E cls d H') (takes_of rfl rfl rfl rfl),ds.map some ++ List.replicate (N.length - ds.length) none,F,fpCut ts.length fp,Rel.begin p hΓ hpre hl,?_⟩
  unfold runF at q
  cases em:m (ds.map some ++ List.replicate (N.length - ds.length) none) with
  | nx s1=>
    rw [em] at q
    simp only [] at q
    by_cases z:rt = .fr
    · rw [if_pos z] at q
      exact fun σ1 F1 fp1 H1 R1 x1=>q .non F1 _ H1 [] (R1.ends p hpre x1) (by rw [z]; exact ⟨.non,rfl⟩) fun _ h=>by cases h
    · rw [if_neg z] at q; exact q.elim
  | rt d s1=>
    rw [em] at q
    intro v σ1 F1 fp1 H1 R1 x1 a
    obtain ⟨B,a1,tq⟩:=a
    refine q v F1 _ H1 B (R1.ends p hpre x1) a1 fun b hb=>?_
    obtain ⟨q1,q2,q3,_⟩:=tq b hb
    exact ⟨q1,fun i hi=>q2 i (fpCut_mem hi).2,q3⟩
  | err er s1=>
    rw [em] at q
    exact fun cls od σ1 F1 fp1 H1 R1 x1 z=>q cls od F1 _ H1 (R1.ends p hpre x1) z
  | bk s1=>rw [em] at q; exact q.elim
  | ct s1=>rw [em] at q; exact q.elim
  | stuck=>rw [em] at q; exact q.elim
abbrev Spc:=List (Option Nat)
inductive ArgsOk (σ:Sl) (F:Hp) : Spc → List D → List V → Prop
  | nil:ArgsOk σ F [] [] []
  | fr {sp:Spc} {d:D} {ds:List D} {v:V} {vs:List V} : Rep F d v → ArgsOk σ F sp ds vs → ArgsOk σ F (none :: sp) (d :: ds) (v :: vs)
  | own {sp:Spc} {j:Nat} {ds:List D} {v:V} {vs:List V} : σ[j]? = some (some v) → ArgsOk σ F sp ds vs → ArgsOk σ F (some j :: sp) (.non :: ds) (v :: vs)
theorem ArgsOk.mono {σ:Sl} {F F':Hp} (h:Same F F') : ∀ {sp:Spc} {ds:List D} {vs:List V},ArgsOk σ F sp ds vs → ArgsOk σ F' sp ds vs
  | _,_,_,.nil=>.nil
  | _,_,_,.fr r t=>.fr (r.mono h) (ArgsOk.mono h t)
  | _,_,_,.own e t=>.own e (ArgsOk.mono h t)
def tAr (K:PySem.W.Frag) {n:Nat} (G:Gr n) (W:WX) (Γ : List Ty) (sp:Spc) (ms:MA) : TA:=fun σ H Q=>∃ s F fp,Rel G Γ s σ F fp H ∧ PostG K G W Γ σ F fp H (fun ds vs F' _ _=>ArgsOk σ F' sp ds vs) Q (ms s)
abbrev MAr (X:Cx) {n:Nat} (G:Gr n) (W:WX) (Γ : List Ty) (es:List Expr) (sp:Spc) (ms:MA) : Prop:=PA X es (tAr X.K G W Γ sp ms)
def mOwnA (j:Nat) (ms:MA) : MA:=fun s=>match s[j]? with
  | some (some _)=>(ms s).bind fun ds s1=>.ok (.non :: ds) s1
  | _=>.stuck
def fill:Spc → List D → Env → Option (List D)
  | [],[],_=>some []
  | none :: sp,d :: ds,s=>(fill sp ds s).map (d :: ·)
  | some j :: sp,_ :: ds,s=>match s[j]? with
    | some (some d)=>(fill sp ds s).map (d :: ·)
    | _=>none
  | _,_,_=>none
def puts:Spc → Env → Env → Env
  | [],_,s=>s
  | none :: sp,e,s=>puts sp e.tail s
  | some j :: sp,e,s=>puts sp e.tail (s.set j e.head?.join)
def mCallF (f:List D → R D) (sp:Spc) (dflt:List D) (ms:MA) : M:=fun s=>(ms s).bind fun ds s1=>match fill sp (ds ++ dflt) s1 with
  | none=>.stuck
  | some ds'=>match f ds' with
    | .ok r e=>.ok r (puts sp e s1)
    | .err er e=>.err er (puts sp e s1)
    | .stuck=>.stuck
def ix:Spc → Nat → Option Nat
  | [],_=>none
  | o :: sp,j=>if o = some j then some 0 else (ix sp j).map (· + 1)
theorem ix_some:∀ {sp:Spc} {j k:Nat},ix sp j = some k → sp[k]? = some (some j)
  | [],_,_,h=>by cases h
  | o :: sp,j,k,h=>by
    have h:(if o = some j then some 0 else (ix sp j).map (· + 1)) = some k:=h
    by_cases z:o = some j
    · rw [if_pos z] at h; cases h; rw [z]; rfl
    · rw [if_neg z] at h
      obtain ⟨k',e1,rfl⟩:=Option.map_eq_some_iff.mp h
      have:=ix_some e1
      simpa using this
theorem ix_none:∀ {sp:Spc} {j:Nat},ix sp j = none → ∀ k:Nat,sp[k]? ≠ some (some j)
  | [],_,_,k=>by simp
  | o :: sp,j,h,k=>by
    have h:(if o = some j then some 0 else (ix sp j).map (· + 1)) = none:=h
    by_cases z:o = some j
    · rw [if_pos z] at h; cases h
    · rw [if_neg z] at h
      have h':=Option.map_eq_none_iff.mp h
      cases k with
      | zero=>simpa using z
      | succ k=>simpa using ix_none h' k
def nd:Spc → Bool
  | []=>true
  | none :: r=>nd r
  | some j :: r=>(ix r j).isNone && nd r
theorem nd_eq:∀ {sp:Spc},nd sp = true → ∀ {k k' j:Nat},sp[k]? = some (some j) → sp[k']? = some (some j) → k = k'
  | [],_,_,_,_,h,_=>by simp at h
  | none :: r,h,0,_,_,e,_=>by simp at e
  | none :: r,h,_ + 1,0,_,_,e=>by simp at e
  | none :: r,h,k + 1,k' + 1,j,e,e'=>congrArg Nat.succ (nd_eq (sp:=r) h (by simpa using e) (by simpa using e'))
  | some i :: r,h,0,0,_,_,_=>rfl
  | some i :: r,h,0,k' + 1,j,e,e'=>by
    simp at e
    subst e
    have h1:=(Bool.and_eq_true_iff.mp (show ((ix r i).isNone && nd r) = true from h)).1
    exact absurd (show r[k']? = some (some i) by simpa using e') (ix_none (Option.isNone_iff_eq_none.mp h1) k')
  | some i :: r,h,k + 1,0,j,e',e=>by
    simp at e
    subst e
    have h1:=(Bool.and_eq_true_iff.mp (show ((ix r i).isNone && nd r) = true from h)).1
    exact absurd (show r[k]? = some (some i) by simpa using e') (ix_none (Option.isNone_iff_eq_none.mp h1) k)
  | some i :: r,h,k + 1,k' + 1,j,e,e'=>
    congrArg Nat.succ (nd_eq (sp:=r) (Bool.and_eq_true_iff.mp (show ((ix r i).isNone && nd r) = true from h)).2 (by simpa using e) (by simpa using e'))
theorem puts_len:∀ {sp:Spc} {e s:Env},(puts sp e s).length = s.length
  | [],_,_=>rfl
  | none :: sp,e,s=>puts_len (sp:=sp)
  | some j :: sp,e,s=>by
    show (puts sp e.tail (s.set j e.head?.join)).length = s.length
    rw [puts_len,List.length_set]
theorem puts_out:∀ {sp:Spc} {e s:Env} {j:Nat},(∀ k:Nat,sp[k]? ≠ some (some j)) → (puts sp e s)[j]? = s[j]?
  | [],_,_,_,_=>rfl
  | none :: sp,e,s,j,h=>puts_out (sp:=sp) fun k=>by simpa using h (k + 1)
  | some i :: sp,e,s,j,h=>by
    show (puts sp e.tail (s.set i e.head?.join))[j]? = s[j]?
    rw [puts_out (sp:=sp) fun k=>by simpa using h (k + 1)]
    have:i ≠ j:=fun z=>h 0 (by rw [z]; rfl)
    rw [List.getElem?_set_ne this]
theorem puts_in:∀ {sp:Spc} {e s:Env} {j k:Nat},nd sp = true → sp[k]? = some (some j) → j < s.length → (puts sp e s)[j]? = some (e[k]?.join)
  | [],_,_,_,_,_,h,_=>by simp at h
  | none :: sp,e,s,j,0,hn,h,hl=>by simp at h
  | none :: sp,e,s,j,k + 1,hn,h,hl=>by
    show (puts sp e.tail s)[j]? = _
    rw [puts_in (sp:=sp) (k:=k) hn (by simpa using h) hl]
    cases e <;> simp
  | some i :: sp,e,s,j,0,hn,h,hl=>by
    simp at h
    subst h
    have h1:=(Bool.and_eq_true_iff.mp (show ((ix sp i).isNone && nd sp) = true from hn)).1
    show (puts sp e.tail (s.set i e.head?.join))[i]? = _
    rw [puts_out (ix_none (Option.isNone_iff_eq_none.mp h1)),List.getElem?_set_self hl]
    cases e <;> simp
  | some i :: sp,e,s,j,k + 1,hn,h,hl=>by
    have h2:=(Bool.and_eq_true_iff.mp (show ((ix sp i).isNone && nd sp) = true from hn)).2
    show (puts sp e.tail (s.set i e.head?.join))[j]? = _
    rw [puts_in (sp:=sp) (k:=k) h2 (by simpa using h) (by rw [List.length_set]; exact hl)]
    cases e <;> simp
theorem ArgsOk.app {σ:Sl} {F:Hp} : ∀ {sp sp':Spc} {ds es:List D} {vs ws:List V},ArgsOk σ F sp ds vs → ArgsOk σ F sp' es ws → ArgsOk σ F (sp ++ sp') (ds ++ es) (vs ++ ws)
  | _,_,_,_,_,_,.nil,s=>s
  | _,_,_,_,_,_,.fr r t,s=>.fr r (ArgsOk.app t s)
  | _,_,_,_,_,_,.own e t,s=>.own e (ArgsOk.app t s)
theorem ArgsOk.dflt {σ:Sl} {F:Hp} : ∀ {ds:List D} {vs:List V},Reps F ds vs → ArgsOk σ F (List.replicate ds.length none) ds vs
  | _,_,.nil=>.nil
  | _,_,.cons r t=>.fr r (ArgsOk.dflt t)
theorem args_len {σ:Sl} {F:Hp} {s:Env} : ∀ {sp:Spc} {ds ds':List D} {vs:List V},ArgsOk σ F sp ds vs → fill sp ds s = some ds' → ds'.length = sp.length ∧ vs.length = sp.length
  | _,_,_,_,.nil,e=>by cases e; exact ⟨rfl,rfl⟩
  | _,_,_,_,.fr r t,e=>by
    obtain ⟨ds1,e1,rfl⟩:=Option.map_eq_some_iff.mp e
    obtain ⟨h1,h2⟩:=args_len t e1
    exact ⟨congrArg Nat.succ h1,congrArg Nat.succ h2⟩
  | some j :: sp,_,_,_,.own e0 t,e=>by
    unfold fill at e
    split at e
    · obtain ⟨ds1,e1,rfl⟩:=Option.map_eq_some_iff.mp e
      obtain ⟨h1,h2⟩:=args_len t e1
      exact ⟨congrArg Nat.succ h1,congrArg Nat.succ h2⟩
    · cases e
theorem args_fr {σ:Sl} {F:Hp} {s:Env} : ∀ {sp:Spc} {ds ds':List D} {vs:List V} {k:Nat} {d:D} {v:V},ArgsOk σ F sp ds vs → fill sp ds s = some ds' → sp[k]? = some none → ds'[k]? = some d → vs[k]? = some v → Rep F d v
  | _,_,_,_,k,_,_,.nil,e,h,_,_=>by simp at h
  | _,_,_,_,0,_,_,.fr r t,e,h,hd,hv=>by
    obtain ⟨ds1,e1,rfl⟩:=Option.map_eq_some_iff.mp e
    simp at hd hv
    subst hd hv
    exact r
  | _,_,_,_,k + 1,_,_,.fr r t,e,h,hd,hv=>by
    obtain ⟨ds1,e1,rfl⟩:=Option.map_eq_some_iff.mp e
    exact args_fr (k:=k) t e1 (by simpa using h) (by simpa using hd) (by simpa using hv)
  | some j :: sp,_,_,_,0,_,_,.own e0 t,e,h,hd,hv=>by simp at h
  | some j :: sp,_,_,_,k + 1,_,_,.own e0 t,e,h,hd,hv=>by
    unfold fill at e
    split at e
    · obtain ⟨ds1,e1,rfl⟩:=Option.map_eq_some_iff.mp e
      exact args_fr (k:=k) t e1 (by simpa using h) (by simpa using hd) (by simpa using hv)
    · cases e
theorem args_own {σ:Sl} {F:Hp} {s:Env} : ∀ {sp:Spc} {ds ds':List D} {vs:List V} {k j:Nat} {d:D} {v:V},ArgsOk σ F sp ds vs → fill sp ds s = some ds' → sp[k]? = some (some j) → ds'[k]? = some d → vs[k]? = some v → s[j]? = some (some d) ∧ σ[j]? = some (some v)
  | _,_,_,_,k,_,_,_,.nil,e,h,_,_=>by simp at h
  | _,_,_,_,0,_,_,_,.fr r t,e,h,hd,hv=>by simp at h
  | _,_,_,_,k + 1,_,_,_,.fr r t,e,h,hd,hv=>by
    obtain ⟨ds1,e1,rfl⟩:=Option.map_eq_some_iff.mp e
    exact args_own (k:=k) t e1 (by simpa using h) (by simpa using hd) (by simpa using hv)
  | some j :: sp,_,_,_,0,_,_,_,.own e0 t,e,h,hd,hv=>by
    unfold fill at e
    split at e
    · rename_i d' es
      obtain ⟨ds1,e1,rfl⟩:=Option.map_eq_some_iff.mp e
      simp at h hd hv
      subst h hd hv
      exact ⟨es,e0⟩
    · cases e
  | some j :: sp,_,_,_,k + 1,_,_,_,.own e0 t,e,h,hd,hv=>by
    unfold fill at e
    split at e
    · obtain ⟨ds1,e1,rfl⟩:=Option.map_eq_some_iff.mp e
      exact args_own (k:=k) t e1 (by simpa using h) (by simpa using hd) (by simpa using hv)
    · cases e
def tyAt (Γ : List Ty) : Option Nat → Ty
  | none=>.fr
  | some j=>(Γ[j]?).getD .fr
def fpc (sp:Spc) (fp:Fp) : Fp:=fun k=>match sp[k]? with
  | some (some j)=>fp j
  | _=>[]
theorem fpc_mem {sp:Spc} {fp:Fp} {k:Nat} {a:Addr} (h:a ∈ fpc sp fp k) : ∃ j,sp[k]? = some (some j) ∧ a ∈ fp j:=by
  unfold fpc at h
  split at h
  · rename_i j e; exact ⟨j,e,h⟩
  · cases h
theorem fpc_of {sp:Spc} {fp:Fp} {k j:Nat} (h:sp[k]? = some (some j)) : fpc sp fp k = fp j:=by
  unfold fpc
  rw [h]
theorem fpc_no {sp:Spc} {fp:Fp} {k:Nat} (h:sp.length ≤ k) : fpc sp fp k = []:=by
  unfold fpc
  rw [List.getElem?_eq_none h]
/-- a call seen from its caller -/
theorem call_pre {n:Nat} {G:Gr n} {Γ : List Ty} {s:Env} {σ:Sl} {F H:Hp} {fp:Fp} (R:Rel G Γ s σ F fp H) {sp:Spc} {ds ds':List D} {vs:List V} (hn:nd sp = true) (hj:∀ j ∈ sp.filterMap id,j < Γ.length) (a:ArgsOk σ F sp ds vs) (e:fill sp ds s = some ds') :
    Pre G.L (sp.map (tyAt Γ)) ds' vs F (fpc sp fp) H:=by
  obtain ⟨l1,l2⟩:=args_len a e
  refine ⟨by rw [l1,List.length_map],by rw [l2,List.length_map],fun k t d v ht hd hv=>?_,fun i j b hi hk=>?_,fun i b h=>?_,fun i b h=>?_,R.ext,R.lkd,R.tb,fpc_no (by rw [List.length_map]; exact Nat.le_refl _)⟩
  · rw [List.getElem?_map] at ht
    obtain ⟨o,eo,rfl⟩:=Option.map_eq_some_iff.mp ht
    cases o with
    | none=>
      refine ⟨args_fr a e eo hd hv,?_⟩
      unfold fpc
      rw [eo]
    | some j=>
      obtain ⟨h1,h2⟩:=args_own a e eo hd hv
      rw [fpc_of eo]
      have hjl:j < Γ.length:=hj j (List.mem_filterMap.mpr ⟨some j,List.mem_of_getElem? eo,rfl⟩)
      have eΓ : Γ[j]? = some (tyAt Γ (some j)):=by
        show Γ[j]? = some ((Γ[j]?).getD .fr)
        rw [List.getElem?_eq_getElem hjl]
        rfl
      obtain ⟨v',h3,h4⟩:=R.slot j _ d eΓ h1
      rw [h2] at h3
      cases h3
      exact h4
  · obtain ⟨j1,e1,m1⟩:=fpc_mem hi
    obtain ⟨j2,e2,m2⟩:=fpc_mem hk
    have:=R.dis j1 j2 b m1 m2
    subst this
    exact nd_eq hn e1 e2
  · obtain ⟨j,ej,m⟩:=fpc_mem h
    exact .inl (R.nFt (hj j (List.mem_filterMap.mpr ⟨some j,List.mem_of_getElem? ej,rfl⟩)) m)
  · obtain ⟨j,_,m⟩:=fpc_mem h; exact R.oh j b m
def fpu (sp:Spc) (fpc' fp:Fp) : Fp:=fun j=>match ix sp j with
  | some k=>fpc' k
  | none=>fp j
theorem fpu_mem {sp:Spc} {fpc' fp:Fp} {j:Nat} {a:Addr} (h:a ∈ fpu sp fpc' fp j) : (∃ k,ix sp j = some k ∧ a ∈ fpc' k) ∨ (ix sp j = none ∧ a ∈ fp j):=by
  unfold fpu at h
  split at h
  · rename_i k e; exact .inl ⟨k,e,h⟩
  · rename_i e; exact .inr ⟨e,h⟩
theorem call_post {n:Nat} {G:Gr n} {Γ : List Ty} {s:Env} {σ:Sl} {F H:Hp} {fp:Fp} (R:Rel G Γ s σ F fp H) {sp:Spc} {ds ds':List D} {vs:List V} {e':Env} {F' H':Hp} {fp':Fp} (hn:nd sp = true) (hj:∀ j ∈ sp.filterMap id,j < Γ.length) (a:ArgsOk σ F sp ds vs) (e:fill sp ds s = some ds')
    (p:Pst G.L (sp.map (tyAt Γ)) vs e' F (fpc sp fp) H F' fp' H') : Rel G Γ (puts sp e' s) σ F' (fpu sp fp' fp) H' ∧ Stp L0 F fp H F' (fpu sp fp' fp) H':=by
  obtain ⟨l1,l2⟩:=args_len a e
  -- what is owned and not handed over
  have outs:∀ {j:Nat} {b:Addr},ix sp j = none → b ∈ fp j → ∀ k,b ∉ fpc sp fp k:=fun {j b} hi hb k hk=>by
    obtain ⟨j',e1,m1⟩:=fpc_mem hk
    have:=R.dis j j' b hb m1
    subst this
    exact ix_none hi k e1
  have old:∀ {j k:Nat} {b:Addr},ix sp j = some k → b ∈ fp' k → b ∈ fp j ∨ H b = none:=fun {j k b} hi hb=>by
    rcases p.own k b hb with z | z
    · rw [fpc_of (ix_some hi)] at z; exact .inl z
    · exact .inr z
  have x:Stp L0 F fp H F' (fpu sp fp' fp) H':=by
    refine ⟨p.stp.f,fun b o eb hz hb=>p.stp.keep b o eb hz fun k hk=>?_,fun j b h=>?_,fun b h eF hb=>p.stp.nof b h eF fun k hk=>?_,p.stp.there,p.stp.nt,p.stp.tab⟩
    · obtain ⟨j,_,m⟩:=fpc_mem hk; exact hb j m
    · rcases fpu_mem h with ⟨k,hi,hk⟩ | ⟨hi,hk⟩
      · rcases old hi hk with z | z
        · exact .inl ⟨j,z⟩
        · exact .inr z
      · exact .inl ⟨j,hk⟩
    · obtain ⟨j,_,m⟩:=fpc_mem hk; exact hb j m
  refine ⟨⟨by rw [puts_len]; exact R.ls,R.lσ,fun j t d ht hs=>?_,fun i j b hi hk=>?_,fun j b h=>?_,fun j b h=>?_,p.ext,fun b ob eb=>?_,R.stp.trans x,R.par,fun j b h=>?_,x.tab R.tb,?_,fun hs a o e hm=>R.nmk hs a o (p.nmk rfl a o e hm) hm⟩,x⟩
  · cases hi:ix sp j with
    | none=>
      rw [puts_out (ix_none hi)] at hs
      obtain ⟨v,h1,h2⟩:=R.slot j t d ht hs
      refine ⟨v,h1,?_⟩
      unfold fpu
      rw [hi]
      refine h2.mono p.stp.f fun b hb o eb=>?_
      exact p.stp.keep b o eb ((R.oh j b hb).ntab R.tb) (outs hi hb)
    | some k=>
      have ek:=ix_some hi
      have hjl:j < s.length:=Nat.lt_of_lt_of_le (List.getElem?_eq_some_iff.mp ht).1 R.ls
      rw [puts_in hn ek hjl] at hs
      have hs:e'[k]?.join = some d:=Option.some.inj hs
      have he:e'[k]? = some (some d):=by
        cases z:e'[k]? with
        | none=>rw [z] at hs; cases hs
        | some o=>rw [z] at hs; exact congrArg some hs
      have hkl:k < vs.length:=by rw [l2]; exact (List.getElem?_eq_some_iff.mp ek).1
      have hkd:k < ds'.length:=by rw [l1]; exact (List.getElem?_eq_some_iff.mp ek).1
      obtain ⟨_,hσ⟩:=args_own a e ek (List.getElem?_eq_getElem hkd) (List.getElem?_eq_getElem hkl)
      refine ⟨vs[k],hσ,?_⟩
      unfold fpu
      rw [hi]
      have et:(sp.map (tyAt Γ))[k]? = some t:=by
        rw [List.getElem?_map,ek]
        show some ((Γ[j]?).getD .fr) = some t
        rw [ht]
        rfl
      exact p.slot k t d _ et he (List.getElem?_eq_getElem hkl)
  · rcases fpu_mem hi with ⟨k1,e1,m1⟩ | ⟨e1,m1⟩
    · rcases fpu_mem hk with ⟨k2,e2,m2⟩ | ⟨e2,m2⟩
      · have:=p.dis k1 k2 b m1 m2
        subst this
        have q1:=ix_some e1
        rw [ix_some e2] at q1
        cases q1
        rfl
      · rcases old e1 m1 with z | z
        · exact R.dis i j b z m2
        · exact absurd z (R.oh j b m2).ne
    · rcases fpu_mem hk with ⟨k2,e2,m2⟩ | ⟨e2,m2⟩
      · rcases old e2 m2 with z | z
        · exact R.dis i j b m1 z
        · exact absurd z (R.oh i b m1).ne
      · exact R.dis i j b m1 m2
  · rcases fpu_mem h with ⟨k1,e1,m1⟩ | ⟨e1,m1⟩
    · exact .inl (p.nF0 m1)
    · exact (R.nF j b m1).imp_left fun z=>p.stp.nof b (R.oh j b m1) z (outs e1 m1)
  · rcases fpu_mem h with ⟨k1,e1,m1⟩ | ⟨e1,m1⟩
    · exact p.oh k1 b m1
    · exact p.stp.nt b (R.oh j b m1)
  · obtain ⟨o,h1,h2⟩:=R.lkd b ob eb
    exact ⟨o,p.stp.f b o h1,h2⟩
  · rcases fpu_mem h with ⟨k1,e1,m1⟩ | ⟨e1,m1⟩
    · rcases old e1 m1 with z | z
      · exact R.loc j b z
      · exact .inl (R.newG z)
    · exact R.loc j b m1
  · have hno:ix sp Γ.length = none:=by
      cases z:ix sp Γ.length with
      | none=>rfl
      | some k=>exact absurd (hj _ (List.mem_filterMap.mpr ⟨some Γ.length,List.mem_of_getElem? (ix_some z),rfl⟩)) (Nat.lt_irrefl _)
    rw [puts_out (ix_none hno)]
    have ef:fpu sp fp' fp Γ.length = fp Γ.length:=by
      unfold fpu
      rw [hno]
    rw [ef]
    exact R.sto.mono p.stp.f (fun a o e h=>.inl (p.nmk rfl a o e h)) fun b hb o eb=>p.stp.keep b o eb ((R.oh _ b hb).ntab R.tb) (outs hno hb)
section
variable {X:Cx} {n:Nat} {G:Gr n} {W:WX} {Γ : List Ty} {rt:Ty}
theorem mr_nil:MAr X G W Γ [] [] mNil:=paI pa_nil fun σ H Q ⟨s,F,fp,R,q⟩=>pok q R .nil
theorem mr_fr {e:Expr} {es:List Expr} {sp:Spc} {m:M} {ms:MA} (h:ME X G W Γ e .fr m) (hs:MAr X G W Γ es sp ms) (he:starEach (e :: es) X.env = (false,eval e X.env) :: starEach es X.env:=by rfl) : MAr X G W Γ (e :: es) (none :: sp) (mCons m ms):=
  paI (pa_cons h hs he) fun σ H Q ⟨s,F,fp,R,q⟩=>⟨s,F,fp,R,pbind q fun d s1 x F1 fp1 H1 R1 st1 a1 q1=>⟨s1,F1,fp1,R1,pbind q1 fun ds s2 xs F2 fp2 H2 R2 st2 a2 q2=>pok q2 R2 (.fr (a1.rep.mono st2.f) a2)⟩⟩
theorem mr_own {e:Expr} {es:List Expr} {sp:Spc} {j:Nat} {ms:MA} {t:Ty} (h:PE X e (tVar j)) (ht:Γ[j]? = some t) (hs:MAr X G W Γ es sp ms) (he:starEach (e :: es) X.env = (false,eval e X.env) :: starEach es X.env:=by rfl) : MAr X G W Γ (e :: es) (some j :: sp) (mOwnA j ms):=
  paI (pa_cons h hs he) fun σ H Q ⟨s,F,fp,R,q⟩=>by
    unfold mOwnA at q
    split at q
    · rename_i d e
      obtain ⟨v,hv,a⟩:=R.slot j _ _ ht e
      exact ⟨v,hv,s,F,fp,R,pbind q fun ds s1 xs F1 fp1 H1 R1 st1 a1 q1=>pok q1 R1 (.own hv a1)⟩
    · exact q.elim
/-- the reading of a call of a def -/
theorem call_go {K:PySem.W.Frag} {σ:Sl} {H:Hp} {Q:VK} {f:List D → R D} {spa sp:Spc} {dflt:List D} {dvs:List V} {ms:MA} {ts:List Ty} {t:Ty} (hd:∀ F,Reps F dflt dvs) (hsp:sp = spa ++ List.replicate dflt.length none) (hn:nd sp = true) (hj:∀ j ∈ sp.filterMap id,j < Γ.length) (hts:sp.map (tyAt Γ) = ts)
    (h:tM K G W Γ t (mCallF f sp dflt ms) σ H Q) : tCallSD (spM K ts t f) dvs (WE W) (tAr K G W Γ spa ms) σ H Q:=by
  obtain ⟨s,F,fp,R,q⟩:=h
  subst hts hsp
  refine ⟨s,F,fp,R,pbind q fun ds s1 vs F1 fp1 H1 R1 st1 (a:ArgsOk σ F1 spa ds vs) q1=>?_⟩
  have a':=a.app (ArgsOk.dflt (hd F1))
  split at q1
  · exact q1.elim
  · rename_i ds' e
    refine ⟨ds',F1,_,G.L,call_pre R1 hn hj a' e,?_⟩
    cases ef:f ds' with
    | ok r e'=>
      rw [ef] at q1
      intro v F' fp' H' B p aB tq
      obtain ⟨R2,x2⟩:=call_post R1 hn hj a' e p
      have hex:∀ b ∈ B,∀ i,b ∉ fpu (spa ++ List.replicate dflt.length none) fp' fp1 i:=fun b hb i hi=>by
        obtain ⟨_,h2,h3⟩:=tq b hb
        rcases fpu_mem hi with ⟨k,_,m⟩ | ⟨_,m⟩
        · exact h2 k m
        · exact (R1.oh i b m).ne h3
      exact q1 v F' _ H' R2 x2 ⟨B,aB,fun b hb=>⟨(tq b hb).1,hex b hb,R1.newG (tq b hb).2.2,.inr (Classical.byContradiction fun z=>st1.there b z (tq b hb).2.2)⟩⟩
    | err er e'=>
      rw [ef] at q1
      intro cls od F' fp' H' p z
      obtain ⟨R2,x2⟩:=call_post R1 hn hj a' e p
      exact q1 cls od F' _ H' R2 x2 z
    | stuck=>rw [ef] at q1; exact q1.elim
theorem me_call {e:Expr} {f:List D → R D} {spa sp:Spc} {dflt:List D} {dvs:List V} {ms:MA} {ts:List Ty} {t:Ty} (h:PE X e (tCallSD (spM X.K ts t f) dvs (WE W) (tAr X.K G W Γ spa ms))) (hd:∀ F,Reps F dflt dvs) (hsp:sp = spa ++ List.replicate dflt.length none:=by rfl) (hn:nd sp = true:=by rfl)
    (hj:∀ j ∈ sp.filterMap id,j < Γ.length:=by decide) (hts:sp.map (tyAt Γ) = ts:=by rfl) : ME X G W Γ e t (mCallF f sp dflt ms):=peI h fun _ _ _=>call_go hd hsp hn hj hts
end
/-- the slots of a block's own names forgotten; as they were ahead of the block -/
def swipe (s:Env) : List Nat → Env
  | []=>s
  | v :: vs=>(swipe s vs).set v none
def srest (s0 s:Env) : List Nat → Env
  | []=>s
  | v :: vs=>(srest s0 s vs).set v ((s0[v]?).join)
section
variable {X:Cx} {n:Nat} {G:Gr n} {W:WX} {Γ : List Ty} {rt:Ty}
theorem Rel.wipe {s:Env} {σ:Sl} {F H:Hp} {fp:Fp} (R:Rel G Γ s σ F fp H) : ∀ {vs:List Nat},(∀ v ∈ vs,(n ≤ v ∧ v ≠ Γ.length) ∨ Γ[v]? = some .fr) → Rel G Γ (swipe s vs) (L2.wipe σ vs) F fp H
  | [],_=>R
  | v :: vs,h=>by
    have R':=R.wipe (vs:=vs) fun w hw=>h w (List.mem_cons_of_mem _ hw)
    have hv:=h v List.mem_cons_self
    have hne:v ≠ Γ.length:=hv.elim (fun q=>q.2) fun q=>Nat.ne_of_lt (List.getElem?_eq_some_iff.mp q).1
    show Rel G Γ ((swipe s vs).set v none) ((L2.wipe σ vs).set v none) F fp H
    refine ⟨by rw [List.length_set]; exact R'.ls,by rw [List.length_set]; exact R'.lσ,fun j t d ht hs=>?_,R'.dis,R'.nF,R'.oh,R'.ext,R'.lkd,R'.stp,fun j hj hf=>?_,R'.loc,R'.tb,by rw [List.getElem?_set_ne hne]; exact R'.sto,R'.nmk⟩
    · by_cases z:v = j
      · subst z
        by_cases hl:v < (swipe s vs).length
        · rw [List.getElem?_set_self hl] at hs; cases hs
        · rw [List.getElem?_eq_none (by rw [List.length_set]; omega)] at hs; cases hs
      · rw [List.getElem?_set_ne z] at hs
        obtain ⟨w,h1,h2⟩:=R'.slot j t d ht hs
        exact ⟨w,by rw [List.getElem?_set_ne z]; exact h1,h2⟩
    · have z:v ≠ j:=fun z=>by
        subst z
        rcases hv with q | q
        · omega
        · exact hf q
      rw [List.getElem?_set_ne z]; exact R'.par j hj hf
/-- the block's names are left: the slots stand as they stood,what they held is fixed -/
theorem Rel.rest {s0 s:Env} {σ:Sl} {F0 H0 F H:Hp} {fp0 fp:Fp} (R0:Rel G Γ s0 σ F0 fp0 H0) (x:Same F0 F) : ∀ {vs:List Nat},(∀ v ∈ vs,Γ[v]? = some .fr) → Rel G Γ s (L2.wipe σ vs) F fp H → Rel G Γ (srest s0 s vs) σ F (fun j=>if j ∈ vs then [] else fp j) H:=by
  intro vs hv R
  have ls:∀ vs:List Nat,(srest s0 s vs).length = s.length:=fun vs=>by
    induction vs with
    | nil=>rfl
    | cons v vs ih=>show ((srest s0 s vs).set v _).length = _; rw [List.length_set]; exact ih
  have get:∀ (vs:List Nat) (j:Nat),j ∈ vs → j < s.length → (srest s0 s vs)[j]? = some ((s0[j]?).join):=fun vs j=>by
    induction vs with
    | nil=>intro h; cases h
    | cons v vs ih=>
      intro h hl
      show ((srest s0 s vs).set v _)[j]? = _
      by_cases z:v = j
      · subst z; rw [List.getElem?_set_self (by rw [ls]; exact hl)]
      · rw [List.getElem?_set_ne z]
        rcases List.mem_cons.mp h with q | q
        · exact absurd q.symm z
        · exact ih q hl
  have out:∀ (vs:List Nat) (j:Nat),j ∉ vs → (srest s0 s vs)[j]? = s[j]?:=fun vs j=>by
    induction vs with
    | nil=>intro _; rfl
    | cons v vs ih=>
      intro h
      show ((srest s0 s vs).set v _)[j]? = _
      rw [List.getElem?_set_ne (fun z=>h (by rw [z]; exact List.mem_cons_self))]
      exact ih fun q=>h (List.mem_cons_of_mem _ q)
  have mem:∀ {j:Nat} {a:Addr},a ∈ (if j ∈ vs then [] else fp j) → j ∉ vs ∧ a ∈ fp j:=fun {j a} h=>by
    by_cases z:j ∈ vs
    · rw [if_pos z] at h; cases h
    · rw [if_neg z] at h; exact ⟨z,h⟩
  refine ⟨by rw [ls]; exact R.ls,R0.lσ,fun j t d ht hs=>?_,fun i j a hi hj=>R.dis i j a (mem hi).2 (mem hj).2,fun i a h=>R.nF i a (mem h).2,fun i a h=>R.oh i a (mem h).2,R.ext,R.lkd,?_,R0.par,fun i a h=>R.loc i a (mem h).2,R.tb,?_,R.nmk⟩
  · have hjl:j < s.length:=Nat.lt_of_lt_of_le (List.getElem?_eq_some_iff.mp ht).1 R.ls
    by_cases z:j ∈ vs
    · rw [get vs j z hjl] at hs
      have e:s0[j]? = some (some d):=by
        have hs:(s0[j]?).join = some d:=Option.some.inj hs
        cases q:s0[j]? with
        | none=>rw [q] at hs; cases hs
        | some o=>rw [q] at hs; exact congrArg some hs
      obtain ⟨v,h1,h2⟩:=R0.slot j t d ht e
      have:=hv j z
      rw [ht] at this
      cases this
      exact ⟨v,h1,h2.1.mono x,if_pos z⟩
    · rw [out vs j z] at hs
      obtain ⟨v,h1,h2⟩:=R.slot j t d ht hs
      exact ⟨v,(wipe_some h1).1,by rw [if_neg z]; exact h2⟩
  · exact ⟨R.stp.f,R.stp.keep,fun i a h=>R.stp.new i a (mem h).2,R.stp.nof,R.stp.there,R.stp.nt,R.stp.tab⟩
  · have hn:Γ.length ∉ vs:=fun z=>Nat.lt_irrefl _ (List.getElem?_eq_some_iff.mp (hv _ z)).1
    rw [out vs _ hn,if_neg hn]
    exact R.sto
theorem wipe_get (σ:Sl) : ∀ (vs:List Nat) (j:Nat),j ∉ vs → (L2.wipe σ vs)[j]? = σ[j]?
  | [],_,_=>rfl
  | v :: vs,j,h=>by
    show ((L2.wipe σ vs).set v none)[j]? = _
    rw [List.getElem?_set_ne (fun z=>h (by rw [z]; exact List.mem_cons_self))]
    exact wipe_get σ vs j fun q=>h (List.mem_cons_of_mem _ q)
theorem wipe_at (σ:Sl) : ∀ (vs:List Nat) (j:Nat),j ∈ vs → j < σ.length → (L2.wipe σ vs)[j]? = some none
  | v :: vs,j,h,hl=>by
    show ((L2.wipe σ vs).set v none)[j]? = _
    by_cases z:v = j
    · subst z; rw [List.getElem?_set_self (by rw [wipe_length]; exact hl)]
    · rw [List.getElem?_set_ne z]
      rcases List.mem_cons.mp h with q | q
      · exact absurd q.symm z
      · exact wipe_at σ vs j q hl
theorem wipe_eq {σ σ':Sl} {vs:List Nat} (hl:σ'.length = σ.length) (h:∀ j,j ∉ vs → σ'[j]? = σ[j]?) : L2.wipe σ' vs = L2.wipe σ vs:=by
  apply List.ext_getElem?
  intro j
  by_cases z:j ∈ vs
  · by_cases hj:j < σ.length
    · rw [wipe_at σ vs j z hj,wipe_at σ' vs j z (by rw [hl]; exact hj)]
    · rw [List.getElem?_eq_none (by rw [wipe_length]; omega),List.getElem?_eq_none (by rw [wipe_length]; omega)]
  · rw [wipe_get σ vs j z,wipe_get σ' vs j z,h j z]
theorem wipe_wipe (σ:Sl) (vs:List Nat) : L2.wipe (L2.wipe σ vs) vs = L2.wipe σ vs:=wipe_eq (wipe_length σ vs) fun j h=>wipe_get σ vs j h
def compM (g:MG) (c:MB) (e:M) (vs:List Nat) : List D → Env → List D → R (List D)
  | [],s,acc=>.ok acc s
  | d :: ds,s,acc=>match g d s with
    | none=>.stuck
    | some s1=>(c s1).bind fun b s2=>if b = true then (e s2).bind fun z s3=>if acc.length < 16000000 then compM g c e vs ds (swipe s3 vs) (acc ++ [z]) else .stuck else compM g c e vs ds (swipe s2 vs) acc
def R.noerr {α:Type} (r:R α) : R α:=match r with
  | .ok a s=>.ok a s
  | _=>.stuck
@[simp] theorem R.noerr_ok {α:Type} (a:α) (s:Env) : (R.ok a s).noerr = .ok a s:=rfl
def mComp (mi:MA) (g:MG) (c:MB) (e:M) (vs:List Nat) : M:=fun s=>(mi s).bind fun ds s1=>(compM g c e vs ds (swipe s1 vs) []).noerr.bind fun zs s2=>.ok (.lst zs) (srest s1 s2 vs)
def mYes:MB:=fun s=>.ok true s
/-- behind the turns of a comprehension: the new list at p -/
def PostC {n:Nat} (G:Gr n) (Γ : List Ty) (σ:Sl) (F:Hp) (fp:Fp) (H:Hp) (p:Addr) (vs:List Nat) (Qd:Hp → Prop) : R (List D) → Prop
  | .ok zs s'=>∀ F' fp' H' ws,Rel G Γ s' (L2.wipe σ vs) F' fp' H' → Stp L0 F fp H F' fp' H' → H' p = some (.lst ws) → Reps F' zs ws → F' p = none → (∀ i,p ∉ fp' i) → Qd H'
  | _=>False
theorem pts_yes (h:PTs X [] tYes) : PTs X [] (tMB X.K G W Γ mYes):=⟨fun pins s σ H Q I ⟨s',F,fp,R,q⟩=>h.run pins s σ H Q I (pok q R rfl)⟩
abbrev W0:WX:=fun _ _ _ _=>False
theorem keepP {p:Addr} {av:List V} {Fa Ha Fb Hb:Hp} {fa fb:Fp} (h1:Ha p = some (.lst av)) (h2:Fa p = none) (h3:∀ i,p ∉ fa i) (y:Stp L0 Fa fa Ha Fb fb Hb) (t:TbOk Fa Ha) : Hb p = some (.lst av) ∧ Fb p = none ∧ ∀ i,p ∉ fb i:=by
  refine ⟨y.keep p _ h1 (t.no h1) h3,y.nof p ⟨_,h1,rfl⟩ h2 h3,fun i hi=>?_⟩
  rcases y.new i p hi with ⟨j,hj⟩ | z
  · exact h3 j hj
  · rw [h1] at z; cases z
/-- the turns -/
theorem comp_core {K:PySem.W.Frag} {g:MG} {c:MB} {e:M} {vs js:List Nat} {ds:List D} {J:It} {σ:Sl} {F1 H1 F0 H0:Hp} {fp1 fp0:Fp} {s0:Env} {p:Addr} {acc0:List D} {av0:List V} {Qd:Hp → Prop} (hjs:∀ j ∈ js,j ∈ vs) (hvs:∀ v ∈ vs,Γ[v]? = some .fr) (wk:Wk G Γ J F0 ds) (hp:H1 p = none) (hG:G.H p = none) (hσl:σ.length = Γ.length)
    (R0:Rel G Γ s0 (L2.wipe σ vs) F0 fp0 H0) (x0:Stp L0 F1 fp1 H1 F0 fp0 H0) (hp0:H0 p = some (.lst av0)) (ra0:Reps F0 acc0 av0) (hF0:F0 p = none) (hf0:∀ i,p ∉ fp0 i)
    (q:PostC G Γ σ F1 fp1 H1 p vs Qd (compM g c e vs ds s0 acc0)) :
    ∃ V:Nat → Nat → Hp → Prop,(∃ m,V 0 m H0) ∧ ∀ i m H,V i m H →
      (J.stop i H ∧ Qd H) ∨ (J.go i H ∧ ∃ Nx:Hp → Prop,(∀ H',Nx H' → ∃ m',m' < m ∧ V (i + 1) m' H') ∧ ∀ x H',J.yld i H x H' → tG G Γ js g x (L2.wipe σ vs) H' fun σ2 H2=>L2.wipe σ2 vs = L2.wipe σ vs ∧ tMB K G W0 Γ c σ2 H2 fun b H3=>
        if b = true then tM K G W0 Γ .fr e σ2 H3 fun y H4=>∃ acc,H4 p = some (.lst acc) ∧ acc.length < sizeLine ∧ Nx (upd H4 p (.lst (acc ++ [y]))) else Nx H3):=by
  have hw:∀ v ∈ vs,(n ≤ v ∧ v ≠ Γ.length) ∨ Γ[v]? = some .fr:=fun v hv=>.inr (hvs v hv)
  let St (i:Nat) (H:Hp) : Prop:=i ≤ ds.length ∧ ∃ s' F' fp' acc accv,Rel G Γ s' (L2.wipe σ vs) F' fp' H ∧ Same F0 F' ∧ Stp L0 F1 fp1 H1 F' fp' H ∧ H p = some (.lst accv) ∧ Reps F' acc accv ∧ F' p = none ∧ (∀ i,p ∉ fp' i) ∧ PostC G Γ σ F1 fp1 H1 p vs Qd (compM g c e vs (ds.drop i) s' acc)
  refine ⟨fun i m H=>m = ds.length - i ∧ St i H,⟨ds.length,by simp,Nat.zero_le _,s0,F0,fp0,acc0,av0,R0,Same.refl F0,x0,hp0,ra0,hF0,hf0,q⟩,?_⟩
  rintro i m H ⟨rfl,hi,s',F',fp',acc,accv,R',sm,x',hpl,ra,hF,hf,q'⟩
  obtain ⟨w1,w2⟩:=wk i s' _ F' fp' H R' sm
  by_cases hlt:i < ds.length
  · have hd:ds[i]? = some ds[i]:=by simp [hlt]
    have hdrop:ds.drop i = ds[i] :: ds.drop (i + 1):=List.drop_eq_getElem_cons hlt
    rw [hdrop] at q'
    obtain ⟨go,hy⟩:=w1 _ hd
    refine .inr ⟨go,St (i + 1),fun H' n'=>⟨ds.length - (i + 1),by omega,rfl,n'⟩,fun y H2 yv=>?_⟩
    obtain ⟨F2,R2,x2,r2⟩:=hy y H2 yv
    unfold compM at q'
    cases eg:g ds[i] s' with
    | none=>rw [eg] at q'; exact q'.elim
    | some s2=>
      rw [eg] at q'
      simp only [] at q'
      refine ⟨ds[i],s',F2,fp',R2,r2,s2,eg,fun σ3 fp3 R3 x3 k3=>?_⟩
      have hσ:L2.wipe σ3 vs = L2.wipe σ vs:=by
        rw [←wipe_wipe σ vs]
        exact wipe_eq (by rw [wipe_length,R3.lσ,hσl]) fun j hj=>k3 j fun z=>hj (hjs j z)
      refine ⟨hσ,s2,F2,fp3,R3,?_⟩
      obtain ⟨p2,f2,g2⟩:=keepP hpl hF hf (x2.trans x3) R'.tb
      have xx:=x'.trans (x2.trans x3)
      cases ec:c s2 with
      | err _ _=>rw [ec] at q'; exact q'.elim
      | stuck=>rw [ec] at q'; exact q'.elim
      | ok b s3=>
        rw [ec,Bk.R.bind_ok] at q'
        intro b' F4 fp4 H4 R4 x4 eb
        cases eb
        obtain ⟨p4,f4,g4⟩:=keepP p2 f2 g2 x4 R3.tb
        cases b with
        | false=>
          rw [if_neg Bool.false_ne_true]
          rw [if_neg Bool.false_ne_true] at q'
          refine ⟨hlt,swipe s3 vs,F4,fp4,acc,accv,?_,sm.trans (x2.f.trans (x3.f.trans x4.f)),xx.trans x4,p4,ra.mono (x2.f.trans (x3.f.trans x4.f)),f4,g4,q'⟩
          have:=R4.wipe hw
          rw [hσ] at this
          exact this
        | true=>
          rw [if_pos rfl]
          rw [if_pos rfl] at q'
          refine ⟨s3,F4,fp4,R4,?_⟩
          cases ee:e s3 with
          | err _ _=>rw [ee] at q'; exact q'.elim
          | stuck=>rw [ee] at q'; exact q'.elim
          | ok z s5=>
            rw [ee,Bk.R.bind_ok] at q'
            intro w F6 fp6 H6 R6 x6 aw
            obtain ⟨p6,f6,g6⟩:=keepP p4 f4 g4 x6 R4.tb
            by_cases hl:acc.length < 16000000
            · rw [if_pos hl] at q'
              have hra:Reps F6 acc accv:=ra.mono (x2.f.trans (x3.f.trans (x4.f.trans x6.f)))
              refine ⟨accv,p6,by rw [←ra.len]; exact sixteen hl,hlt,swipe s5 vs,F6,fp6,acc ++ [z],accv ++ [w],?_,sm.trans (x2.f.trans (x3.f.trans (x4.f.trans x6.f))),((xx.trans x4).trans x6).tmp hp ⟨_,p6,rfl⟩,upd_same,hra.app (.cons aw.rep .nil),f6,g6,q'⟩
              have:=(R6.wipe hw).tmp (o:=.lst (accv ++ [w])) f6 g6 hG p6
              rw [hσ] at this
              exact this
            · rw [if_neg hl] at q'; exact q'.elim
  · have e:i = ds.length:=by omega
    subst e
    rw [List.drop_length] at q'
    exact .inl ⟨w2 (Nat.le_refl _),q' F' fp' H accv R' x' hpl ra hF hf⟩
theorem comp_go {K:PySem.W.Frag} {g:MG} {c:MB} {e:M} {vs js:List Nat} {ds:List D} {J:It} {σ:Sl} {F1 H1:Hp} {fp1:Fp} {s1:Env} {p:Addr} {Qd:Hp → Prop} (hjs:∀ j ∈ js,j ∈ vs) (hvs:∀ v ∈ vs,Γ[v]? = some .fr) (R1:Rel G Γ s1 σ F1 fp1 H1) (wk:Wk G Γ J F1 ds) (hp:H1 p = none)
    (q:PostC G Γ σ F1 fp1 H1 p vs Qd (compM g c e vs ds (swipe s1 vs) [])) :
    ∃ V:Nat → Nat → Hp → Prop,(∃ m,V 0 m (upd H1 p (.lst []))) ∧ ∀ i m H,V i m H →
      (J.stop i H ∧ Qd H) ∨ (J.go i H ∧ ∃ Nx:Hp → Prop,(∀ H',Nx H' → ∃ m',m' < m ∧ V (i + 1) m' H') ∧ ∀ x H',J.yld i H x H' → tG G Γ js g x (L2.wipe σ vs) H' fun σ2 H2=>L2.wipe σ2 vs = L2.wipe σ vs ∧ tMB K G W0 Γ c σ2 H2 fun b H3=>
        if b = true then tM K G W0 Γ .fr e σ2 H3 fun y H4=>∃ acc,H4 p = some (.lst acc) ∧ acc.length < sizeLine ∧ Nx (upd H4 p (.lst (acc ++ [y]))) else Nx H3):=by
  obtain ⟨a,b⟩:=(R1.wipe fun v hv=>.inr (hvs v hv)).lay (o:=.lst []) hp
  exact comp_core hjs hvs wk hp (R1.newG hp) R1.lσ a b upd_same .nil (R1.nowF hp) (R1.newFp hp) q
theorem comp_end {K:PySem.W.Frag} {g:MG} {c:MB} {e:M} {vs:List Nat} {ds:List D} {σ:Sl} {F1 H1:Hp} {fp1:Fp} {s1:Env} {p:Addr} {Q:VK} (hvs:∀ v ∈ vs,Γ[v]? = some .fr) (R1:Rel G Γ s1 σ F1 fp1 H1) (hp:H1 p = none) {fp0:Fp} {H0:Hp} (h0:H0 p = none) {o:R (List D)}
    (q:PostG K G W Γ σ F1 fp1 H1 (AE G .ol fp0 H0) Q (o.noerr.bind fun zs s2=>.ok (.lst zs) (srest s1 s2 vs))) : PostC G Γ σ F1 fp1 H1 p vs (Q (.ref p)) o:=by
  cases o with
  | err _ _=>exact q.elim
  | stuck=>exact q.elim
  | ok zs s2=>
    intro F' fp' H' ws R' x' hpl ra hF hf
    refine q (.ref p) F' _ H' (Rel.rest R1 x'.f hvs R') ⟨x'.f,x'.keep,fun i a h=>?_,x'.nof,x'.there,x'.nt,x'.tab⟩ ⟨[p],⟨p,zs,ws,rfl,rfl,hpl,ra,rfl⟩,fun b hb=>?_⟩
    · have h:a ∈ (if i ∈ vs then [] else fp' i):=h
      by_cases z:i ∈ vs
      · rw [if_pos z] at h; cases h
      · rw [if_neg z] at h; exact x'.new i a h
    · rw [List.mem_singleton.mp hb]
      refine ⟨hF,fun i h=>?_,R1.newG hp,.inr h0⟩
      have h:p ∈ (if i ∈ vs then [] else fp' i):=h
      by_cases z:i ∈ vs
      · rw [if_pos z] at h; cases h
      · rw [if_neg z] at h; exact hf i h
theorem comp_read {K:PySem.W.Frag} {mi:MA} {g:MG} {c:MB} {e:M} {vs js:List Nat} {σ:Sl} {H:Hp} {Q:VK} (hjs:∀ j ∈ js,j ∈ vs) (hvs:∀ v ∈ vs,Γ[v]? = some .fr) (h:tM K G W Γ .ol (mComp mi g c e vs) σ H Q) :
    tLc (tI K G W Γ mi) (tG G Γ js g) (tMB K G W0 Γ c) (tM K G W0 Γ .fr e) vs σ H Q:=by
  obtain ⟨s,F,fp,R,q⟩:=h
  refine ⟨s,F,fp,R,pbind q fun ds s1 J F1 fp1 H1 R1 st1 (wk:Wk G Γ J F1 ds) q1=>fun p hp=>?_⟩
  exact comp_go hjs hvs R1 wk hp (comp_end (K:=K) (W:=W) (g:=g) (c:=c) (e:=e) (ds:=ds) hvs R1 hp (Classical.byContradiction fun z=>st1.there p z hp) q1)
theorem me_comp {ex:Expr} {mi:MA} {g:MG} {c:MB} {e:M} {vs js:List Nat} (h:PE X ex (tLc (tI X.K G W Γ mi) (tG G Γ js g) (tMB X.K G W0 Γ c) (tM X.K G W0 Γ .fr e) vs)) (hjs:∀ j ∈ js,j ∈ vs:=by decide) (hvs:∀ v ∈ vs,Γ[v]? = some .fr:=by decide) : ME X G W Γ ex .ol (mComp mi g c e vs):=
  peI h fun _ _ _=>comp_read hjs hvs
/-- fixing,told of readings -/
theorem fix_read {K:PySem.W.Frag} {m:M} {σ:Sl} {H:Hp} {Q:VK} (h:tM K G W Γ .fr m σ H Q) : tM K G W Γ .ol m σ H Q:=by
  obtain ⟨s,F,fp,R,q⟩:=h
  refine ⟨s,F,fp,R,?_⟩
  cases em:m s with
  | ok d s1=>
    rw [em] at q
    rintro v F1 fp1 H1 R1 st1 ⟨B,⟨p,ds,vs,rfl,rfl,e3,r,rfl⟩,tq⟩
    obtain ⟨t1,t2,t3,t4⟩:=tq p (List.mem_singleton.mpr rfl)
    exact q _ _ _ _ (R1.free t1 t2 t3 e3) (st1.free t1 t4 (R1.tb.no e3)) (AE.fr (.lst upd_same (r.mono fun a u e=>by rw [upd_ne (ne_of_none e t1)]; exact e)))
  | err er s1=>rw [em] at q; exact q
  | stuck=>rw [em] at q; exact q
theorem asgI {st:Stmt} {te te':TE} {g:TG} (h:PS X st (tAsg te g)) (f:∀ σ H Q,te' σ H Q → te σ H Q) : PS X st (tAsg te' g):=psI h fun Dn σ H q=>f σ H _ q
end
section
variable {X:Cx} {n:Nat} {G:Gr n} {W:WX} {Γ : List Ty} {rt:Ty}
def mChain (f f':D → D → Option D) (ma mb mc:M) : M:=fun s=>(ma s).bind fun d s1=>(mb s1).bind fun e s2=>match f d e with
  | some (.bl true)=>(mc s2).bind fun z s3=>R.opt (f' e z) s3
  | some (.bl false)=>.ok (.bl false) s2
  | _=>.stuck
variable {a b c:Expr} {ma mb mc:M} {pos:Pos}
def dTru:D → Option Bool
  | .non=>some false
  | .bl k=>some k
  | .int i=>some (i != 0)
  | .str x=>if x.length ≤ sizeLine then some ((x.length:Int) != 0) else none
  | .tup ds=>some (!ds.isEmpty)
  | .lst ds=>some (!ds.isEmpty)
  | .dct _ _=>none
  | .obj _ _ _=>none
  | .rcd _ _=>none
  | .ptr _=>none
def mTru (m:M) : MB:=fun s=>(m s).bind fun d s1=>R.opt (dTru d) s1
theorem Reps.empty {F:Hp} {ds:List D} {vs:List V} (r:Reps F ds vs) : ds.isEmpty = vs.isEmpty:=by cases r <;> rfl
theorem mt_tru (ha:ME X G W Γ a .fr ma) (he:∀ whole,isTrue a X.env whole = (do let v ←whole; standAt a.pos; holding [v] (truthy v)):=by intro _; rfl) : MT X G W Γ a (mTru ma):=
  ptI (pt_truth ha he) fun σ H Q ⟨s,F,fp,R,q⟩=>⟨s,F,fp,R,pbind q fun d s1 x F1 fp1 H1 R1 st1 a1 q1=>by
    obtain ⟨k,ek,q2⟩:=opt_post q1
    refine ⟨k,?_,pok q2 R1 rfl⟩
    cases a1.rep with
    | non=>cases ek; rfl
    | bl b=>cases ek; rfl
    | int i=>cases ek; rfl
    | str x=>
      obtain ⟨hc,rfl⟩:=if_some (show (if x.length ≤ sizeLine then some ((x.length:Int) != 0) else none) = some k from ek)
      exact ⟨hc,rfl⟩
    | tup e r=>cases ek; exact .inr (.inl ⟨_,R1.sqT e,by rw [r.empty]⟩)
    | lst e r=>cases ek; exact .inl ⟨_,R1.sqL e,by rw [r.empty]⟩
    | dct _ _ _=>cases ek
    | obj _ _ _=>cases ek
    | emp _=>cases ek
    | ptr _=>cases ek
    | ptrL _=>cases ek
    | rcd _ _ _=>cases ek⟩
end
structure Cal (P:Program) (w:World) (K:PySem.W.Frag) (mg:Str → Option Value) (base:Heap) (k:Nat) (x:Str) (ts:List Ty) (t:Ty) (f:List D → R D) (dvs:List V) : Prop where
  ex:∃ (a:Addr) (fd:FuncData) (ps:List Str) (ds:List Value),FnOk P w K mg base (L2.CX P w) k a fd ps (spM K ts t f) ∧ mg x = some (.ref a) ∧ PySem.W.keepIn K (.ref a) = true ∧ Binds K fd ps ds ∧ Vals dvs ds
section
variable {X:Cx} {n:Nat} {G:Gr n} {W:WX} {Γ : List Ty} {rt:Ty}
theorem me_callC {k:Nat} {x:Str} {e:Expr} {es:List Expr} {p pos:Pos} {f:List D → R D} {spa sp:Spc} {dflt:List D} {dvs:List V} {ms:MA} {ts:List Ty} {t:Ty} (C:Cal X.prog X.w X.K X.mg X.base k x ts t f dvs) (hr:Room k X.A) (tk:Takes X W) (hg:Gl X x) (ha:MAr X G W Γ (e :: es) spa ms) (hd:∀ F,Reps F dflt dvs:=by intro F; exact .nil)
    (hsp:sp = spa ++ List.replicate dflt.length none:=by rfl) (hn:nd sp = true:=by rfl) (hj:∀ j ∈ sp.filterMap id,j < Γ.length:=by decide) (hts:sp.map (tyAt Γ) = ts:=by rfl)
    (hdb:(x == ("__debug__" : Str)) = false:=by decide) (he:starEach (e :: es) X.env = (false,eval e X.env) :: starEach es X.env:=by rfl) (hpl:(backTo pos (starEach es X.env)).any (·.1) = false:=by rfl) :
    ME X G W Γ (.Call (.Name x p) (e :: es) [] pos) t (mCallF f sp dflt ms):=by
  obtain ⟨a,fd,ps,ds,F,hm,hk,hb,hv⟩:=C.ex
  exact me_call (pe_callSD F hr hg hm hk hb hv (fun σ=>passAt tk σ) ha hdb he hpl) hd hsp hn hj hts
end
theorem Cal.of {P:Program} {w:World} {K:PySem.W.Frag} {mg:Str → Option Value} {base:Heap} {k:Nat} {x qual:Str} {params:Arguments} {body:List Stmt} {scope:Scope} {a:Addr} {fd:FuncData} {ps:List Str} {ts:List Ty} {t:Ty} {f:List D → R D}
    (F:FunD K x qual params body scope [] [] a fd) (h:FnOk P w K mg base (L2.CX P w) k a fd ps (spM K ts t f)) (hm:mg x = some (.ref a))
    (hb:∀ (kV doc pm:Value) (an:Option Addr) (cdv ct:Value) (us:List Value),us.length = ps.length → bindArgs (PySem.W.fnOf x qual params body scope .none kV doc pm an cdv ct) ⟨us,[]⟩ = pure (ps.zip us)) : Cal P w K mg base k x ts t f []:=
  ⟨a,fd,ps,[],h,hm,F.kp,F.bindsN hb,.nil⟩
def unint:List D → Option (List Int)
  | []=>some []
  | .int i :: ds=>(unint ds).map (i :: ·)
  | _=>none
theorem unint_map:∀ ns:List Int,unint (ns.map D.int) = some ns
  | []=>rfl
  | i :: ns=>by show (unint (ns.map D.int)).map (i :: ·) = _; rw [unint_map ns]; rfl
def bagD (ns:List Int) (k z:Int) : D:=.tup [.lst (ns.map D.int),.int k,.int z]
/-- what a draw tells,and the bag behind it -/
def cellI (ns:List Int) (k:Int) : Int:=if 0 < ns.length then (if ns.getD (k % ns.length).toNat 0 < 0 then 1 - ns.getD (k % ns.length).toNat 0 else ns.getD (k % ns.length).toNat 0) else 0
def seedI (ns:List Int) (k z:Int) : Int:=(z * 48271 + cellI ns k * 9973 + k * 31 + 11) % 2147483647
def drawR (ns:List Int) (k z many:Int) : Int:=if 1000000000000000000 ≤ cellI ns k then cellI ns k % many else seedI ns k z * 69621 % 2147483629 / 64 % many
def drawN (ns:List Int) (k z many:Int) : List Int:=if 1000000000000000000 ≤ cellI ns k then ns.set (k % ns.length).toNat (cellI ns k / many) else ns
def drawK (ns:List Int) (k:Int) : Int:=if 1000000000000000000 ≤ cellI ns k then k else k + 1
def drawZ (ns:List Int) (k z:Int) : Int:=if 1000000000000000000 ≤ cellI ns k then z else seedI ns k z
def drawF:List D → R D
  | [.tup [.lst ds,.int k,.int z],.int many]=>match unint ds with
    | some ns=>if 0 < many ∧ many.natAbs.log2 < 9000 then .ok (.int (drawR ns k z many)) [some (bagD (drawN ns k z many) (drawK ns k) (drawZ ns k z)),none] else .stuck
    | none=>.stuck
  | _=>.stuck
theorem drawF_eq {ns:List Int} {k z many:Int} (h:0 < many) (h2:many.natAbs.log2 < 9000) : drawF [bagD ns k z,.int many] = .ok (.int (drawR ns k z many)) [some (bagD (drawN ns k z many) (drawK ns k) (drawZ ns k z)),none]:=by
  show (match unint (ns.map D.int) with
    | some ns=>if 0 < many ∧ many.natAbs.log2 < 9000 then R.ok (D.int (drawR ns k z many)) [some (bagD (drawN ns k z many) (drawK ns k) (drawZ ns k z)),none] else .stuck
    | none=>.stuck) = _
  rw [unint_map]
  exact if_pos ⟨h,h2⟩
theorem drawR_nonneg {ns:List Int} {k z many:Int} (h:0 < many) : 0 ≤ drawR ns k z many:=by
  unfold drawR
  split <;> exact Int.emod_nonneg _ (by omega)
theorem drawR_lt {ns:List Int} {k z many:Int} (h:0 < many) : drawR ns k z many < many:=by
  unfold drawR
  split <;> exact Int.emod_lt_of_pos _ h
theorem drawN_len {ns:List Int} {k z many:Int} : (drawN ns k z many).length = ns.length:=by
  unfold drawN
  split
  · rw [List.length_set]
  · rfl
/-- a bag -/
def IsBag (d:D) : Prop:=∃ (ns:List Int) (k z:Int),d = bagD ns k z ∧ ns.length ≤ 63
theorem draw_any {d:D} {many:Int} (hb:IsBag d) (h:0 < many) (h2:many.natAbs.log2 < 9000) : ∃ (r:Int) (d':D),drawF [d,.int many] = .ok (.int r) [some d',none] ∧ 0 ≤ r ∧ r < many ∧ IsBag d':=by
  obtain ⟨ns,k,z,rfl,hl⟩:=hb
  exact ⟨_,_,drawF_eq h h2,drawR_nonneg h,drawR_lt h,_,_,_,rfl,by rw [drawN_len]; exact hl⟩
section
variable {X:Cx} {n:Nat} {G:Gr n} {W:WX} {Γ : List Ty} {rt:Ty}
theorem ms_lcF {st:Stmt} {i:Nat} {mi:MA} {g:MG} {c:MB} {e:M} {vs js:List Nat} (h:PS X st (tAsg (tLc (tI X.K G W Γ mi) (tG G Γ js g) (tMB X.K G W0 Γ c) (tM X.K G W0 Γ .fr e) vs) (gName i))) (ht:Γ[i]? = some .fr) (hjs:∀ j ∈ js,j ∈ vs:=by decide) (hvs:∀ v ∈ vs,Γ[v]? = some .fr:=by decide) :
    MSt X G W Γ rt st (sSet i (mComp mi g c e vs)):=ms_set (asgI h fun _ _ _ q=>comp_read hjs hvs (fix_read q)) ht
/-- a def of which nothing is said -/
theorem fn_stuck {P:Program} {w:World} {K:PySem.W.Frag} {mg:Str → Option Value} {base:Heap} {k:Nat} {a:Addr} {fd:FuncData} {ps:List Str} {ts:List Ty} {t:Ty} : FnOk P w K mg base (L2.CX P w) k a fd ps (spM K ts t fun _=>.stuck):=
  ⟨fun vs H Q E ⟨_,_,_,_,_,h⟩=>h.elim,fun A outer s H args us vs Q E _ _ _ _ ⟨_,_,_,_,_,h⟩=>h.elim⟩
/-- what the top has written -/
structure Ctx (fa:List He.Fa) (fn:List He.DefD) (K:PySem.W.Frag) (mg:Str → Option Value) : Prop where
  h:∃ h:Heap,K.In h ∧ h.Ns mainGlobals mg
  c:He.SaysD fa fn K
theorem Ctx.glo {fa:List He.Fa} {fn:List He.DefD} {K:PySem.W.Frag} {mg:Str → Option Value} (c:Ctx fa fn K mg) (i:Nat) {x:Str} (h:fa[i]? = some (.glo x):=by rfl) : mg x = some (.ref (He.ga K x)):=by
  obtain ⟨hp,X,Gm⟩:=c.h
  exact He.glo_ok X Gm (c.c.fact i h)
theorem Ctx.free {fa:List He.Fa} {fn:List He.DefD} {K:PySem.W.Frag} {mg:Str → Option Value} (c:Ctx fa fn K mg) (i:Nat) {x:Str} (h:fa[i]? = some (.free x):=by rfl) : mg x = none:=by
  obtain ⟨hp,X,Gm⟩:=c.h
  exact He.free_ok X Gm (c.c.fact i h)
theorem Ctx.int {fa:List He.Fa} {fn:List He.DefD} {K:PySem.W.Frag} {mg:Str → Option Value} (c:Ctx fa fn K mg) (i:Nat) {x:Str} {z:Int} (h:fa[i]? = some (.int x z):=by rfl) : ∃ t,mg x = some (.int z t):=by
  obtain ⟨hp,X,Gm⟩:=c.h
  exact He.int_ok X Gm (c.c.fact i h)
abbrev G0x (sf:Bool) : Gr 0:=⟨[],fun _=>none,fun _=>[],fun _=>none,L0,L0,sf⟩
abbrev G0:Gr 0:=G0x false
/-- what a law's body behind its bag does -/
theorem law_restG {tl:Env} {sf:Bool} (htl:tl = [] ∨ tl = [some (.lst [])]) {K:PySem.W.Frag} {k:Nat} {m:MS} {ns:List Int} {H:Hp} {b c:Addr} {a:V} {Q:VK} (hb:H b = some (.lst [.ref c,.int 0,.int 7])) (hc:H c = some (.lst (ns.map V.int))) (hbc:b ≠ c) (hl:ns.length ≤ 63) (hΓl:Γ.length = k + 2) (hΓ : Γ[1]? = some .bag)
    (hm:∃ s',m (none :: some (bagD ns 0 7) :: (List.replicate k none ++ tl)) = .rt (.bl true) s') (hQ:∀ H',Q (.bl true) H') (htb:LamX.Tabs Cls.tabs H) :
    tS K (G0x sf) W0 Γ .fr m { nx:=fun _ H'=>Q .non H',rt:=Q } (some a :: some (.ref b) :: List.replicate k none) H:=by
  refine ⟨none :: some (bagD ns 0 7) :: (List.replicate k none ++ tl),fun _=>none,fun i=>if i = 1 then [b,c] else [],?_,?_⟩
  · refine ⟨by simp [hΓl],by simp; omega,fun i t d ht hs=>?_,fun i j x hi hj=>?_,fun _ _ _=>.inl rfl,fun i x h=>?_,fun x o e=>(by cases e),fun x ob e=>(by cases e),⟨fun _ _ e=>(by cases e),fun _ _ e=>(by cases e),fun _ _ _=>.inr rfl,fun _ _ _ _=>rfl,fun _ h=>absurd rfl h,fun _ h=>absurd rfl h.ne,fun _=>⟨htb,fun _ _=>rfl⟩⟩,fun i h=>absurd h (Nat.not_lt_zero i),fun _ _ _=>.inl rfl,⟨htb,fun _ _=>rfl⟩,?_,fun _ _ _ e=>(by cases e)⟩
    · match i,hs with
      | 0,hs=>simp at hs
      | 1,hs=>
        rw [hΓ] at ht
        cases ht
        simp at hs
        subst hs
        exact ⟨.ref b,rfl,b,c,ns,0,7,rfl,rfl,hb,hc,hl,if_pos rfl⟩
      | i + 2,hs=>
        have hik:i < k:=by
          have:=(List.getElem?_eq_some_iff.mp ht).1
          omega
        have hs:(List.replicate k (none:Option D) ++ tl)[i]? = some (some d):=by simpa using hs
        rw [List.getElem?_append_left (by rw [List.length_replicate]; exact hik),List.getElem?_replicate] at hs
        split at hs <;> cases hs
    · have hi:x ∈ (if i = 1 then [b,c] else []):=hi
      have hj:x ∈ (if j = 1 then [b,c] else []):=hj
      by_cases z1:i = 1
      · by_cases z2:j = 1
        · rw [z1,z2]
        · rw [if_neg z2] at hj; cases hj
      · rw [if_neg z1] at hi; cases hi
    · have h:x ∈ (if i = 1 then [b,c] else []):=h
      by_cases z1:i = 1
      · rw [if_pos z1] at h
        rcases List.mem_cons.mp h with q | q
        · rw [q]; exact ⟨_,hb,rfl⟩
        · rw [List.mem_singleton.mp q]; exact ⟨_,hc,rfl⟩
      · rw [if_neg z1] at h; cases h
    · have e1:(if Γ.length = 1 then [b,c] else []) = ([] : List Addr):=if_neg (by omega)
      show StOk _ H _ (if Γ.length = 1 then [b,c] else [])
      rw [e1,hΓl]
      have e2:(none :: some (bagD ns 0 7) :: (List.replicate k none ++ tl))[k + 2]? = tl[0]?:=by
        rw [List.getElem?_cons_succ,List.getElem?_cons_succ,List.getElem?_append_right (by rw [List.length_replicate]; exact Nat.le_refl _),List.length_replicate,Nat.sub_self]
      rw [e2]
      rcases htl with rfl | rfl
      · exact rfl
      · exact ⟨fun _=>0,fun _=>[],⟨fun a i=>⟨fun e=>(by rcases e with e | ⟨_,_,e⟩ <;> cases e),fun e=>absurd e.1 (Nat.not_lt_zero i)⟩,fun i c e=>(by simp at e),fun i c e=>(by simp at e),fun i j b h=>absurd h (Nat.not_lt_zero i),fun b=>⟨fun h=>(by cases h),fun ⟨i,h,_⟩=>absurd h (Nat.not_lt_zero i)⟩,fun b h=>(by cases h)⟩⟩
  · obtain ⟨s',e⟩:=hm
    rw [e]
    rintro v σ' F' fp' H' R x ⟨B,⟨r,_⟩,_⟩
    cases r
    exact hQ H'
theorem law_rest {K:PySem.W.Frag} {k:Nat} {m:MS} {ns:List Int} {H:Hp} {b c:Addr} {a:V} {Q:VK} (hb:H b = some (.lst [.ref c,.int 0,.int 7])) (hc:H c = some (.lst (ns.map V.int))) (hbc:b ≠ c) (hl:ns.length ≤ 63) (hΓl:Γ.length = k + 2) (hΓ : Γ[1]? = some .bag)
    (hm:∃ s',m (none :: some (bagD ns 0 7) :: List.replicate k none) = .rt (.bl true) s') (hQ:∀ H',Q (.bl true) H') (htb:LamX.Tabs Cls.tabs H) :
    tS K G0 W0 Γ .fr m { nx:=fun _ H'=>Q .non H',rt:=Q } (some a :: some (.ref b) :: List.replicate k none) H:=
  law_restG (.inl rfl) hb hc hbc hl hΓl hΓ (by rw [List.append_nil]; exact hm) hQ htb
end
theorem draw_pre {K:PySem.W.Frag} {vs:List V} {H:Hp} {Q:VK} {E:XK} (h:spM K [.bag,.fr] .fr drawF vs H Q E) :
    ∃ (b c:Addr) (ns:List Int) (k z many:Int),vs = [.ref b,.int many] ∧ b ≠ c ∧ H b = some (.lst [.ref c,.int k,.int z]) ∧ H c = some (.lst (ns.map V.int)) ∧ 0 < many ∧ many.natAbs.log2 < 9000 ∧ ns.length ≤ 63 ∧
      ∀ H':Hp,H' b = some (.lst [.ref c,.int (drawK ns k),.int (drawZ ns k z)]) → H' c = some (.lst ((drawN ns k z many).map V.int)) → (∀ a,a ≠ b → a ≠ c → H' a = H a) → Q (.int (drawR ns k z many)) H':=by
  obtain ⟨ds,F,fp,L,p,q⟩:=h
  match ds,p.ld,vs,p.lv with
  | [d,e],_,[v,w],_=>
    have a0:=p.slot 0 _ _ _ rfl rfl rfl
    have a1:=p.slot 1 _ _ _ rfl rfl rfl
    obtain ⟨b,c,ns,k,z,rfl,rfl,hb,hc,hl,hB⟩:=a0
    obtain ⟨r1,_⟩:=a1
    cases r1 with
    | int many=>
      have q:PostF K L [.bag,.fr] .fr [.ref b,.int many] F fp H Q E (drawF [bagD ns k z,.int many]):=q
      by_cases hm:0 < many ∧ many.natAbs.log2 < 9000
      · rw [drawF_eq hm.1 hm.2] at q
        have hbc:b ≠ c:=fun e=>by
          rw [e,hc] at hb
          cases ns with
          | nil=>cases hb
          | cons i r=>cases hb
        refine ⟨b,c,ns,k,z,many,rfl,hbc,hb,hc,hm.1,hm.2,hl,fun H' h1 h2 h3=>?_⟩
        have hnb:b ∈ fp 0:=by rw [hB]; simp
        have hnc:c ∈ fp 0:=by rw [hB]; simp
        have th:∀ a,H a ≠ none → H' a ≠ none:=fun a ha=>by
          by_cases z1:a = b
          · rw [z1,h1]; exact Option.some_ne_none _
          · by_cases z2:a = c
            · rw [z2,h2]; exact Option.some_ne_none _
            · rw [h3 a z1 z2]; exact ha
        have tn:∀ a,Nt H a → Nt H' a:=fun a ha=>by
          by_cases z1:a = b
          · rw [z1]; exact ⟨_,h1,rfl⟩
          · by_cases z2:a = c
            · rw [z2]; exact ⟨_,h2,rfl⟩
            · obtain ⟨o,e1,e2⟩:=ha
              exact ⟨o,by rw [h3 a z1 z2]; exact e1,e2⟩
        refine q (.int _) F (fpCut 2 fp) H' [] ⟨fun i t d v ht he hv=>?_,fun i j a hi hj=>p.dis i j a (fpCut_mem hi).2 (fpCut_mem hj).2,fun i a h=>p.nF i a (fpCut_mem h).2,fun i a h=>tn a (p.oh i a (fpCut_mem h).2),fun a o ea=>?_,fun i a h=>.inl (fpCut_mem h).2,fun i a h=>.inl (fpCut_mem h).1,⟨Same.refl F,fun a o ea _ hn=>?_,fun i a h=>.inl ⟨i,(fpCut_mem h).2⟩,fun _ _ e _=>e,th,tn,fun t=>t.chg fun a o ea q=>by
          rw [h3 a (fun z=>by rw [z,hb] at ea; cases ea; cases q) (fun z=>by rw [z,hc] at ea; cases ea; cases q)]
          exact ea⟩,(rfl:fpCut 2 fp 2 = []),fun _ _ _ e _=>e⟩ ⟨.int _,rfl⟩ fun _ h=>by cases h
        · match i,ht,he,hv with
          | 0,ht,he,hv=>
            cases ht
            cases he
            cases hv
            exact ⟨b,c,_,_,_,rfl,rfl,h1,h2,by rw [drawN_len]; exact hl,hB⟩
          | 1,ht,he,hv=>cases he
          | i + 2,ht,he,hv=>simp at ht
        · exact (p.ext a o ea).eq (h3 a (fun z=>by rw [z,p.nF0 hnb] at ea; cases ea) (fun z=>by rw [z,p.nF0 hnc] at ea; cases ea))
        · rw [h3 a (fun z=>hn 0 (by rw [z]; exact hnb)) (fun z=>hn 0 (by rw [z]; exact hnc))]
          exact ea
      · unfold drawF bagD at q
        simp only [unint_map] at q
        rw [if_neg hm] at q
        exact q.elim
    | _=>exact q.elim
theorem ix_mod {ns:List Int} {k:Int} {j:Nat} (ej:k % (ns.length:Int) = (j:Int)) (hj:j < ns.length) : ixN (ns.map V.int).length (k % ((ns.map V.int).length:Int)) = some j:=by
  have hl:(ns.map V.int).length = ns.length:=List.length_map ..
  rw [hl,ej]
  unfold ixN
  rw [if_pos (by omega),if_pos (by omega)]
  rfl
theorem len_ints (ns:List Int) : (ns.map V.int).length = ns.length:=List.length_map ..
theorem mod_ix {ns:List Int} {k:Int} (h:0 < ns.length) : ∃ j:Nat,k % (ns.length:Int) = (j:Int) ∧ j < ns.length ∧ (k % (ns.length:Int)).toNat = j:=by
  have h0:(0:Int) ≤ k % (ns.length:Int):=Int.emod_nonneg _ (by omega)
  have h1:k % (ns.length:Int) < ns.length:=Int.emod_lt_of_pos _ (by omega)
  exact ⟨(k % (ns.length:Int)).toNat,by omega,by omega,rfl⟩
theorem at_ints {ns:List Int} {j:Nat} {z:Int} (e:z = (j:Int)) (h:j < ns.length) : atI (ns.map V.int) z = some (.int (ns.getD j 0)):=by
  refine at_of e ?_
  rw [List.getElem?_map,List.getElem?_eq_getElem h]
  show some (V.int ns[j]) = _
  rw [List.getD_eq_getElem?_getD,List.getElem?_eq_getElem h]
  rfl
theorem cell_pos {ns:List Int} {k:Int} (h:0 < ns.length) (h2:ns.getD (k % ns.length).toNat 0 < 0) : cellI ns k = 1 - ns.getD (k % ns.length).toNat 0:=by unfold cellI; rw [if_pos h,if_pos h2]
theorem cell_nn {ns:List Int} {k:Int} (h:0 < ns.length) (h2:¬ ns.getD (k % ns.length).toNat 0 < 0) : cellI ns k = ns.getD (k % ns.length).toNat 0:=by unfold cellI; rw [if_pos h,if_neg h2]
theorem cell_no {ns:List Int} {k:Int} (h:¬ 0 < ns.length) : cellI ns k = 0:=by unfold cellI; rw [if_neg h]
/-- the bag's promise -/
def spBag (K:PySem.W.Frag) : Sp:=fun vs H Q _=>∃ (a:Addr) (ns:List Int),vs = [.ref a] ∧ SqL K H a (ns.map V.int) ∧ ns.length ≤ 63 ∧
  ∀ b c H',H' b = some (.lst [.ref c,.int 0,.int 7]) → H' c = some (.lst (ns.map V.int)) → b ≠ c → (∀ a o,H a = some o → H' a = some o) → Q (.ref b) H'
def spLaw (K:PySem.W.Frag) : Sp:=fun vs H Q _=>∃ (a:Addr) (ns:List Int),vs = [.ref a] ∧ SqL K H a (ns.map V.int) ∧ ns.length ≤ 63 ∧ LamX.Tabs Cls.tabs H ∧ ∀ H',Q (.bl true) H'
theorem cut_all (xs:List V) (h:xs.length ≤ 63) : cutV xs none (some 63) = xs:=by
  unfold cutV
  have e1:HT.sIx xs.length 0 none = 0:=rfl
  have e2:HT.sIx xs.length xs.length (some 63) = xs.length:=(HT.sIx_nat xs.length xs.length 63).trans (by omega)
  rw [e1,e2,List.drop_zero,Nat.sub_zero,List.take_length]
/-- raise C(e,..) -/
def sRaise (c:Str) (ns:List Str) (ms:MA) : MS:=fun s=>(ms s).so fun ds s1=>.err ⟨c,ns.reverse,ds.reverse⟩ s1
theorem Reps.rev {F:Hp} : ∀ {ds:List D} {vs:List V},Reps F ds vs → Reps F ds.reverse vs.reverse
  | _,_,.nil=>.nil
  | _,_,.cons r t=>by
    rw [List.reverse_cons,List.reverse_cons]
    exact (Reps.rev t).app (.cons r .nil)
end Bk
namespace Bk
open PySem PySem.Spec PyProof.Rows L2
theorem SaysX.parts {fa:List He.Fa} {xs:List Ft} {fn:List He.DefD} {K:PySem.W.Frag} (c:SaysX fa xs fn K) : (∀ f ∈ fa,f.ok K = true) ∧ (∀ f ∈ xs,f K = true) ∧ He.SaysD fa fn K:=by
  have c1:((fa.all fun f=>f.ok K) && ((xs.all fun f=>f K) && fn.all fun d=>d.ok K)) = true:=congrArg (fun z:AlX=>z.1) c
  have c2:fn.map (fun d=>He.fnW K d.at_) = fn.map He.DefD.val:=congrArg (fun z:AlX=>z.2) c
  obtain ⟨h1,h⟩:=Bool.and_eq_true_iff.mp c1
  obtain ⟨h2,h3⟩:=Bool.and_eq_true_iff.mp h
  refine ⟨List.all_eq_true.mp h1,List.all_eq_true.mp h2,?_⟩
  show (((fa.all fun f=>f.ok K) && fn.all fun d=>d.ok K),fn.map fun d=>He.fnW K d.at_) = (true,fn.map He.DefD.val)
  rw [h1,h3,c2]
  rfl
/-- what the top has written -/
structure Cty (fa:List He.Fa) (xs:List Ft) (fn:List He.DefD) (K:PySem.W.Frag) (mg:Str → Option Value) : Prop where
  h:∃ h:Heap,K.In h ∧ h.Ns mainGlobals mg
  c:SaysX fa xs fn K
section
variable {fa:List He.Fa} {xs:List Ft} {fn:List He.DefD} {K:PySem.W.Frag} {mg:Str → Option Value}
theorem Cty.fact (c:Cty fa xs fn K mg) (i:Nat) {f:He.Fa} (h:fa[i]? = some f:=by rfl) : f.ok K = true:=c.c.parts.1 f (List.mem_of_getElem? h)
theorem Cty.own (c:Cty fa xs fn K mg) (i:Nat) {f:Ft} (h:xs[i]? = some f:=by rfl) : f K = true:=c.c.parts.2.1 f (List.mem_of_getElem? h)
theorem Cty.def_ (c:Cty fa xs fn K mg) (i:Nat) {d:He.DefD} (h:fn[i]? = some d:=by rfl) : ∃ fd,FunD K d.name d.qual d.params d.body d.scope (d.dvs K) (d.kws K) (He.fAd K d.at_) fd:=c.c.parts.2.2.def_ i h
theorem Cty.glo (c:Cty fa xs fn K mg) (i:Nat) {x:Str} (h:fa[i]? = some (.glo x):=by rfl) : mg x = some (.ref (He.ga K x)):=by
  obtain ⟨hp,X,Gm⟩:=c.h
  exact He.glo_ok X Gm (c.fact i h)
theorem Cty.free (c:Cty fa xs fn K mg) (i:Nat) {x:Str} (h:fa[i]? = some (.free x):=by rfl) : mg x = none:=by
  obtain ⟨hp,X,Gm⟩:=c.h
  exact He.free_ok X Gm (c.fact i h)
theorem Cty.int (c:Cty fa xs fn K mg) (i:Nat) {x:Str} {z:Int} (h:fa[i]? = some (.int x z):=by rfl) : ∃ t,mg x = some (.int z t):=by
  obtain ⟨hp,X,Gm⟩:=c.h
  exact He.int_ok X Gm (c.fact i h)
end
/-- a statement of which nothing is said -/
def sStuck:MS:=fun _=>.stuck
theorem ms_stuck [Cls] {X:Cx} {n:Nat} {G:Gr n} {W:WX} {Γ : List Ty} {rt:Ty} {st:Stmt} : MSt X G W Γ rt st sStuck:=
  ⟨fun pins s σ H Dn I h=>by
    obtain ⟨_,_,_,_,h⟩:=h
    exact h.elim⟩
end Bk
namespace Bk
open PySem L2
variable [Cls]
theorem dMod_p {i j:Int} (h:0 < j) : dMod (.int i) (.int j) = some (.int (i % j)):=if_pos h
theorem dDiv_p {i j:Int} (h:0 < j) (h2:j < 18446744073709551616) : dDiv (.int i) (.int j) = some (.int (i / j)):=if_pos ⟨h,by
  rcases Nat.eq_zero_or_pos j.natAbs with z | z
  · rw [z]; decide
  · exact Nat.lt_trans ((Nat.log2_lt (by omega)).mpr (show j.natAbs < 2 ^ 64 by omega)) (by decide)⟩
theorem log_sm {j:Int} (h:0 < j) (h2:j < 18446744073709551616) : j.natAbs.log2 < 9000:=by
  exact Nat.lt_trans ((Nat.log2_lt (by omega)).mpr (show j.natAbs < 2 ^ 64 by omega)) (by decide)
theorem dEq_int (a b:Int) : dEq (.int a) (.int b) = some (a == b):=by
  unfold dEq
  rw [if_pos (by simp [D.flat])]
  simp [D.eq]
theorem dEq_bl (a b:Bool) : dEq (.bl a) (.bl b) = some (a == b):=by
  unfold dEq
  rw [if_pos (by simp [D.flat])]
  simp [D.eq]
def andK (b:M) : D → Env → R D
  | .bl p,s=>if p = true then b s else .ok (.bl false) s
  | _,_=>.stuck
def orK (b:M) : D → Env → R D
  | .bl p,s=>if p = true then .ok (.bl true) s else b s
  | _,_=>.stuck
def tstK:D → Env → R Bool
  | .bl p,s=>.ok p s
  | _,_=>.stuck
def notK:D → Env → R D
  | .bl p,s=>.ok (.bl (!p)) s
  | _,_=>.stuck
def chK (f':D → D → Option D) (mc:M) (e:D) : Option D → Env → R D
  | some (.bl p),s=>if p = true then (mc s).bind fun z s3=>R.opt (f' e z) s3 else .ok (.bl false) s
  | _,_=>.stuck
theorem mAndV_e (a b:M) (s:Env) : mAndV a b s = (a s).bind (andK b):=by
  unfold mAndV
  congr 1
  funext d s1
  cases d with
  | bl p=>cases p <;> rfl
  | _=>rfl
theorem mOrV_e (a b:M) (s:Env) : mOrV a b s = (a s).bind (orK b):=by
  unfold mOrV
  congr 1
  funext d s1
  cases d with
  | bl p=>cases p <;> rfl
  | _=>rfl
theorem mNotV_e (a:M) (s:Env) : mNotV a s = (a s).bind notK:=by
  unfold mNotV
  congr 1
  funext d s1
  cases d <;> rfl
theorem mTst_e (a:M) (s:Env) : mTst a s = (a s).bind tstK:=by
  unfold mTst
  congr 1
  funext d s1
  cases d <;> rfl
theorem mChain_e (f f':D → D → Option D) (ma mb mc:M) (s:Env) : mChain f f' ma mb mc s = (ma s).bind fun d s1=>(mb s1).bind fun e s2=>chK f' mc e (f d e) s2:=by
  unfold mChain
  congr 1
  funext d s1
  congr 1
  funext e s2
  cases f d e with
  | none=>rfl
  | some d=>
    cases d with
    | bl p=>cases p <;> rfl
    | _=>rfl
theorem ix2_0 {a b:D} : dIx (.tup [a,b]) (.int 0) = some a:=rfl
theorem ix2_1 {a b:D} : dIx (.tup [a,b]) (.int 1) = some b:=rfl
theorem ix3_0 {a b c:D} : dIx (.tup [a,b,c]) (.int 0) = some a:=rfl
theorem ix3_1 {a b c:D} : dIx (.tup [a,b,c]) (.int 1) = some b:=rfl
theorem ix3_2 {a b c:D} : dIx (.tup [a,b,c]) (.int 2) = some c:=rfl
theorem rng_z {j:Int} (h:rg 0 j = true) : bRng1 [.int j] = some (rng 0 j.toNat):=if_pos h
mutual
def D.beq:D → D → Bool
  | .non,.non=>true
  | .bl a,.bl b=>a == b
  | .int i,.int j=>i == j
  | .str x,.str y=>x == y
  | .lst xs,.lst ys=>D.beqs xs ys
  | .tup xs,.tup ys=>D.beqs xs ys
  | _,_=>false
def D.beqs:List D → List D → Bool
  | [],[]=>true
  | x :: xs,y :: ys=>D.beq x y && D.beqs xs ys
  | _,_=>false
end
mutual
theorem D.beq_eq:∀ d e:D,D.beq d e = true → d = e
  | .non,e,h=>by cases e <;> first | rfl | cases h
  | .bl a,e,h=>by
    cases e with
    | bl b=>rw [eq_of_beq (show (a == b) = true from h)]
    | _=>cases h
  | .int a,e,h=>by
    cases e with
    | int b=>rw [eq_of_beq (show (a == b) = true from h)]
    | _=>cases h
  | .str a,e,h=>by
    cases e with
    | str b=>rw [eq_of_beq (show (a == b) = true from h)]
    | _=>cases h
  | .lst xs,e,h=>by
    cases e with
    | lst ys=>rw [D.beqs_eq xs ys h]
    | _=>cases h
  | .tup xs,e,h=>by
    cases e with
    | tup ys=>rw [D.beqs_eq xs ys h]
    | _=>cases h
  | .dct ks vs,e,h=>by cases e <;> cases h
  | .obj _ _ _,e,h=>by cases e <;> cases h
  | .rcd _ _,e,h=>by cases e <;> cases h
  | .ptr _,e,h=>by cases e <;> cases h
theorem D.beqs_eq:∀ ds es:List D,D.beqs ds es = true → ds = es
  | [],[],_=>rfl
  | [],_ :: _,h=>by cases h
  | _ :: _,[],h=>by cases h
  | x :: xs,y :: ys,h=>by
    have h:(D.beq x y && D.beqs xs ys) = true:=h
    obtain ⟨h1,h2⟩:=Bool.and_eq_true_iff.mp h
    rw [D.beq_eq x y h1,D.beqs_eq xs ys h2]
end
def nones:Nat → Env → Bool
  | 0,[]=>true
  | n + 1,none :: s=>nones n s
  | _,_=>false
theorem nones_eq:∀ {n:Nat} {s:Env},nones n s = true → s = List.replicate n none
  | 0,[],_=>rfl
  | 0,_ :: _,h=>by cases h
  | n + 1,[],h=>by cases h
  | n + 1,some _ :: _,h=>by cases h
  | n + 1,none :: s,h=>by rw [nones_eq (n:=n) (s:=s) h]; rfl
def okV (n:Nat) : R D → Option D
  | .ok d s=>if nones n s = true then some d else none
  | _=>none
theorem okV_eq {n:Nat} {r:R D} {d:D} (h:okV n r = some d) : r = .ok d (List.replicate n none):=by
  cases r with
  | ok e s=>
    have h:(if nones n s = true then some e else none) = some d:=h
    by_cases hn:nones n s = true
    · rw [if_pos hn] at h
      cases h
      rw [nones_eq hn]
    · rw [if_neg hn] at h
      cases h
  | _=>cases h
/-- fuel from a number's size -/
def fuI (i:Nat) : Env → Nat:=fun s=>match s[i]? with
  | some (some (.int z))=>z.natAbs + 1
  | _=>0
end Bk
namespace Bk
open PySem PySem.Spec PyProof.Rows L2
variable [Cls]
def D.its:D → Option (List D)
  | .lst es=>some es
  | .tup es=>some es
  | _=>none
def dIn (d e:D) : Option Bool:=match e.its with
  | some es=>if (D.flat 60 d && D.flat 60 e) = true then some (es.any fun z=>D.eq z d) else none
  | none=>none
def mInB (g:Bool → Bool) (ma mb:M) : M:=fun s=>(ma s).bind fun d s1=>(mb s1).bind fun e s2=>R.opt ((dIn d e).map fun k=>D.bl (g k)) s2
theorem Reps.dropLast {F:Hp} : ∀ {ds:List D} {vs:List V},Reps F ds vs → Reps F ds.dropLast vs.dropLast
  | _,_,.nil=>.nil
  | _,_,.cons r .nil=>.nil
  | _,_,.cons r (.cons r2 t)=>.cons r (Reps.dropLast (.cons r2 t))
theorem ErrAt.mono {K:PySem.W.Frag} {F F':Hp} {e:Err} {cls:Value} {od:Option Addr} (h:ErrAt K F e cls od) (s:Same F F') : ErrAt K F' e cls od:=by
  obtain ⟨h1,h2⟩:=h
  refine ⟨h1,?_⟩
  rcases h2 with h2 | ⟨d,ws,a1,a2,a3,a4,a5⟩
  · exact .inl h2
  · exact .inr ⟨d,ws,a1,a2,s d _ a3,a4,a5.mono s⟩
section
variable {X:Cx} {n:Nat} {G:Gr n} {Γ : List Ty}
/-- what a clause's suite knows: slot i holds the caught a,of class cls,its dict od -/
def EK (K:PySem.W.Frag) (G:Gr n) (Γ : List Ty) (i:Nat) (a:Addr) (er:Err) (cls:Value) (od:Option Addr) (s:Env) (σ:Sl) (F:Hp) (fp:Fp) (H:Hp) : Prop:=
  Rel G Γ s σ F fp H ∧ σ[i]? = some (some (.ref a)) ∧ ErrAt K F er cls od
variable {i:Nat} {a:Addr} {cls:Value} {od:Option Addr} {oe:Obj} {pn:List (Addr × Obj)}
/-- what a suite's reading is -/
def tES (K:PySem.W.Frag) (G:Gr n) (Γ : List Ty) (i j:Nat) (vals:Err → Option (List D)) (a:Addr) (cls:Value) (od:Option Addr) : TS:=fun Dn σ H=>∃ s F fp er ds,EK K G Γ i a er cls od s σ F fp H ∧ vals er = some ds ∧ ds.length ≤ 1000 ∧ ∀ σ' F' fp' H',Rel G Γ (s.set j (some (.tup ds))) σ' F' fp' H' → Stp L0 F fp H F' fp' H' → Dn.nx σ' H'
end
section
variable {X:Cx} {n:Nat} {G:Gr n} {W:WX} {Γ : List Ty} {a b:Expr} {ma mb:M} {pos:Pos}
def CDivS (_ j:Int) : Prop:=j ≠ 0 ∧ j.natAbs.log2 < 9000
theorem op_fdivS:OpR X (binaryOp .FloorDiv) (rI CDivS fun i j=>.int (i.fdiv j)):=opI fun _ _ _ _ _ _ _ hc q=>floordiv_int hc.1 q (.inl (PyProof.noPylong_of_log2 hc.2))
def dDivS:D → D → Option D
  | .int i,.int j=>if j ≠ 0 ∧ j.natAbs.log2 < 9000 then some (.int (i.fdiv j)) else none
  | _,_=>none
theorem od_divS:OpD (rI CDivS fun i j=>.int (i.fdiv j)) dDivS:=by
  intro d e z x y F H Q h rx ry k
  cases rx with
  | int i=>
    cases ry with
    | int j=>
      obtain ⟨hc,rfl⟩:=if_some h
      exact ⟨i,j,rfl,rfl,hc,k _ (.int _)⟩
    | _=>cases h
  | _=>cases h
theorem me_divS (ha:ME X G W Γ a .fr ma) (hb:ME X G W Γ b .fr mb) : ME X G W Γ (.BinOp a .FloorDiv b pos) .fr (mOp dDivS ma mb):=me_op op_fdivS od_divS ha hb
end
def keyK:D → Option Key
  | .int i=>some (.inl i)
  | .str x=>some (.inr x)
  | _=>none
def keyKs:List D → Option (List Key)
  | []=>some []
  | d :: ds=>match keyK d,keyKs ds with
    | some k,some ks=>some (k :: ks)
    | _,_=>none
def keyOf:D → Option (List Key)
  | .tup ds=>keyKs ds
  | _=>none
def kDs (k:List Key) : D:=.tup (k.map kD)
theorem kD_rep {F:Hp} : ∀ k:Key,Rep F (kD k) (kV k)
  | .inl i=>.int i
  | .inr x=>.str x
theorem kDs_reps {F:Hp} : ∀ k:List Key,Reps F (k.map kD) (k.map kV)
  | []=>.nil
  | k :: ks=>.cons (kD_rep k) (kDs_reps ks)
def memK (ks:List (List Key)) (k:List Key) : Bool:=ks.any fun x=>decide (x = k)
theorem memK_iff {ks:List (List Key)} {k:List Key} : memK ks k = true ↔ k ∈ ks:=by
  unfold memK
  rw [List.any_eq_true]
  exact ⟨fun ⟨x,hx,e⟩=>by rw [←of_decide_eq_true e]; exact hx,fun h=>⟨k,h,decide_eq_true rfl⟩⟩
def putV {α:Type} (ks:List (List Key)) (vs:List α) (k:List Key) (v:α) : List α:=if memK ks k = true then (ks.zip vs).map fun p=>if p.1 = k then v else p.2 else vs ++ [v]
def putKs (ks:List (List Key)) (k:List Key) : List (List Key):=if memK ks k = true then ks else ks ++ [k]
section
variable {X:Cx} {n:Nat} {G:Gr n} {W:WX} {Γ : List Ty} {rt:Ty}
/-- a tuple that stands is fixed -/
theorem Rel.seeT {s:Env} {σ:Sl} {F H:Hp} {fp:Fp} (R:Rel G Γ s σ F fp H) {q:Addr} {vs:List V} (e:H q = some (.tup vs)) : ∃ F',Rel G Γ s σ F' fp H ∧ Stp L0 F fp H F' fp H ∧ F' q = some (.tup vs):=by
  cases hF:F q with
  | some o=>
    have hm:isMk o = false:=by
      cases hm:isMk o with
      | false=>rfl
      | true=>
        obtain ⟨u,e1,e2⟩:=(R.ext q o hF).2.1 hm
        rw [e] at e1
        cases e1
        cases e2
    have h1:=(R.ext q o hF).1 hm
    cases z:G.L q with
    | none=>
      unfold lk at h1
      rw [z,e] at h1
      cases h1
      exact ⟨F,R,Stp.refl F fp H,hF⟩
    | some ob=>
      unfold lk at h1
      rw [z,e] at h1
      cases h1
  | none=>
    have nq:∀ a,Nt H a → a ≠ q:=fun a ⟨o,e1,e2⟩ z=>by
      rw [z,e] at e1
      cases e1
      cases e2
    have sm:Same F (upd F q (.tup vs)):=fun a u ea=>by rw [upd_ne (ne_of_none ea hF)]; exact ea
    have mks:∀ a u,upd F q (.tup vs) a = some u → isMk u = true → F a = some u:=fun a u ea h=>by
      by_cases z:a = q
      · subst z; rw [upd_same] at ea; cases ea; cases h
      · rw [upd_ne z] at ea; exact ea
    refine ⟨upd F q (.tup vs),?_,⟨sm,fun _ _ e _ _=>e,fun i _ h=>.inl ⟨i,h⟩,fun a h ea _=>?_,fun _ h=>h,fun _ h=>h,fun t=>t.fixF (t.no e)⟩,upd_same⟩
    · refine ⟨R.ls,R.lσ,fun i t d ht hs=>?_,R.dis,fun i a h=>?_,R.oh,fun a u ea=>?_,fun a ob ea=>?_,⟨R.stp.f.trans sm,R.stp.keep,R.stp.new,fun a h ea k=>?_,R.stp.there,R.stp.nt,fun t=>(R.stp.tab t).fixF (R.tb.no e)⟩,R.par,R.loc,R.tb.fixF (R.tb.no e),R.sto.mono sm (fun a o e h=>.inl (mks a o e h)) (fun _ _ _ e=>e),fun hs a u e h=>R.nmk hs a u (mks a u e h) h⟩
      · obtain ⟨v,h1,h2⟩:=R.slot i t d ht hs
        exact ⟨v,h1,h2.mono sm fun _ _ _ e=>e⟩
      · rw [upd_ne (nq a (R.oh i a h))]; exact R.nF i a h
      · by_cases z:a = q
        · subst z
          rw [upd_same] at ea
          cases ea
          refine ⟨fun _=>?_,fun q=>(by cases q),fun _ q=>(by cases q)⟩
          unfold lk
          cases zL:G.L a with
          | none=>exact e
          | some ob=>
            obtain ⟨o',e',_⟩:=R.lkd a ob zL
            rw [hF] at e'
            cases e'
        · rw [upd_ne z] at ea; exact R.ext a u ea
      · obtain ⟨o',e1,e2⟩:=R.lkd a ob ea
        exact ⟨o',sm a o' e1,e2⟩
      · rw [upd_ne (nq a (R.stp.nt a h))]; exact R.stp.nof a h ea k
    · rw [upd_ne (nq a h)]; exact ea
theorem Rel.rdz {s:Env} {σ:Sl} {F H:Hp} {fp:Fp} (R:Rel G Γ s σ F fp H) {a:Addr} {o:Obj} {u:HO} (e:F a = some (.frz o u)) (hm:isMk (.frz o u) = false:=by rfl) : Rd H a u:=.inr ⟨o,R.at e rfl hm⟩
theorem pe_orr {e:Expr} {t t':TE} (h:PE X e t) (h':PE X e t') : PE X e (fun σ H Q=>t σ H Q ∨ t' σ H Q):=⟨fun pins s σ H Q I q=>q.elim (h.run pins s σ H Q I) (h'.run pins s σ H Q I)⟩
variable {a b:Expr} {ma mb:M} {pos:Pos}
/-- k in d -/
def dInD:D → D → Option Bool
  | d,.dct ks _=>match keyOf d with
    | some k=>some (memK ks k)
    | none=>none
  | _,_=>none
def mInD (g:Bool → Bool) (ma mb:M) : M:=fun s=>(ma s).bind fun d s1=>(mb s1).bind fun e s2=>R.opt ((dInD d e).map fun k=>D.bl (g k)) s2
def mDNew:M:=fun s=>.ok (.dct [] []) s
theorem new_own {K:PySem.W.Frag} {σ:Sl} {F H:Hp} {fp:Fp} {Q:VK} {d:D} {t:Ty} {s:Env} {o:HO} {p:Addr} {fp0:Fp} {H0:Hp} (th:∀ a,H0 a ≠ none → H a ≠ none) (ho:tupO o = false) (R:Rel G Γ s σ F fp H) (hp:H p = none) (q:PostG K G W Γ σ F fp H (AE G t fp0 H0) Q (.ok d s)) (a:At F (upd H p o) t d (.ref p) [p]) : Q (.ref p) (upd H p o):=by
  obtain ⟨R2,st2⟩:=R.lay (o:=o) hp
  refine q _ _ _ _ R2 st2 ⟨[p],a,fun b hb=>?_⟩
  rw [List.mem_singleton.mp hb]
  exact ⟨R.nowF hp,R.newFp hp,R.newG hp,.inr (Classical.byContradiction fun z=>th p z hp)⟩
end
def runK (ts:List Ty) (rt:Ty) (o:SO) : R D:=match o with
  | .nx s=>if rt = .fr then .ok .non (msk ts s) else .stuck
  | .rt d s=>.ok d (msk ts s)
  | .err e s=>.err e (msk ts s)
  | _=>.stuck
/-- P holds of o -/
def Hs (P:SO → Prop) (o:SO) : Prop:=P o
theorem run_go {Q:R D → Prop} {f:List D → R D} {ts:List Ty} {rt:Ty} {k:Nat} {m:MS} {args:List D} {env:Env} (hf:f = runF ts rt k m) (he:args.map some ++ List.replicate (k - args.length) none = env) (h:Hs (fun o=>Q (runK ts rt o)) (m env)) : Q (f args):=by
  rw [←he] at h
  rw [hf]
  exact h
theorem run_eq {f:List D → R D} {ts:List Ty} {rt:Ty} {k:Nat} {m:MS} {args:List D} {env:Env} {r:R D} (hf:f = runF ts rt k m) (he:args.map some ++ List.replicate (k - args.length) none = env) (h:Hs (fun o=>runK ts rt o = r) (m env)) : f args = r:=by
  rw [←he] at h
  rw [hf]
  exact h
theorem nx_step {P:SO → Prop} {m a b:MS} {s s':Env} (h:m = sSeq a b) (e:a s = .nx s') (k:Hs P (b s')) : Hs P (m s):=by
  rw [h]
  unfold sSeq
  rw [e]
  exact k
theorem nx_is {P:SO → Prop} {m:MS} {s:Env} {o:SO} (e:m s = o) (k:P o) : Hs P (m s):=by rw [e]; exact k
def SeqP (b:MS) (P:SO → Prop) : SO → Prop:=fun o=>P (o.bind b)
theorem seqP_nx {P:SO → Prop} {m b:MS} {s s':Env} (e:m s = .nx s') (k:Hs P (b s')) : Hs (SeqP b P) (m s):=by rw [e]; exact k
theorem if_step {P:SO → Prop} {m a a' b:MS} {c:MB} {s s0:Env} {t:Bool} (h:m = sSeq (sIf c a a') b) (e:c s = .ok t s0) (k:Hs (SeqP b P) (if t = true then a s0 else a' s0)) : Hs P (m s):=by
  rw [h]
  unfold sSeq sIf
  rw [e]
  exact k
theorem if_t {P:SO → Prop} {m a a' b:MS} {c:MB} {s s0:Env} (h:m = sSeq (sIf c a a') b) (e:c s = .ok true s0) (k:Hs (SeqP b P) (a s0)) : Hs P (m s):=if_step h e k
theorem if_fn {P:SO → Prop} {m a b:MS} {c:MB} {s s0:Env} (h:m = sSeq (sIf c a sNil) b) (e:c s = .ok false s0) (k:Hs P (b s0)) : Hs P (m s):=if_step h e k
/-- what a loop's body may do: go on with I,or leave with P -/
def NX (I:Env → Prop) (J:SO → Prop) : SO → Prop
  | .nx s=>I s
  | .ct s=>I s
  | .bk s=>J (.nx s)
  | o=>J o
theorem for_go {P:SO → Prop} {g:MG} {b:MS} {I:List D → Env → Prop} : ∀ {ds:List D} {s:Env},I ds s → (∀ d r s,I (d :: r) s → ∃ s1,g d s = some s1 ∧ Hs (NX (I r) P) (b s1)) → (∀ s,I [] s → P (.nx s)) → P (forM g b ds s)
  | [],s,h,_,k=>k s h
  | d :: ds,s,h,hb,k=>by
    obtain ⟨s1,e1,h1⟩:=hb d ds s h
    unfold forM
    rw [e1]
    simp only []
    cases eb:b s1 with
    | nx s2=>rw [eb] at h1; exact for_go h1 hb k
    | ct s2=>rw [eb] at h1; exact for_go h1 hb k
    | bk s2=>rw [eb] at h1; exact h1
    | rt d s2=>rw [eb] at h1; exact h1
    | err e s2=>rw [eb] at h1; exact h1
    | stuck=>rw [eb] at h1; exact h1
theorem for_step {P:SO → Prop} {m b r:MS} {mi:MA} {g:MG} {s s0:Env} {ds:List D} (I:List D → Env → Prop) (h:m = sSeq (sFor mi g b) r) (e:mi s = .ok ds s0) (h0:I ds s0)
    (hb:∀ d rest s,I (d :: rest) s → ∃ s1,g d s = some s1 ∧ Hs (NX (I rest) (SeqP r P)) (b s1)) (k:∀ s,I [] s → Hs P (r s)) : Hs P (m s):=by
  rw [h]
  show SeqP r P ((mi s).so (forM g b))
  rw [e]
  exact for_go h0 hb k
end Bk
namespace Bk
open PySem PySem.Spec PyProof.Rows L2
def callR (sp:Spc) (s:Env) : R D → R D
  | .ok r e=>.ok r (puts sp e s)
  | .err er e=>.err er (puts sp e s)
  | .stuck=>.stuck
def callO (f:List D → R D) (sp:Spc) (s:Env) : Option (List D) → R D
  | none=>.stuck
  | some ds=>callR sp s (f ds)
def callK (f:List D → R D) (sp:Spc) (dflt:List D) (ds:List D) (s:Env) : R D:=callO f sp s (fill sp (ds ++ dflt) s)
theorem mCallF_e (f:List D → R D) (sp:Spc) (dflt:List D) (ms:MA) (s:Env) : mCallF f sp dflt ms s = (ms s).bind (callK f sp dflt):=by
  rfl
def keyPy:Key → PyData
  | .inl i=>.int i
  | .inr x=>.str x
def kPy (k:List Key) : PyData:=.tuple (k.map keyPy)
def kLe (k k':List Key) : Bool:=PySem.W.dataLe false kPy k k'
def dSle (d e:D) : Bool:=PySem.W.dataLe false D.py d e
def keysOk (ks:List (List Key)) : Bool:=ks.all fun k=>!k.isEmpty && ks.all fun k'=>PySem.W.alike (kPy k) (kPy k')
def tupNe:D → Bool
  | .tup (_ :: _)=>true
  | _=>false
def plainK:D → Bool
  | .int _=>true
  | .str _=>true
  | .bl _=>true
  | _=>false
def sortOk (ds:List D) : Bool:=D.flats 60 ds && ((ds.all fun d=>ds.all fun e=>PySem.W.alike d.py e.py) && (ds.all tupNe || ds.all plainK))
variable [Cls]
end Bk
namespace Bk
open PySem PySem.Spec PyProof.Rows L2
variable [Cls]
section
variable {X:Cx} {n:Nat} {G:Gr n} {W:WX} {Γ : List Ty} {rt:Ty} {a b:Expr} {ma mb:M} {pos:Pos}
/-- behind an expression: a new list of ds -/
theorem new_list {K:PySem.W.Frag} {σ:Sl} {F F0 H H0:Hp} {fp fp0:Fp} {Q:VK} {ds:List D} {vs:List V} {s:Env} (x:Stp L0 F0 fp0 H0 F fp H) (R:Rel G Γ s σ F fp H) {p:Addr} (hp:H p = none) (q:PostG K G W Γ σ F fp H (AE G .ol fp0 H0) Q (.ok (.lst ds) s)) (r:Reps F ds vs) : Q (.ref p) (upd H p (.lst vs)):=
  new_own x.there rfl R hp q ⟨p,ds,vs,rfl,rfl,upd_same,r,rfl⟩
def dSorted:D → Option (List D)
  | .lst ds=>if sortOk ds = true then some (ds.mergeSort dSle) else none
  | .dct ks _=>if keysOk ks = true then some ((ks.mergeSort kLe).map kDs) else none
  | _=>none
def mNewL (f:D → Option (List D)) (m:M) : M:=fun s=>(m s).bind fun d s1=>R.opt ((f d).map D.lst) s1
/-- list(x) -/
def dList:D → Option (List D)
  | .lst ds=>some ds
  | .tup ds=>some ds
  | .dct ks _=>some (ks.map kDs)
  | _=>none
theorem keys_seen {s:Env} {σ:Sl} {F H:Hp} {fp:Fp} (R:Rel G Γ s σ F fp H) : ∀ {kvs:List (List Key × V)} {bs:List Addr},IsKeys H kvs bs → ∃ F',Rel G Γ s σ F' fp H ∧ Stp L0 F fp H F' fp H ∧ Reps F' ((kvs.map (·.1)).map kDs) (bs.map V.ref):=by
  intro kvs bs h
  induction h generalizing F with
  | nil=>exact ⟨F,R,Stp.refl F fp H,.nil⟩
  | cons h t ih=>
    obtain ⟨F1,R1,x1,e1⟩:=R.seeT h
    obtain ⟨F2,R2,x2,r2⟩:=ih R1
    exact ⟨F2,R2,x1.trans x2,.cons (.tup (x2.f _ _ e1) (kDs_reps _)) r2⟩
abbrev rListS (K:PySem.W.Frag) : List V → Hp → VK → Prop:=fun xs H Q=>∃ p ys,xs = [V.ref p] ∧ (SqL K H p ys ∨ SqT K H p ys) ∧ ∀ l,H l = none → Q (.ref l) (upd H l (.lst ys))
abbrev rListD:List V → Hp → VK → Prop:=fun xs H Q=>∃ d kvs,xs = [V.ref d] ∧ Rd H d (.dT kvs) ∧ ∀ p bs,H p = none → IsKeys H kvs bs → Q (.ref p) (upd H p (.lst (bs.map V.ref)))
theorem me_list {e:Expr} {m:M} (hL:PE X e (tCB (rListS X.K) (tCons (tM X.K G W Γ .fr m) tNil))) (hD:PE X e (tCB rListD (tCons (tM X.K G W Γ .fr m) tNil))) : ME X G W Γ e .ol (mNewL dList m):=
  peI (pe_orr hL hD) fun σ H Q ⟨s,F,fp,R,q⟩=>by
    unfold mNewL at q
    cases em:m s with
    | err er s1=>rw [em] at q; exact .inl ⟨s,F,fp,R,by rw [em]; exact q⟩
    | stuck=>rw [em] at q; exact q.elim
    | ok d s1=>
      rw [em,Bk.R.bind_ok] at q
      obtain ⟨z,ez,q2⟩:=opt_post q
      obtain ⟨zs,ez2,rfl⟩:=Option.map_eq_some_iff.mp ez
      cases d with
      | lst ds=>
        cases ez2
        refine .inl ⟨s,F,fp,R,?_⟩
        rw [em]
        intro v F1 fp1 H1 R1 x a
        cases a.rep with
        | @lst ds vs p ea rs=>exact ⟨p,vs,rfl,.inl (R1.sqL ea),fun l hl=>new_list x R1 hl (q2.shift x) rs⟩
      | tup ds=>
        cases ez2
        refine .inl ⟨s,F,fp,R,?_⟩
        rw [em]
        intro v F1 fp1 H1 R1 x a
        cases a.rep with
        | @tup ds vs p ea rs=>exact ⟨p,vs,rfl,.inr (R1.sqT ea),fun l hl=>new_list x R1 hl (q2.shift x) rs⟩
      | dct ks ds=>
        cases ez2
        refine .inr ⟨s,F,fp,R,?_⟩
        rw [em]
        intro v F1 fp1 H1 R1 x a
        cases a.rep with
        | @dct ks ds vs p ob ea el rs=>
          have ek:(ks.zip vs).map (·.1) = ks:=List.map_fst_zip (by omega)
          refine ⟨p,ks.zip vs,rfl,R1.rdz ea,fun p' bs hp hb=>?_⟩
          obtain ⟨F2,R2,x2,r2⟩:=keys_seen R1 hb
          rw [ek] at r2
          exact new_list (x.trans x2) R2 hp (q2.shift (x.trans x2)) r2
      | _=>cases ez2
/-- a + b of lists -/
def dCat:D → D → Option (List D)
  | .lst ds,.lst es=>if ds.length + es.length < 16000000 then some (ds ++ es) else none
  | _,_=>none
def mCat (ma mb:M) : M:=fun s=>(ma s).bind fun d s1=>(mb s1).bind fun e s2=>R.opt ((dCat d e).map D.lst) s2
theorem me_cat (ha:ME X G W Γ a .fr ma) (hb:ME X G W Γ b .fr mb) : ME X G W Γ (.BinOp a .Add b pos) .ol (mCat ma mb):=
  peI (pe_op op_cat ha hb) fun σ H Q ⟨s,F,fp,R,q⟩=>⟨s,F,fp,R,pbind q fun d s1 x F1 fp1 H1 R1 st1 a1 q1=>⟨s1,F1,fp1,R1,pbind q1 fun e s2 y F2 fp2 H2 R2 st2 a2 q2=>by
    obtain ⟨z,ez,q3⟩:=opt_post q2
    obtain ⟨zs,ez2,rfl⟩:=Option.map_eq_some_iff.mp ez
    have r1:=a1.rep.mono st2.f
    cases d with
    | lst ds=>
      cases e with
      | lst es=>
        obtain ⟨hl,rfl⟩:=if_some (show (if ds.length + es.length < 16000000 then some (ds ++ es) else none) = some zs from ez2)
        cases r1 with
        | @lst ds vs p ea rs=>
          cases a2.rep with
          | @lst es ws p2 ea2 rs2=>exact ⟨p,p2,vs,ws,rfl,rfl,R2.at ea rfl,R2.at ea2 rfl,by rw [←rs.len,←rs2.len]; exact Nat.le_of_lt (sixteen hl),fun l hl=>new_list (st1.trans st2) R2 hl q3 (rs.app rs2)⟩
      | _=>cases ez2
    | _=>cases e <;> cases ez2⟩⟩
theorem Rel.give {s:Env} {σ:Sl} {F H:Hp} {fp:Fp} (R:Rel G Γ s σ F fp H) {i:Nat} (hi:i ≠ Γ.length) : Rel G Γ (s.set i none) σ F (fpSet fp i []) H ∧ Stp L0 F fp H F (fpSet fp i []) H:=by
  have R':=R.drop i hi
  have x:Stp L0 F fp H F (fpSet fp i []) H:=(Stp.refl F fp H).put fun _ z=>by cases z
  refine ⟨⟨R'.ls,R'.lσ,fun j t d hj hs=>?_,fun j k b hj hk=>?_,fun j b hj=>?_,fun j b hj=>?_,R'.ext,R'.lkd,R.stp.trans x,R'.par,fun j b hj=>?_,R'.tb,by rw [fpSet_ne (Ne.symm hi)]; exact R'.sto,R'.nmk⟩,x⟩
  · obtain ⟨v',h1,h2⟩:=R'.slot j t d hj hs
    have z:j ≠ i:=fun z=>by
      subst z
      by_cases hl:j < s.length
      · rw [List.getElem?_set_self hl] at hs; cases hs
      · rw [List.getElem?_eq_none (by rw [List.length_set]; omega)] at hs; cases hs
    exact ⟨v',h1,by rw [fpSet_ne z]; exact h2⟩
  · rcases fpSet_mem hj with ⟨_,z⟩ | ⟨z1,h1⟩
    · cases z
    · rcases fpSet_mem hk with ⟨_,z⟩ | ⟨z2,h2⟩
      · cases z
      · exact R.dis j k b h1 h2
  · rcases fpSet_mem hj with ⟨_,z⟩ | ⟨z1,h1⟩
    · cases z
    · exact R.nF j b h1
  · rcases fpSet_mem hj with ⟨_,z⟩ | ⟨z1,h1⟩
    · cases z
    · exact R.oh j b h1
  · rcases fpSet_mem hj with ⟨_,z⟩ | ⟨z1,h1⟩
    · cases z
    · exact R.loc j b h1
theorem getS {α:Type} {l:List (Option α)} {i:Nat} {d:α} (h:l[i]? = some (some d)) : l.set i (some d) = l:=by
  apply List.ext_getElem?
  intro j
  by_cases z:i = j
  · subst z
    rw [List.getElem?_set_self (List.getElem?_eq_some_iff.mp h).1,h]
  · rw [List.getElem?_set_ne z]
theorem set2 {α:Type} {l:List α} {i:Nat} {x y:α} : (l.set i x).set i y = l.set i y:=List.set_set ..
/-- the name read: what it owns is fixed -/
def mVarX (i:Nat) : M:=fun s=>match s[i]? with
  | some (some (.obj c [] ds))=>.ok (.lst ds) (s.set i (some (.lst ds)))
  | some (some d)=>.ok d s
  | _=>.stuck
theorem me_varX {e:Expr} {i:Nat} (h:PE X e (tVar i)) (ht:Γ[i]? = some .xl) (hn:n ≤ i) : ME X G W Γ e .fr (mVarX i):=peI h fun σ H Q ⟨s,F,fp,R,q⟩=>by
  unfold mVarX at q
  split at q
  · rename_i c ds e0
    obtain ⟨v,hv,a⟩:=R.slot i _ _ ht e0
    rcases a with ⟨o,_⟩ | ⟨p,ds',vs,z,rfl,e3,rs,e4⟩
    · cases o
    · cases z
      refine ⟨.ref p,hv,?_⟩
      have hp:p ∈ fp i:=by rw [e4]; exact List.mem_singleton.mpr rfl
      have hF:=R.nFs ht hp
      obtain ⟨R1,x1⟩:=R.give (i:=i) (ne_len ht)
      have no:∀ j,p ∉ fpSet fp i [] j:=fun j hj=>by
        rcases fpSet_mem hj with ⟨_,z⟩ | ⟨z1,h1⟩
        · cases z
        · exact z1 (R.dis j i p h1 hp)
      have hG:G.H p = none:=R.locN ht hn hp
      have R2:=R1.free (o:=.lst vs) hF no hG e3
      have x2:=x1.free (o:=.lst vs) hF (.inl ⟨i,hp⟩) (R1.tb.no e3)
      have r2:Rep (upd F p (.lst vs)) (.lst ds) (.ref p):=.lst upd_same (rs.mono fun a u e=>by rw [upd_ne (ne_of_none e hF)]; exact e)
      have R3:=R2.put (i:=i) (d:=.lst ds) (v:=.ref p) (B:=[]) ht (.inl ⟨rfl,r2,rfl⟩) (fun _ h=>by cases h) fun z=>absurd z (Nat.not_lt.mpr hn)
      rw [set2,getS hv] at R3
      exact q _ _ _ _ R3 (x2.put fun _ h=>by cases h) (AE.fr r2)
  · rename_i d hne e0
    obtain ⟨v,hv,a⟩:=R.slot i _ _ ht e0
    rcases a with ⟨o,r,eB⟩ | ⟨p,ds',vs,z,rfl,e3,rs,e4⟩
    · exact ⟨v,hv,pok q R (AE.fr r)⟩
    · exact absurd z (fun z=>hne _ _ (by rw [z]; rfl))
  · exact q.elim
/-- x = e -/
def sSetXO (i:Nat) (m:M) : MS:=fun s=>(m s).so fun d s1=>match d with
  | .lst ds=>.nx (s1.set i (some (ownL ds)))
  | _=>.stuck
theorem ms_setXO {st:Stmt} {i:Nat} {m:M} (h:PS X st (tAsg (tM X.K G W Γ .ol m) (gName i))) (ht:Γ[i]? = some .xl) (hn:n ≤ i) : MSt X G W Γ rt st (sSetXO i m):=
  psI h fun Dn σ H ⟨s,F,fp,R,q⟩=>⟨s,F,fp,R,by
    unfold sSetXO at q
    cases e:m s with
    | ok d s1=>
      rw [e] at q
      rintro v F1 fp1 H1 R1 x ⟨B,⟨p,ds,vs,rfl,rfl,e3,r,rfl⟩,tq⟩
      refine q _ F1 (fpSet fp1 i [p]) H1 (R1.put ht (.inr ⟨p,ds,vs,rfl,rfl,e3,r,rfl⟩) (fun b hb=>?_) fun z=>absurd z (Nat.not_lt.mpr hn)) (x.put fun b hb=>(tq b hb).2.2.2)
      obtain ⟨q1,q2,q3,q4⟩:=tq b hb
      exact ⟨q1,fun j _=>q2 j,.inl q3⟩
    | err er s1=>rw [e] at q; exact fun cls od F' fp' H' R y z=>q cls od σ F' fp' H' R y z
    | stuck=>rw [e] at q; exact q⟩
def mLenX (i:Nat) : M:=fun s=>match s[i]? with
  | some (some (.obj _ [] ds))=>.ok (.int ds.length) s
  | some (some (.lst ds))=>.ok (.int ds.length) s
  | _=>.stuck
/-- x[k] -/
def mIxX (i:Nat) (mb:M) : M:=fun s=>match s[i]? with
  | some (some _)=>(mb s).bind fun d s1=>match s1[i]?,d with
    | some (some (.obj _ [] ds)),.int k=>R.opt (atI ds k) s1
    | some (some (.lst ds)),.int k=>R.opt (atI ds k) s1
    | _,_=>.stuck
  | _=>.stuck
/-- what is done to an own list -/
theorem Rel.ownX {s:Env} {σ:Sl} {F H:Hp} {fp:Fp} (R:Rel G Γ s σ F fp H) {i:Nat} {p:Addr} {ds:List D} {vs:List V} (ht:Γ[i]? = some .xl) (hp:fp i = [p]) (hv:σ[i]? = some (some (.ref p))) (r:Reps F ds vs) :
    Rel G Γ (s.set i (some (ownL ds))) σ F fp (upd H p (.lst vs)) ∧ Stp L0 F fp H F fp (upd H p (.lst vs)):=
  R.own (o:=.lst vs) (d:=ownL ds) ht (by rw [hp]; exact List.mem_singleton.mpr rfl) (.ref p) hv (.inr ⟨p,ds,vs,rfl,rfl,upd_same,r,hp⟩)
theorem Rel.slotX {s:Env} {σ:Sl} {F H:Hp} {fp:Fp} (R:Rel G Γ s σ F fp H) {i:Nat} {c:Str} {ds:List D} (ht:Γ[i]? = some .xl) (e:s[i]? = some (some (.obj c [] ds))) : ∃ p vs,σ[i]? = some (some (.ref p)) ∧ H p = some (.lst vs) ∧ Reps F ds vs ∧ fp i = [p]:=by
  obtain ⟨v,hv,a⟩:=R.slot i _ _ ht e
  rcases a with ⟨o,_⟩ | ⟨p,ds',vs,z,rfl,e3,rs,e4⟩
  · cases o
  · cases z
    exact ⟨p,vs,hv,e3,rs,e4⟩
def sAppX (i:Nat) (m:M) : MS:=fun s=>match s[i]? with
  | some (some (.obj _ [] _))=>(m s).so fun d s1=>match s1[i]? with
    | some (some (.obj _ [] ds))=>if ds.length < 16000000 then .nx (s1.set i (some (ownL (ds ++ [d])))) else .stuck
    | _=>.stuck
  | _=>.stuck
theorem ms_appX {e:Expr} {i:Nat} {m:M} (h:PE X e (tBM X.K "list" rAppend (tVar i) (tCons (tM X.K G W Γ .fr m) tNil))) (ht:Γ[i]? = some .xl) (hs:swapsWith e none pos.line X.env = pure false:=by rfl) : MSt X G W Γ rt (.Expr e pos) (sAppX i m):=
  psI (ps_expr h hs) fun Dn σ H ⟨s,F,fp,R,q⟩=>by
    unfold sAppX at q
    split at q
    · rename_i c0 ds0 e0
      obtain ⟨p0,vs0,hv,e3,_,_⟩:=R.slotX ht e0
      refine ⟨.ref p0,hv,.inl ⟨rfl,vs0,.of e3⟩,s,F,fp,R,sbind q fun d s1 w F1 fp1 H1 R1 x1 b q1=>?_⟩
      split at q1
      · rename_i c ds e1
        obtain ⟨p,vs,hv',e3,rs,e4⟩:=R1.slotX ht e1
        rw [hv] at hv'
        cases hv'
        by_cases hl:ds.length < 16000000
        · rw [if_pos hl] at q1
          refine ⟨p0,vs,w,rfl,rfl,e3,by rw [←rs.len]; exact sixteen hl,?_⟩
          obtain ⟨R2,x2⟩:=R1.ownX ht e4 hv (rs.app (.cons b.rep .nil))
          exact q1 _ _ _ _ R2 x2
        · rw [if_neg hl] at q1; exact q1.elim
      · exact q1.elim
    · exact q.elim
end
section
variable {X:Cx} {n:Nat} {G:Gr n} {W:WX} {Γ : List Ty} {rt:Ty} {a b:Expr} {ma mb:M} {pos:Pos}
/-- for k in d,d fixed -/
def mKeysI (m:M) : MA:=fun s=>(m s).bind fun d s1=>match d with
  | .dct ks _=>.ok (ks.map kDs) s1
  | _=>.stuck
abbrev Dc:=List (List Key) × List D
end
section
variable {X:Cx} {n:Nat} {G:Gr n} {W:WX} {Γ : List Ty} {rt:Ty} {a b:Expr} {ma mb:M} {pos:Pos}
/-- x[lo:hi] of a fixed list -/
def mPart:Option M → Env → R (Option Int)
  | none=>fun s=>.ok none s
  | some m=>fun s=>(m s).bind fun d s1=>match d with
    | .int i=>.ok (some i) s1
    | _=>.stuck
def cutD (ds:List D) (lo hi:Option Int) : List D:=(ds.drop (HT.sIx ds.length 0 lo)).take (HT.sIx ds.length ds.length hi - HT.sIx ds.length 0 lo)
def mSlice (m:M) (lo hi:Option M) : M:=fun s=>(m s).bind fun d s1=>(mPart lo s1).bind fun l s2=>(mPart hi s2).bind fun h s3=>match d with
  | .lst ds=>.ok (.lst (cutD ds l h)) s3
  | _=>.stuck
end
theorem ints_reads {h:Heap} : ∀ {ns:List Int} {us:List Value},Vals (ns.map V.int) us → ReadsAll h us (ns.map PyData.int) []
  | [],_,r=>by cases r; exact .nil
  | n :: ns,us,r=>by
    rw [List.map_cons] at r
    cases r with
    | cons r1 r2=>
      obtain ⟨t,rfl⟩:=r1
      exact ReadsAll.cons (as:=[]) (bs:=[]) (.int n t) (ints_reads r2)
theorem ints_alike (ns:List Int) : PySem.W.AlikeAll (ns.map PyData.int):=by
  refine ⟨fun x hx y hy=>?_,fun x hx=>?_⟩
  · obtain ⟨i,_,rfl⟩:=List.mem_map.mp hx
    obtain ⟨j,_,rfl⟩:=List.mem_map.mp hy
    simp [PySem.W.alike]
  · obtain ⟨i,_,rfl⟩:=List.mem_map.mp hx
    exact fun z=>nomatch z
theorem ints_depth:∀ ns:List Int,PyData.depthAll (ns.map PyData.int) = 0
  | []=>rfl
  | n :: ns=>by
    rw [List.map_cons]
    show max (PyData.depth (.int n)) (PyData.depthAll (ns.map PyData.int)) = 0
    rw [ints_depth ns]
    rfl
theorem reads_int {h:Heap} {v:Value} {m:Int} {bs:List Addr} (r:Reads h v (.int m) bs) : ∃ t,v = .int m t:=by
  cases r
  exact ⟨_,rfl⟩
def rBest (K:PySem.W.Frag) (f:Int → Int → Int) : List V → Hp → VK → Prop:=fun xs H Q=>∃ (a:Addr) (n:Int) (ns:List Int),xs = [.ref a] ∧ (SqL K H a ((n :: ns).map V.int) ∨ SqT K H a ((n :: ns).map V.int)) ∧ Q (.int (ns.foldl f n)) H
section
variable {X:Cx}
theorem call_minI {k:Nat} (hr:Room k X.A) (hc:X.calm = true) : CallR X (.builtin "min") (rBest X.K min):=by
  intro pins s σ H xs us Q I r h
  obtain ⟨a,n,ns,rfl,hs,q⟩:=h
  obtain ⟨u,rfl,ru⟩:=vals1 r
  obtain rfl:u = Value.ref a:=ru
  have hu:X.A.units + 1 + PyData.depthAll (.int n :: ns.map PyData.int) < cLine:=by
    have:=hr.un
    have e:=ints_depth (n :: ns)
    rw [List.map_cons] at e
    rw [e]
    omega
  have al:=ints_alike (n :: ns)
  rw [List.map_cons] at al
  rcases hs with hs | hs
  · obtain ⟨its,rv,hl,hz⟩:=I.list hs
    have rr:=ints_reads (h:=s.heap) rv
    rw [List.map_cons] at rr
    refine PySem.W.min_list_data (I.ok.hd hc) hl.isList (vs:=its.toArray) (by rw [List.toList_toArray]; exact rr) al hu fun i v h' tk bs hi hrd kp=>?_
    rw [PySem.W.minD_ints] at hrd
    obtain ⟨t,rfl⟩:=reads_int hrd
    exact ⟨.int _,H,I.kept (t':=tk) kp,⟨_,rfl⟩,q⟩
  · obtain ⟨its,rv,hl,hz⟩:=I.tuple hs
    have rr:=ints_reads (h:=s.heap) rv
    rw [List.map_cons] at rr
    refine PySem.W.min_tuple_data (I.ok.hd hc) hl (vs:=its.toArray) (by rw [List.toList_toArray]; exact rr) al hu fun i v h' tk bs hi hrd kp=>?_
    rw [PySem.W.minD_ints] at hrd
    obtain ⟨t,rfl⟩:=reads_int hrd
    exact ⟨.int _,H,I.kept (t':=tk) kp,⟨_,rfl⟩,q⟩
theorem call_maxI {k:Nat} (hr:Room k X.A) (hc:X.calm = true) : CallR X (.builtin "max") (rBest X.K max):=by
  intro pins s σ H xs us Q I r h
  obtain ⟨a,n,ns,rfl,hs,q⟩:=h
  obtain ⟨u,rfl,ru⟩:=vals1 r
  obtain rfl:u = Value.ref a:=ru
  have hu:X.A.units + 1 + PyData.depthAll (.int n :: ns.map PyData.int) < cLine:=by
    have:=hr.un
    have e:=ints_depth (n :: ns)
    rw [List.map_cons] at e
    rw [e]
    omega
  have al:=ints_alike (n :: ns)
  rw [List.map_cons] at al
  rcases hs with hs | hs
  · obtain ⟨its,rv,hl,hz⟩:=I.list hs
    have rr:=ints_reads (h:=s.heap) rv
    rw [List.map_cons] at rr
    refine PySem.W.max_list_data (I.ok.hd hc) hl.isList (vs:=its.toArray) (by rw [List.toList_toArray]; exact rr) al hu fun i v h' tk bs hi hrd kp=>?_
    rw [PySem.W.maxD_ints] at hrd
    obtain ⟨t,rfl⟩:=reads_int hrd
    exact ⟨.int _,H,I.kept (t':=tk) kp,⟨_,rfl⟩,q⟩
  · obtain ⟨its,rv,hl,hz⟩:=I.tuple hs
    have rr:=ints_reads (h:=s.heap) rv
    rw [List.map_cons] at rr
    refine PySem.W.max_tuple_data (I.ok.hd hc) hl (vs:=its.toArray) (by rw [List.toList_toArray]; exact rr) al hu fun i v h' tk bs hi hrd kp=>?_
    rw [PySem.W.maxD_ints] at hrd
    obtain ⟨t,rfl⟩:=reads_int hrd
    exact ⟨.int _,H,I.kept (t':=tk) kp,⟨_,rfl⟩,q⟩
end
def D.ints:List D → Option (List Int)
  | []=>some []
  | .int i :: ds=>(D.ints ds).map (i :: ·)
  | _=>none
def bBest (f:Int → Int → Int) : List D → Option D
  | [.tup ds]=>match D.ints ds with
    | some (n :: ns)=>some (.int (ns.foldl f n))
    | _=>none
  | [.lst ds]=>match D.ints ds with
    | some (n :: ns)=>some (.int (ns.foldl f n))
    | _=>none
  | _=>none
theorem ints_rep {F:Hp} : ∀ {ds:List D} {ns:List Int} {vs:List V},D.ints ds = some ns → Reps F ds vs → vs = ns.map V.int
  | [],ns,vs,h,r=>by cases h; cases r; rfl
  | .int i :: ds,ns,vs,h,r=>by
    unfold D.ints at h
    obtain ⟨ms,e,rfl⟩:=Option.map_eq_some_iff.mp h
    cases r with
    | cons r t=>
      cases r
      rw [ints_rep e t]
      rfl
  | .bl _ :: _,_,_,h,_=>by cases h
  | .non :: _,_,_,h,_=>by cases h
  | .str _ :: _,_,_,h,_=>by cases h
  | .tup _ :: _,_,_,h,_=>by cases h
  | .lst _ :: _,_,_,h,_=>by cases h
  | .dct _ _ :: _,_,_,h,_=>by cases h
  | .obj _ _ _ :: _,_,_,h,_=>by cases h
  | .rcd _ _ :: _,_,_,h,_=>by cases h
  | .ptr _ :: _,_,_,h,_=>by cases h
section
variable {X:Cx} {n:Nat} {G:Gr n} {W:WX} {Γ : List Ty} {rt:Ty}
theorem me_best {f:Int → Int → Int} {e:Expr} {ms:MA} (h:PE X e (tCB (rBest X.K f) (tMA X.K G W Γ ms))) : ME X G W Γ e .fr (mCall (bBest f) ms):=peI h fun σ H Q=>cb (fun ds z vs s F fp H Q R hz rs k=>by
  match ds,hz with
  | [.tup es],hz=>
    obtain ⟨v,rfl,r⟩:=rs.one
    cases r with
    | tup e t=>
      unfold bBest at hz
      simp only at hz
      split at hz
      · rename_i m ms em
        cases hz
        exact ⟨_,m,ms,rfl,.inr (by rw [←ints_rep em t]; exact R.sqT e),k _ (.int _)⟩
      · cases hz
  | [.lst es],hz=>
    obtain ⟨v,rfl,r⟩:=rs.one
    cases r with
    | lst e t=>
      unfold bBest at hz
      simp only at hz
      split at hz
      · rename_i m ms em
        cases hz
        exact ⟨_,m,ms,rfl,.inl (by rw [←ints_rep em t]; exact R.sqL e),k _ (.int _)⟩
      · cases hz)
end
end Bk
namespace Bk
open PySem PySem.Spec PyProof.Rows L2
end Bk
namespace Bk
open PySem PySem.Spec PyProof.Rows L2
variable [Cls]
/-- from H to H1 nothing but the tables has changed -/
structure LmStp (H H1:Hp) : Prop where
  keep:∀ b o,H b = some o → (∀ q ∈ Cls.tabs,b ≠ q.1) → H1 b = some o
  tab:∀ F,TbOk F H → TbOk F H1
  there:∀ b,H b ≠ none → H1 b ≠ none
end Bk
namespace Bk
open PySem PySem.Spec PyProof.Rows L2
end Bk
namespace Bk
open PySem PySem.Spec PyProof.Rows L2
variable [Cls]
section
variable {n:Nat} {G:Gr n} {Γ : List Ty} {s:Env} {σ:Sl} {F H:Hp} {fp:Fp}
theorem LmStp.stp {H1:Hp} (x:LmStp H H1) (R:Rel G Γ s σ F fp H) : Rel G Γ s σ F fp H1 ∧ Stp L0 F fp H F fp H1:=by
  have y:Stp L0 F fp H F fp H1:=⟨Same.refl F,fun a o e z _=>x.keep a o e z,fun i a h=>.inl ⟨i,h⟩,fun _ _ e _=>e,x.there,fun a ⟨o,e,t⟩=>⟨o,x.keep a o e (Nt.ntab ⟨o,e,t⟩ R.tb),t⟩,x.tab F⟩
  exact ⟨R.step y (fun i a h o e=>x.keep a o e ((R.oh i a h).ntab R.tb)) R.nF (fun a o e1 e2=>by rw [e1] at e2; cases e2),y⟩
end
end Bk
namespace Bk
open PySem PySem.Spec PyProof.Rows L2
def tabsL (K:PySem.W.Frag) (tl:Tl) : List (Addr × Str):=tl.map fun p=>((He.cT K p.1).2,p.2)
/-- the end of a law of a script,with tables -/
theorem walk_bkT {law:PySem.W.OpenLaw} {top lv:Nat} {qp:Program} {free:List Str} {XP:(Str → Option Value) → Heap → Prop} {YP:World → Heap → Prop} {dr:DefRec} {p:Str}
    (hmost:law.most = some top) (htop:top ≤ sizeLine) (hdef:dr.params.defaults = []) (hroom:Room lv callerA)
    (F:∀ (w:World) (mg:Str → Option Value) (at_:Addr) (hp:Heap),YP w hp → hp.Ns mainGlobals mg → mg dr.name = some (.ref at_) →
      ∃ (K:PySem.W.Frag) (fd:FuncData) (sp:Sp) (tl:Tl),K.In hp ∧ TabF tl hp K ∧ (∀ (sh:Shared) (u:Value),BindsTo sh fd ⟨[u],[]⟩ [(p,u)]) ∧
        (∀ (H:Hp) (at2:Addr) (ns:List Int),ns.length ≤ top → LamX.Tabs (tabsL K tl) H → SqL K H at2 (ns.map V.int) → sp [.ref at2] H (fun v _=>v = .bl true) fun _ _ _=>False) ∧
        ∀ b:Heap,K.In b → b.Ns mainGlobals mg → (∀ p ∈ tl,LamX.TabB b mg (He.cT K p.1).1 (He.cT K p.1).2) → FnOk law.prog w K mg b (L2.CX law.prog w) lv at_ fd [p] sp) :
    PySem.W.WalkO qp free XP YP law.row.toRowW dr [] (fun f vs=>PySem.call f vs):=by
  refine Att.attach_call hmost hdef fun w sA sB mg mb at_ ob pm cd dc at2 vs ns Gd Yw h1 h2 h3 hmg h4 h5 h6 h7=>?_
  obtain ⟨K,fd,sp,tl,KX,T,hb,hsp,hF⟩:=F w mg at_ sB.heap Yw Gd.T.g hmg
  have mem:∀ {q:Addr × Addr},q ∈ tl.map (fun p=>He.cT K p.1) → ∃ p ∈ tl,He.cT K p.1 = q:=fun h=>List.mem_map.mp h
  refine LamX.law_callTs (cs:=tl.map fun p=>He.cT K p.1) KX Gd.T.g Gd.T.b Gd.T.builtins Gd.T.nolimit h7 (fun q hq=>?_) (fun q hq=>?_) (fun q hq=>?_) Gd.T.bmain h4 h5 (Nat.le_trans h6 htop) hroom (fun b kb nb tb=>hF b kb nb fun p hp=>tb _ (List.mem_map.mpr ⟨p,hp,rfl⟩)) hb (fun H hT hS=>hsp H at2 ns h6 (fun q hq=>?_) hS) fun H e s' z=>?_
  · obtain ⟨p,hp,rfl⟩:=mem hq
    exact T.emp p hp
  · obtain ⟨p,hp,rfl⟩:=mem hq
    exact T.out p hp
  · obtain ⟨p,hp,rfl⟩:=mem hq
    exact PySem.W.codeHd_of_K KX (T.hd p hp)
  · obtain ⟨p,hp,rfl⟩:=List.mem_map.mp hq
    exact LamX.TabS.nil (hT _ (List.mem_map.mpr ⟨p,hp,rfl⟩))
  · obtain ⟨_,_,_,_,_,_,_,_,_,_,_,_,_,z⟩:=z
end Bk
namespace Bk
open PySem PySem.Spec PyProof.Rows L2
variable [Cls]
section
variable {X:Cx} {n:Nat} {G:Gr n} {W:WX} {Γ : List Ty} {rt:Ty}
/-- the values of keywords -/
abbrev MKs (X:Cx) {n:Nat} (G:Gr n) (W:WX) (Γ : List Ty) (kws:List Keyword) (m:MA) : Prop:=PK X kws (tMA X.K G W Γ m)
theorem pkI {kws:List Keyword} {t t':TA} (h:PK X kws t) (f:∀ σ H Q,t' σ H Q → t σ H Q) : PK X kws t':=⟨fun po pins s σ H Q I q=>h.run po pins s σ H Q I (f σ H Q q)⟩
theorem mk_nil:MKs X G W Γ [] mNil:=pkI pk_nil fun σ H Q ⟨s,F,fp,R,q⟩=>pok q R .nil
theorem mk_cons {e:Expr} {nm:Option Str} {kpos:Pos} {kws:List Keyword} {m:M} {ms:MA} (h:ME X G W Γ e .fr m) (hs:MKs X G W Γ kws ms) : MKs X G W Γ (⟨nm,e,kpos⟩ :: kws) (mCons m ms):=
  pkI (pk_cons h hs) fun σ H Q ⟨s,F,fp,R,q⟩=>⟨s,F,fp,R,pbind q fun d s1 x F1 fp1 H1 R1 st1 a1 q1=>⟨s1,F1,fp1,R1,pbind q1 fun ds s2 xs F2 fp2 H2 R2 st2 a2 q2=>pok q2 R2 (.cons (a1.rep.mono st2.f) a2)⟩⟩
end
end Bk
namespace Bk
open PySem PySem.Spec PyProof.Rows L2
/-- a new thing of the class at C -/
def tMakeS (C:Addr) (sp:Sp) (dvs:List V) (E:L2.St → XK) (t:TA) : TE:=fun σ H Q=>t σ H fun vs Z=>
  ∀ a b,Z a = none → Z b = none → b ≠ a → sp (.ref a :: (vs ++ dvs)) (L2.upd (L2.upd Z b (.own a)) a (.ins C b [])) (fun u Y=>u = .non ∧ Q (.ref a) Y) (E σ)
/-- a method of a thing of the class at C -/
def tMethS (C:Addr) (m:Str) (sp:Sp) (dvs:List V) (E:L2.St → XK) (ta:TE) (t:TA) : TE:=fun σ H Q=>ta σ H fun y Z=>
  ∃ a b fs,y = .ref a ∧ Z a = some (.ins C b fs) ∧ fs.lookup m = none ∧ t σ Z fun vs Y=>sp (y :: (vs ++ dvs)) Y Q (E σ)
section
variable {X:Cx} {CX:CXT} {k:Nat} {f C:Addr} {fd:FuncData} {ps:List Str} {sp:Sp} {dvs:List V} {ds:List Value} {E:L2.St → XK} {x m:Str} {p pos apos:Pos} {e o:Expr} {es:List Expr} {t:TA} {ta:TE}
theorem run_mkS {pins:List (Addr × Obj)} {σ:L2.St} {H:Hp} {s:Shared} {Q:VK} {us:List Value} {vs:List V} (M:Mk X.K C f) (F:FnOk X.prog X.w X.K X.mg X.base CX k f fd ps sp) (hr:Room (k + 1) X.A) (hb:Binds X.K fd ps ds) (hd:Vals dvs ds)
    (hx:PassesAt CX X σ (E σ)) (I:Inv X pins σ H s) (r:Vals vs us) (h:∀ a b,H a = none → H b = none → b ≠ a → sp (.ref a :: (vs ++ dvs)) (L2.upd (L2.upd H b (.own a)) a (.ins C b [])) (fun u Y=>u = .non ∧ Q (.ref a) Y) (E σ)) :
    wpAny (model X.prog X.w) X.A (call (.ref C) us) (EP X pins σ Q) X.xe s:=by
  have g:=h (s.heap.objs.size + 1) s.heap.objs.size (I.hok.fresh (Nat.le_succ _)) (I.hok.fresh (Nat.le_refl _)) (Nat.ne_of_lt (Nat.lt_succ_self _))
  have J:=Inv.made (C:=C) I
  have rs:Vals (V.ref (s.heap.objs.size + 1) :: (vs ++ dvs)) (Value.ref (s.heap.objs.size + 1) :: (us ++ ds)):=.cons rfl (r.append hd)
  have ln:=rs.length.symm.trans (F.len _ _ _ _ g)
  have go:=F.run _ X.stack _ _ ⟨Value.ref (s.heap.objs.size + 1) :: us,[]⟩ (Value.ref (s.heap.objs.size + 1) :: (us ++ ds)) _ _ (E σ) (hr.make C us []) (J.env0.make C us []) (hb _ (Value.ref (s.heap.objs.size + 1) :: us) J.kIn ln) rs g
  refine wpAny_call (make_map (f:=f) I.kIn M.makes M.init (beq_iff_eq.mp M.fn) (codeAny_mono go fun r z q=>?_))
  rcases r with e | fl
  · exact hx pins _ _ e z J q
  · cases fl with
    | ret u=>
      obtain ⟨v,Z,J3,rv,ev,q3⟩:=J.after q
      subst ev
      exact ⟨rv,⟨V.ref (s.heap.objs.size + 1),Z,J3,rfl,q3⟩⟩
    | next=>exact q.elim
    | brk=>exact q.elim
    | cont=>exact q.elim
theorem pe_mkS (M:Mk X.K C f) (F:FnOk X.prog X.w X.K X.mg X.base CX k f fd ps sp) (hr:Room (k + 1) X.A) (hg:Gl X x) (hm:X.mg x = some (.ref C)) (hb:Binds X.K fd ps ds) (hd:Vals dvs ds) (hx:∀ σ,PassesAt CX X σ (E σ))
    (ha:PA X (e :: es) t) (h1:(x == ("__debug__" : Str)) = false:=by decide) (h2:starEach (e :: es) X.env = (false,eval e X.env) :: starEach es X.env:=by rfl) (h3:(backTo pos (starEach es X.env)).any (·.1) = false:=by rfl) :
    PE X (.Call (.Name x p) (e :: es) [] pos) (tMakeS C sp dvs E t):=
  ⟨fun pins s σ H Q I q=>wpAny_Call_Name_kw (ld_glob I hg hm (PySem.W.callWith_K (h₀:=X.base) I.ok.mod.kin M.kp (thn (ha.run pos pins s σ H _ I q) fun us z ⟨vs,Z,J,r,w⟩=>⟨J.kIn,run_mkS M F hr hb hd (hx σ) J r w⟩) h2 h3) h1)⟩
/-- how a method's call is looked up -/
def MethLook (X:Cx) (o:Expr) (m:Str) (apos pos:Pos) (es:List Expr) (pl:Sem Bool) : Prop:=
  eval (.Call (.Attribute o m apos) es [] pos) X.env = (eval o X.env >>= fun ov=>standAt apos.atName >>= fun _=>holding [ov] (getMethod ov m pl) >>= fun fm=>callWith pos fm.1 fm.2 (backTo pos (starEach es X.env)) (backToKw pos (keywordEach [] X.env)))
theorem pe_methS {pl:Sem Bool} (he:PE X o ta) (c:L2.Cls X.K C) (hm:Meth X.K C m f) (F:FnOk X.prog X.w X.K X.mg X.base CX k f fd ps sp) (hr:Room k X.A) (hb:Binds X.K fd ps ds) (hd:Vals dvs ds) (hx:∀ σ,PassesAt CX X σ (E σ)) (ha:PA X (e :: es) t)
    (h2:starEach (e :: es) X.env = (false,eval e X.env) :: starEach es X.env:=by rfl) (h3:(backTo pos (starEach es X.env)).any (·.1) = false:=by rfl) (h4:MethLook X o m apos pos (e :: es) pl:=by rfl) :
    PE X (.Call (.Attribute o m apos) (e :: es) [] pos) (tMethS C m sp dvs E ta t):=by
  refine ⟨fun pins s σ H Q I q=>PySem.W.methodCall_KW (pl:=pl) (thn (he.run pins s σ H _ I q) fun u z ⟨y,Z,J,ry,a,b,fs,ey,ea,l,w⟩=>?_) h4⟩
  subst ey
  obtain rfl:u = Value.ref a:=ry
  exact getmeth_ok J ea c hm l (PySem.W.callWith_K (first:=[.ref a]) (h₀:=X.base) I.ok.mod.kin hm.kp (thn (ha.run pos pins z σ Z _ J w) fun us z2 ⟨vs,Y,J2,r,w2⟩=>⟨J2.kIn,run_fnSD (us:=.ref a :: us) (vs:=.ref a :: vs) F hr hb hd (hx σ) J2 (.cons rfl r) w2⟩) h2 h3)
end
end Bk
namespace Bk
open PySem PySem.Spec PyProof.Rows L2
variable [Cls]
theorem nil_no {a:Addr} (h:a ∈ ([] : List Addr)) : False:=by cases h
def fldOf:List Str → List D → Str → Option D
  | n :: ns,d :: ds,f=>if (f == n) = true then some d else fldOf ns ds f
  | _,_,_=>none
theorem fld_rep {F:Hp} {f:Str} : ∀ {ns:List Str} {ds:List D} {vs:List V} {d:D},Reps F ds vs → fldOf ns ds f = some d → ∃ v,(ns.zip vs).lookup f = some v ∧ Rep F d v
  | [],_,_,_,_,h=>by cases h
  | _ :: _,[],_,_,_,h=>by cases h
  | n :: ns,d0 :: ds,_,d,.cons (v:=v) (vs:=vs) r t,h=>by
    have h:(if (f == n) = true then some d0 else fldOf ns ds f) = some d:=h
    show ∃ w,List.lookup f ((n,v) :: ns.zip vs) = some w ∧ Rep F d w
    rw [List.lookup_cons]
    cases q:f == n with
    | true=>
      rw [q,if_pos rfl] at h
      cases h
      exact ⟨v,rfl,r⟩
    | false=>
      rw [q,if_neg (by decide)] at h
      exact fld_rep t h
theorem fld_none {f:Str} : ∀ {ns:List Str} {vs:List V},f ∉ ns → (ns.zip vs).lookup f = none
  | [],_,_=>rfl
  | _ :: _,[],_=>rfl
  | n :: ns,v :: vs,h=>by
    show List.lookup f ((n,v) :: ns.zip vs) = none
    have q:(f == n) = false:=beq_false_of_ne fun z=>h (by rw [z]; exact List.mem_cons_self)
    rw [List.lookup_cons,q]
    exact fld_none fun z=>h (List.mem_cons_of_mem _ z)
/-- o.f,o a fixed thing of the class c -/
def mFld (c f:Str) (m:M) : M:=fun s=>(m s).bind fun d s1=>match d with
  | .obj c' ns ds=>if c' = c then R.opt (fldOf ns ds f) s1 else .stuck
  | _=>.stuck
section
variable {X:Cx} {n:Nat} {G:Gr n} {W:WX} {Γ : List Ty} {rt:Ty} {pos pos':Pos}
theorem me_fld {e:Expr} {c f:Str} {m:M} (hc:L2.Cls X.K (Cls.ga c)) (hn:NoAttr X.K (Cls.ga c) f) (he:ME X G W Γ e .fr m) (hb:attributeBase e f X.env (eval e X.env) = eval e X.env:=by rfl) : ME X G W Γ (.Attribute e f pos) .fr (mFld c f m):=
  peI (pe_fld he hb) fun σ H Q ⟨s,F,fp,R,q⟩=>⟨s,F,fp,R,pbind q fun d s1 v F1 fp1 H1 R1 st1 a1 q1=>by
    cases a1.rep with
    | @obj c' ns ds vs a dx ea l rs=>
      by_cases hcc:c' = c
      · subst hcc
        have q1:PostG X.K G W Γ σ F1 fp1 H1 (AE G .fr fp H) Q (if c' = c' then Bk.R.opt (fldOf ns ds f) s1 else .stuck):=q1
        rw [if_pos rfl] at q1
        obtain ⟨z,ez,q2⟩:=opt_post q1
        obtain ⟨w,hl,rw⟩:=fld_rep rs ez
        exact ⟨a,_,dx,_,w,rfl,R1.at ea rfl,hc,hn,hl,pok q2 R1 (AE.fr rw)⟩
      · have q1:PostG X.K G W Γ σ F1 fp1 H1 (AE G .fr fp H) Q (if c' = c then Bk.R.opt (fldOf ns ds f) s1 else .stuck):=q1
        rw [if_neg hcc] at q1
        exact q1.elim
    | emp _=>
      have q1:PostG X.K G W Γ σ F1 fp1 H1 (AE G .fr fp H) Q (if ("()" : Str) = c then Bk.R.opt (fldOf [] [.non] f) s1 else .stuck):=q1
      by_cases hcc:("()" : Str) = c
      · rw [if_pos hcc] at q1
        exact q1.elim
      · rw [if_neg hcc] at q1
        exact q1.elim
    | _=>exact q1.elim⟩
theorem atFs_fr {F H:Hp} {ns:List Str} {ds:List D} {vs:List V} {B:List Addr} (x:AtFs F H [] ns ds vs B) : Reps F ds vs ∧ B = [] ∧ ns.length = ds.length:=by
  induction x with
  | nil=>exact ⟨.nil,rfl,rfl⟩
  | cons a t n ih=>
    obtain ⟨r,eb⟩:=a
    subst eb
    obtain ⟨i1,i2,i3⟩:=ih
    exact ⟨.cons r i1,i2,congrArg Nat.succ i3⟩
theorem fr_atFs {F H:Hp} : ∀ {ns:List Str} {ds:List D} {vs:List V},Reps F ds vs → ns.length = ds.length → AtFs F H [] ns ds vs []
  | [],_,_,.nil,_=>.nil
  | _ :: _,_,_,.cons r t,h=>.cons (B:=[]) (Bs:=[]) ⟨r,rfl⟩ (fr_atFs t (Nat.succ.inj h)) fun _ z=>(nil_no z).elim
  | [],_,_,.cons _ _,h=>by cases h
  | _ :: _,_,_,.nil,h=>by cases h
/-- o.f = e,o an own thing without such a field so far -/
def sFldO (i:Nat) (f:Str) (m:M) : MS:=fun s=>(m s).so fun d s1=>match s1[i]? with
  | some (some (.obj c ns ds))=>if f ∉ ns ∧ ns.length < 900 then .nx (s1.set i (some (.obj c (ns ++ [f]) (ds ++ [d])))) else .stuck
  | _=>.stuck
theorem put_new {f:Str} {v:V} : ∀ {ns:List Str} {vs:List V},f ∉ ns → ns.length = vs.length → putF f v (ns.zip vs) = (ns ++ [f]).zip (vs ++ [v])
  | [],[],_,_=>rfl
  | n :: ns,w :: vs,h,l=>by
    show (if n = f then (n,v) :: ns.zip vs else (n,w) :: putF f v (ns.zip vs)) = (n,w) :: (ns ++ [f]).zip (vs ++ [v])
    rw [if_neg fun z=>h (by rw [z]; exact List.mem_cons_self),put_new (fun z=>h (List.mem_cons_of_mem _ z)) (Nat.succ.inj l)]
  | [],_ :: _,_,l=>by cases l
  | _ :: _,[],_,l=>by cases l
theorem ms_fldO {o e:Expr} {i:Nat} {c f:Str} {m:M} (hc:L2.Cls X.K (Cls.ga c)) (hn:NoAttr X.K (Cls.ga c) f) (ho:PE X o (tVar i)) (ht:Γ[i]? = some (.ob c [])) (he:ME X G W Γ e .fr m) (hs:swapsWith e (some (.Attribute o f pos')) pos.line X.env = pure false:=by rfl) : MSt X G W Γ rt (.Assign [.Attribute o f pos'] e pos) (sFldO i f m):=
  psI (ps_fld ho he hs) fun Dn σ H ⟨s,F,fp,R,q⟩=>⟨s,F,fp,R,sbind q fun d s1 y F1 fp1 H1 R1 x a q1=>by
    split at q1
    · rename_i c' ns ds e0
      obtain ⟨v,hv,p,dx,ns2,ds2,vs,Bs,e1,e2,e3,e4,l,xf,n1,n2,n3,e5⟩:=R1.slot i _ _ ht e0
      cases e1
      subst e2
      obtain ⟨rs,eb,ll⟩:=atFs_fr xf
      subst eb
      by_cases hh:f ∉ ns ∧ ns.length < 900
      · rw [if_pos hh] at q1
        have hz:(ns.zip vs).length < 1000:=by rw [List.length_zip]; omega
        have hpF:p ∈ fp1 i:=by rw [e5]; exact List.mem_cons_self
        have hat:At F1 (L2.upd H1 p (.ins (Cls.ga c) dx (putF f y (ns.zip vs)))) (.ob c []) (.obj c (ns ++ [f]) (ds ++ [d])) (.ref p) (fp1 i):=by
          refine ⟨p,dx,ns ++ [f],ds ++ [d],vs ++ [y],[],rfl,rfl,?_,?_,?_,fr_atFs (rs.app (.cons a.rep .nil)) ?_,n1,n2,n3,e5⟩
          · rw [upd_same,put_new hh.1 l]
          · rw [upd_ne (Ne.symm n3)]; exact e4
          · rw [List.length_append,List.length_append,l]; rfl
          · rw [List.length_append,List.length_append,ll]; rfl
        obtain ⟨R2,x2⟩:=R1.own ht hpF _ hv hat
        exact ⟨_,hv,p,_,dx,_,rfl,e3,hc,hn,hz,q1 _ _ _ _ R2 x2⟩
      · rw [if_neg hh] at q1
        exact q1.elim
    · exact q1.elim⟩
end
theorem call_fr {K:PySem.W.Frag} {n:Nat} {G:Gr n} {W:WX} {Γ : List Ty} {s:Env} {σ:Sl} {F H:Hp} {fp:Fp} {Q:VK} {f:List D → R D} {t:Ty} {ds:List D} {vs:List V} {np:Nat} (R:Rel G Γ s σ F fp H) (rs:Reps F ds vs) (hl:ds.length = np)
    (q:PostG K G W Γ σ F fp H (AE G t fp H) Q (match f ds with
      | .ok r _=>.ok r s
      | .err er _=>.err er s
      | .stuck=>.stuck)) : spM K (List.replicate np .fr) t f vs H Q (WE W σ):=by
  have seen:∀ {e':Env} {F' H':Hp} {fp':Fp},Pst G.L (List.replicate np .fr) vs e' F (fun _=>[]) H F' fp' H' → Rel G Γ s σ F' fp H' ∧ Stp L0 F fp H F' fp H':=fun {e' F' H' fp'} p=>by
    have x:Stp L0 F fp H F' fp H':=⟨p.stp.f,fun a o e hz _=>p.stp.keep a o e hz fun _ z=>nil_no z,fun i a h=>.inl ⟨i,h⟩,fun a h e _=>p.stp.nof a h e fun _ z=>nil_no z,p.stp.there,p.stp.nt,p.stp.tab⟩
    refine ⟨R.step x (fun i a h o e=>p.stp.keep a o e ((R.oh i a h).ntab R.tb) fun _ z=>nil_no z) (fun i a h=>(R.nF i a h).imp_left fun w=>p.stp.nof a (R.oh i a h) w fun _ z=>nil_no z) (fun a o e1 e2=>R.newX (p.nmk rfl) (p.ext a o e2) e1 e2),x⟩
  refine ⟨ds,F,fun _=>[],G.L,⟨by rw [hl,List.length_replicate],by rw [←rs.len,hl,List.length_replicate],fun i t d v ht hd hv=>?_,fun _ _ _ z=>(nil_no z).elim,fun _ _ z=>(nil_no z).elim,fun _ _ z=>(nil_no z).elim,R.ext,R.lkd,R.tb,rfl⟩,?_⟩
  · rw [List.getElem?_replicate] at ht
    split at ht
    · cases ht
      obtain ⟨v',h1,h2⟩:=rs.get hd
      rw [hv] at h1
      cases h1
      exact ⟨h2,rfl⟩
    · cases ht
  · cases ef:f ds with
    | ok r e'=>
      rw [ef] at q
      intro v F' fp' H' B p aB tq
      obtain ⟨R2,x2⟩:=seen p
      exact q v F' fp H' R2 x2 ⟨B,aB,fun b hb=>⟨(tq b hb).1,fun i hi=>(R.oh i b hi).ne (tq b hb).2.2,R.newG (tq b hb).2.2,.inr (tq b hb).2.2⟩⟩
    | err er e'=>
      rw [ef] at q
      intro cls od F' fp' H' p z
      obtain ⟨R2,x2⟩:=seen p
      exact q cls od F' fp H' R2 x2 z
    | stuck=>rw [ef] at q; exact q.elim
/-- the method m of the class c -/
structure CalM (P:Program) (w:World) (K:PySem.W.Frag) (mg:Str → Option Value) (base:Heap) (k:Nat) (c m:Str) (np:Nat) (t:Ty) (f:List D → R D) (dvs:List V) : Prop where
  ex:∃ (a:Addr) (fd:FuncData) (ps:List Str) (ds:List Value),FnOk P w K mg base (L2.CX P w) k a fd ps (spM K (List.replicate (np + 1) .fr) t f) ∧ L2.Cls K (Cls.ga c) ∧ Meth K (Cls.ga c) m a ∧ Binds K fd ps ds ∧ Vals dvs ds
def mMeth (c m:Str) (f:List D → R D) (dflt:List D) (mo:M) (ms:MA) : M:=fun s=>(mo s).bind fun d s1=>match d with
  | .obj c' ns fs=>if (c' = c ∧ m ∉ ns) ∧ c' ≠ "()" then (ms s1).bind fun ds s2=>match f (.obj c' ns fs :: (ds ++ dflt)) with
      | .ok r _=>.ok r s2
      | .err er _=>.err er s2
      | .stuck=>.stuck
    else .stuck
  | _=>.stuck
section
variable {X:Cx} {n:Nat} {G:Gr n} {W:WX} {Γ : List Ty} {rt:Ty} {pos apos:Pos}
theorem meth_go {K:PySem.W.Frag} {σ:L2.St} {H:Hp} {Q:VK} {c m:Str} {f:List D → R D} {dflt:List D} {dvs:List V} {mo:M} {ms:MA} {t:Ty} {np j:Nat} (hl:LenOk ms j) (hj:j + dflt.length = np) (hd:∀ F,Reps F dflt dvs) (h:tM K G W Γ t (mMeth c m f dflt mo ms) σ H Q) :
    tMethS (Cls.ga c) m (spM K (List.replicate (np + 1) .fr) t f) dvs (WE W) (tM K G W Γ .fr mo) (tMA K G W Γ ms) σ H Q:=by
  obtain ⟨s,F,fp,R,q⟩:=h
  refine ⟨s,F,fp,R,pbind q fun d s1 v F1 fp1 H1 R1 st1 a1 q1=>?_⟩
  have ar:=a1.rep
  cases ar with
  | @obj c' ns fs vs a dx ea l rs=>
    by_cases hc:(c' = c ∧ m ∉ ns) ∧ c' ≠ "()"
    · have q2:PostG K G W Γ σ F1 fp1 H1 (AE G t fp H) Q (if (c' = c ∧ m ∉ ns) ∧ c' ≠ "()" then (ms s1).bind fun ds s2=>match f (.obj c' ns fs :: (ds ++ dflt)) with
          | .ok r _=>.ok r s2
          | .err er _=>.err er s2
          | .stuck=>.stuck
        else .stuck):=q1
      rw [if_pos hc] at q2
      obtain ⟨⟨rfl,hm⟩,_⟩:=hc
      refine ⟨a,dx,_,rfl,R1.at ea rfl,fld_none hm,s1,F1,fp1,R1,pmapL hl R1 q2 fun ds s2 us F2 fp2 H2 el R2 st2 r2 q3=>?_⟩
      refine call_fr R2 (ds:=.obj c' ns fs :: (ds ++ dflt)) (.cons (a1.rep.mono st2.f) (r2.app (hd F2))) (by rw [List.length_cons,List.length_append,el,hj]) ?_
      exact q3.imp fun r v F' fp' H' z=>z.back (st1.trans st2)
    · have q2:PostG K G W Γ σ F1 fp1 H1 (AE G t fp H) Q (if (c' = c ∧ m ∉ ns) ∧ c' ≠ "()" then (ms s1).bind fun ds s2=>match f (.obj c' ns fs :: (ds ++ dflt)) with
          | .ok r _=>.ok r s2
          | .err er _=>.err er s2
          | .stuck=>.stuck
        else .stuck):=q1
      rw [if_neg hc] at q2
      exact q2.elim
  | @emp _ dd _=>
    have q2:PostG K G W Γ σ F1 fp1 H1 (AE G t fp H) Q (if (("()" : Str) = c ∧ m ∉ ([] : List Str)) ∧ ("()" : Str) ≠ "()" then (ms s1).bind fun ds s2=>match f (.obj "()" [] [dd] :: (ds ++ dflt)) with
          | .ok r _=>.ok r s2
          | .err er _=>.err er s2
          | .stuck=>.stuck
        else .stuck):=q1
    rw [if_neg fun z=>z.2 rfl] at q2
    exact q2.elim
  | _=>exact q1.elim
theorem me_meth {k np j:Nat} {c m:Str} {o e:Expr} {es:List Expr} {f:List D → R D} {dflt:List D} {dvs:List V} {mo:M} {ms:MA} {t:Ty} {pl:Sem Bool} (C:CalM X.prog X.w X.K X.mg X.base k c m np t f dvs) (hr:Room k X.A) (tk:Takes X W) (ho:ME X G W Γ o .fr mo) (ha:MAs X G W Γ (e :: es) ms) (hl:LenOk ms j)
    (hj:j + dflt.length = np:=by rfl) (hd:∀ F,Reps F dflt dvs:=by intro F; exact .nil) (h2:starEach (e :: es) X.env = (false,eval e X.env) :: starEach es X.env:=by rfl) (h3:(backTo pos (starEach es X.env)).any (·.1) = false:=by rfl) (h4:MethLook X o m apos pos (e :: es) pl:=by rfl) :
    ME X G W Γ (.Call (.Attribute o m apos) (e :: es) [] pos) t (mMeth c m f dflt mo ms):=by
  obtain ⟨a,fd,ps,ds,F,hc,hm,hb,hv⟩:=C.ex
  exact peI (pe_methS ho hc hm F hr hb hv (fun σ=>passAt tk σ) ha h2 h3 h4) fun σ H Q h=>meth_go hl hj hd h
end
structure CalI (P:Program) (w:World) (K:PySem.W.Frag) (mg:Str → Option Value) (base:Heap) (k:Nat) (c:Str) (np:Nat) (f:List D → R D) (dvs:List V) : Prop where
  ex:∃ (a:Addr) (fd:FuncData) (ps:List Str) (ds:List Value),FnOk P w K mg base (L2.CX P w) k a fd ps (spM K (.ob c [] :: List.replicate np .fr) .fr f) ∧ mg c = some (.ref (Cls.ga c)) ∧ Mk K (Cls.ga c) a ∧ Binds K fd ps ds ∧ Vals dvs ds
def mMake (c:Str) (f:List D → R D) (dflt:List D) (ms:MA) : M:=fun s=>(ms s).bind fun ds s1=>match f (.obj c [] [] :: (ds ++ dflt)) with
  | .ok .non (some (.obj c' ns fs) :: _)=>.ok (.obj c' ns fs) s1
  | .ok _ _=>.stuck
  | .err er _=>.err er s1
  | .stuck=>.stuck
def fpN (a b:Addr) : Fp:=fun i=>if i = 0 then [a,b] else []
theorem fpN_mem {a b x:Addr} {i:Nat} (h:x ∈ fpN a b i) : i = 0 ∧ (x = a ∨ x = b):=by
  unfold fpN at h
  by_cases z:i = 0
  · rw [if_pos z] at h
    refine ⟨z,?_⟩
    rcases List.mem_cons.mp h with q | q
    · exact .inl q
    · exact .inr (List.mem_singleton.mp q)
  · rw [if_neg z] at h; cases h
theorem make_go {K:PySem.W.Frag} {n:Nat} {G:Gr n} {W:WX} {Γ : List Ty} {s:Env} {σ:Sl} {F H:Hp} {fp:Fp} {Q:VK} {f:List D → R D} {c:Str} {ds:List D} {vs:List V} {np:Nat} (R:Rel G Γ s σ F fp H) (rs:Reps F ds vs) (hl:ds.length = np) {a b:Addr} (ha:H a = none) (hb:H b = none) (hne:b ≠ a)
    (q:PostG K G W Γ σ F fp H (AE G .fr fp H) Q (match f (.obj c [] [] :: ds) with
      | .ok .non (some (.obj c' ns fs) :: _)=>.ok (.obj c' ns fs) s
      | .ok _ _=>.stuck
      | .err er _=>.err er s
      | .stuck=>.stuck)) : spM K (.ob c [] :: List.replicate np .fr) .fr f (.ref a :: vs) (L2.upd (L2.upd H b (.own a)) a (.ins (Cls.ga c) b [])) (fun u Y=>u = .non ∧ Q (.ref a) Y) (WE W σ):=by
  have h2a:L2.upd H b (.own a) a = none:=by rw [upd_ne (Ne.symm hne)]; exact ha
  have up:∀ {x:Addr} {o:HO},H x = some o → L2.upd (L2.upd H b (.own a)) a (.ins (Cls.ga c) b []) x = some o:=fun {x o} e=>by
    rw [upd_ne (ne_of_none e ha),upd_ne (ne_of_none e hb)]
    exact e
  have atb:L2.upd (L2.upd H b (.own a)) a (.ins (Cls.ga c) b []) b = some (.own a):=by rw [upd_ne hne]; exact upd_same
  have np':∀ {x:Addr},H x ≠ none → ∀ i,x ∉ fpN a b i:=fun {x} h i hi=>by
    rcases (fpN_mem hi).2 with rfl | rfl
    · exact h ha
    · exact h hb
  have ntu:∀ {x:Addr},Nt H x → Nt (L2.upd (L2.upd H b (.own a)) a (.ins (Cls.ga c) b [])) x:=fun h=>(h.upd hb).upd h2a
  have seen:∀ {e':Env} {F' H':Hp} {fp':Fp},Pst G.L (.ob c [] :: List.replicate np .fr) (.ref a :: vs) e' F (fpN a b) (L2.upd (L2.upd H b (.own a)) a (.ins (Cls.ga c) b [])) F' fp' H' → Rel G Γ s σ F' fp H' ∧ Stp L0 F fp H F' fp H':=fun {e' F' H' fp'} p=>by
    have x:Stp L0 F fp H F' fp H':=⟨p.stp.f,fun x o e hz _=>p.stp.keep x o (up e) hz (np' (by rw [e]; exact Option.some_ne_none _)),fun i x h=>.inl ⟨i,h⟩,fun x h e _=>p.stp.nof x (ntu h) e (np' h.ne),fun x h=>p.stp.there x (by
      obtain ⟨o,eo⟩:=Option.ne_none_iff_exists'.mp h
      rw [up eo]
      exact Option.some_ne_none _),fun x h=>p.stp.nt x (ntu h),fun t=>p.stp.tab ((t.lay hb).lay h2a)⟩
    refine ⟨R.step x (fun i x h o e=>p.stp.keep x o (up e) ((R.oh i x h).ntab R.tb) (np' (R.oh i x h).ne)) (fun i x h=>(R.nF i x h).imp_left fun w=>p.stp.nof x (ntu (R.oh i x h)) w (np' (R.oh i x h).ne)) (fun x o e1 e2=>R.newX (p.nmk rfl) (p.ext x o e2) e1 e2),x⟩
  refine ⟨.obj c [] [] :: ds,F,fpN a b,G.L,⟨by rw [List.length_cons,List.length_cons,hl,List.length_replicate],by rw [List.length_cons,List.length_cons,←rs.len,hl,List.length_replicate],fun i t d v ht hd hv=>?_,fun i j x hi hj=>(fpN_mem hi).1.trans (fpN_mem hj).1.symm,fun i x h=>?_,fun i x h=>?_,fun x o e=>⟨fun m=>up ((R.ext x o e).1 m),fun m=>ntu ((R.ext x o e).2.1 m),fun u eu=>up ((R.ext x o e).2.2 u eu)⟩,R.lkd,(R.tb.lay hb).lay h2a,if_neg (by rw [List.length_cons]; exact Nat.succ_ne_zero _)⟩,?_⟩
  · cases i with
    | zero=>
      cases ht
      cases hd
      cases hv
      exact ⟨a,b,[],[],[],[],rfl,rfl,upd_same,atb,rfl,.nil,fun z=>nil_no z,fun z=>nil_no z,Ne.symm hne,rfl⟩
    | succ i=>
      have ht:(List.replicate np Ty.fr)[i]? = some t:=by simpa using ht
      have hd:ds[i]? = some d:=by simpa using hd
      have hv:vs[i]? = some v:=by simpa using hv
      rw [List.getElem?_replicate] at ht
      split at ht
      · cases ht
        obtain ⟨v',h1,h2⟩:=rs.get hd
        rw [hv] at h1
        cases h1
        exact ⟨h2,if_neg (Nat.succ_ne_zero i)⟩
      · cases ht
  · rcases (fpN_mem h).2 with rfl | rfl
    · exact .inl (R.nowF ha)
    · exact .inl (R.nowF hb)
  · rcases (fpN_mem h).2 with rfl | rfl
    · exact ⟨_,upd_same,rfl⟩
    · exact ⟨_,atb,rfl⟩
  · cases ef:f (.obj c [] [] :: ds) with
    | ok r e'=>
      rw [ef] at q
      split at q
      · rename_i heq
        cases heq
        rename_i c' ns fs rest
        intro v F' fp' H' B p aB tq
        obtain ⟨R2,x2⟩:=seen p
        have hv:v = .non:=by
          obtain ⟨rv,_⟩:=aB
          cases rv
          rfl
        obtain ⟨p0,dx0,ns0,ds0,vs0,Bs,e1,e2,e3,e4,l,xf,n1,n2,n3,e5⟩:=p.slot 0 (.ob c []) (.obj c' ns fs) (.ref a) rfl rfl rfl
        cases e1
        cases e2
        obtain ⟨rs0,_,_⟩:=atFs_fr xf
        have hF:F' a = none:=p.nF0 (i:=0) (by rw [e5]; exact List.mem_cons_self)
        have R3:=R2.free hF (R.newFp ha) (R.newG ha) e3
        have x3:=x2.free (o:=.ins (Cls.ga c) dx0 (ns.zip vs0)) hF (.inr ha) (R2.tb.no e3)
        exact ⟨hv,q _ _ _ _ R3 x3 (AE.fr (.obj upd_same l (rs0.mono fun x u e=>by rw [upd_ne (ne_of_none e hF)]; exact e)))⟩
      · exact q.elim
      · rename_i heq
        cases heq
      · rename_i heq
        cases heq
    | err er e'=>
      rw [ef] at q
      intro cls od F' fp' H' p z
      obtain ⟨R2,x2⟩:=seen p
      exact q cls od F' fp H' R2 x2 z
    | stuck=>rw [ef] at q; exact q.elim
section
variable {X:Cx} {n:Nat} {G:Gr n} {W:WX} {Γ : List Ty} {rt:Ty} {pos p:Pos}
theorem mk_go {K:PySem.W.Frag} {σ:L2.St} {H:Hp} {Q:VK} {c:Str} {f:List D → R D} {dflt:List D} {dvs:List V} {ms:MA} {np j:Nat} (hl:LenOk ms j) (hj:j + dflt.length = np) (hd:∀ F,Reps F dflt dvs) (h:tM K G W Γ .fr (mMake c f dflt ms) σ H Q) :
    tMakeS (Cls.ga c) (spM K (.ob c [] :: List.replicate np .fr) .fr f) dvs (WE W) (tMA K G W Γ ms) σ H Q:=by
  obtain ⟨s,F,fp,R,q⟩:=h
  exact ⟨s,F,fp,R,pmapL hl R q fun ds s1 us F1 fp1 H1 el R1 st1 r1 q1 a b ha hb hne=>make_go R1 (r1.app (hd F1)) (by rw [List.length_append,el,hj]) ha hb hne (q1.imp fun r v F' fp' H' z=>z.back st1)⟩
theorem me_make {k np j:Nat} {c:Str} {e:Expr} {es:List Expr} {f:List D → R D} {dflt:List D} {dvs:List V} {ms:MA} (C:CalI X.prog X.w X.K X.mg X.base k c np f dvs) (hr:Room (k + 1) X.A) (tk:Takes X W) (hg:Gl X c) (ha:MAs X G W Γ (e :: es) ms) (hl:LenOk ms j)
    (hj:j + dflt.length = np:=by rfl) (hd:∀ F,Reps F dflt dvs:=by intro F; exact .nil) (h1:(c == ("__debug__" : Str)) = false:=by decide) (h2:starEach (e :: es) X.env = (false,eval e X.env) :: starEach es X.env:=by rfl) (h3:(backTo pos (starEach es X.env)).any (·.1) = false:=by rfl) :
    ME X G W Γ (.Call (.Name c p) (e :: es) [] pos) .fr (mMake c f dflt ms):=by
  obtain ⟨a,fd,ps,ds,F,hm,hk,hb,hv⟩:=C.ex
  exact peI (pe_mkS hk F hr hg hm hb hv (fun σ=>passAt tk σ) ha h1 h2 h3) fun σ H Q h=>mk_go hl hj hd h
end
def dInDN:D → D → Option Bool
  | .non,.dct _ _=>some false
  | d,e=>dInD d e
def mInDN (ma mb:M) : M:=fun s=>(ma s).bind fun d s1=>(mb s1).bind fun e s2=>R.opt ((dInDN d e).map D.bl) s2
structure ObjC (K:PySem.W.Frag) (mg:Str → Option Value) (c:Str) (fs ms:List Str) : Prop where
  cls:L2.Cls K (Cls.ga c)
  no:∀ f ∈ fs,NoAttr K (Cls.ga c) f
  me:∀ m ∈ ms,Meth K (Cls.ga c) m (He.fAd K (c,some m))
  mk_:Mk K (Cls.ga c) (He.fAd K (c,some "__init__"))
  mg_:mg c = some (.ref (Cls.ga c))
theorem objC_of {K:PySem.W.Frag} {mg:Str → Option Value} {c:Str} {fs ms:List Str} (hA:Cls.ga = He.ga K) (h:objB c fs ms K = true) (hm:mg c = some (.ref (He.ga K c))) : ObjC K mg c fs ms:=by
  unfold objB at h
  obtain ⟨h1,h⟩:=Bool.and_eq_true_iff.mp h
  obtain ⟨h2,h⟩:=Bool.and_eq_true_iff.mp h
  obtain ⟨h3,h4⟩:=Bool.and_eq_true_iff.mp h
  refine ⟨?_,fun f hf=>?_,fun m hm=>?_,?_,?_⟩
  · rw [hA]; exact He.cls_ok h1
  · rw [hA]; exact He.noat_ok (List.all_eq_true.mp h2 f hf)
  · rw [hA]; exact He.meth_ok (List.all_eq_true.mp h3 m hm)
  · rw [hA]; exact He.mkr_ok h4
  · rw [hA]; exact hm
theorem emp_ok {K:PySem.W.Frag} {p:PySem.W.Frag → Addr} (h:empB p K = true) (H:Hp) : SqT K H (p K) []:=by
  unfold empB at h
  split at h
  · rename_i o e
    rw [Bool.and_eq_true,decide_eq_true_iff] at h
    obtain ⟨h1,h2⟩:=h
    split at h2
    · rename_i its m e2
      have h3:its.size = 0:=of_decide_eq_true h2
      have h4:its.toList = []:=List.length_eq_zero_iff.mp (by rw [Array.length_toList]; exact h3)
      exact .inr ⟨o,its,m,e,h1,e2,by rw [h3]; exact Nat.zero_le _,by rw [h4]; exact .nil⟩
    · cases h2
  · cases h
/-- a walk over a list,a tuple or the empty tuple of the module -/
def mSeqE (m:M) : MA:=fun s=>(m s).bind fun d s1=>match d with
  | .tup ds=>.ok ds s1
  | .lst ds=>.ok ds s1
  | .obj _ [] [.non]=>.ok [] s1
  | _=>.stuck
section
variable {X:Cx} {n:Nat} {G:Gr n} {W:WX} {Γ : List Ty}
theorem wk_emp {K:PySem.W.Frag} {F:Hp} {a:Addr} (hq:∀ H,SqT K H a []) : Wk G Γ (Itt K a) F []:=fun i s σ F' fp' H' R x=>⟨fun d hd=>by simp at hd,fun _=>⟨[],hq H',Nat.zero_le _⟩⟩
theorem mi_seqE {tg e:Expr} {m:M} (hE:∀ a,(a,D.non) ∈ Cls.emps → ∀ H,SqT X.K H a []) (h:ME X G W Γ e .fr m) : MI X G W Γ tg e (mSeqE m):=
  piI (pi_or (mi_seq h) (pi_tup h)) fun σ H Q ⟨s,F,fp,R,q⟩=>by
    unfold mSeqE at q
    cases em:m s with
    | err er s1=>rw [em] at q; exact .inr ⟨s,F,fp,R,by rw [em]; exact q⟩
    | stuck=>rw [em] at q; exact q.elim
    | ok d s1=>
      rw [em,Bk.R.bind_ok] at q
      split at q
      · exact .inl ⟨s,F,fp,R,by unfold mSeqI; rw [em,Bk.R.bind_ok]; exact q⟩
      · exact .inl ⟨s,F,fp,R,by unfold mSeqI; rw [em,Bk.R.bind_ok]; exact q⟩
      · refine .inr ⟨s,F,fp,R,?_⟩
        rw [em]
        intro v F1 fp1 H1 R1 x a
        cases a.rep with
        | obj _ l rs=>
          have:=rs.len
          simp only [List.length_cons,List.length_nil] at l this
          omega
        | @emp p _ ea=>exact ⟨_,rfl,⟨_,hE p ea H1⟩,q _ F1 fp1 H1 R1 x (wk_emp (hE p ea))⟩
      · exact q.elim
end
def mLenM (c:Str) (f:List D → R D) (m:M) : M:=fun s=>(m s).bind fun d s1=>match d with
  | .obj c' ns ds=>if c' = c ∧ c' ≠ "()" then match f [.obj c' ns ds] with
      | .ok (.int i) _=>if 0 ≤ i ∧ i < 2 ^ 63 then .ok (.int i) s1 else .stuck
      | _=>.stuck
    else .stuck
  | _=>.stuck
def bPick2 (f:Int → Int → Int) : List D → Option D
  | [.int i,.int j]=>some (.int (f i j))
  | _=>none
def mn2 (i j:Int) : Int:=if j < i then j else i
def mx2 (i j:Int) : Int:=if j > i then j else i
def bPick3 (f:V → V → V → Option V) : List D → Option D
  | [.int i,.int j,.int k]=>match f (.int i) (.int j) (.int k) with
    | some (.int m)=>some (.int m)
    | _=>none
  | _=>none
section
variable {X:Cx} {n:Nat} {G:Gr n} {W:WX} {Γ : List Ty} {e:Expr} {ms:MA}
theorem me_min2 (h:PE X e (tCB (fun xs H Q=>∃ i j,xs = [.int i,.int j] ∧ Q (.int (if j < i then j else i)) H) (tMA X.K G W Γ ms))) : ME X G W Γ e .fr (mCall (bPick2 mn2) ms):=peI h fun _ _ _ q=>cb (fun ds z vs s F fp H Q R hz rs k=>by
  match ds,hz with
  | [.int i,.int j],hz=>
    cases hz
    cases rs with
    | cons r1 t=>cases t with
      | cons r2 t=>cases t; cases r1; cases r2; exact ⟨i,j,rfl,k _ (.int _)⟩) q
theorem me_max2 (h:PE X e (tCB (fun xs H Q=>∃ i j,xs = [.int i,.int j] ∧ Q (.int (if j > i then j else i)) H) (tMA X.K G W Γ ms))) : ME X G W Γ e .fr (mCall (bPick2 mx2) ms):=peI h fun _ _ _ q=>cb (fun ds z vs s F fp H Q R hz rs k=>by
  match ds,hz with
  | [.int i,.int j],hz=>
    cases hz
    cases rs with
    | cons r1 t=>cases t with
      | cons r2 t=>cases t; cases r1; cases r2; exact ⟨i,j,rfl,k _ (.int _)⟩) q
theorem me_pick3 {f:V → V → V → Option V} (h:PE X e (tCB (rNuC3 f) (tMA X.K G W Γ ms))) : ME X G W Γ e .fr (mCall (bPick3 f) ms):=peI h fun _ _ _ q=>cb (fun ds z vs s F fp H Q R hz rs k=>by
  match ds,hz with
  | [.int i,.int j,.int l],hz=>
    cases rs with
    | cons r1 t=>cases t with
      | cons r2 t=>cases t with
        | cons r3 t=>
          cases t; cases r1; cases r2; cases r3
          have hz:(match f (.int i) (.int j) (.int l) with
            | some (.int m)=>some (D.int m)
            | _=>none) = some z:=hz
          cases ef:f (.int i) (.int j) (.int l) with
          | none=>rw [ef] at hz; cases hz
          | some v=>cases v with
            | int m=>
              rw [ef] at hz
              cases hz
              exact ⟨_,_,_,_,rfl,ef,k _ (.int _)⟩
            | _=>rw [ef] at hz; cases hz) q
end
def mIsiC (c:Str) (m:M) : M:=fun s=>(m s).bind fun d s1=>match d with
  | .obj c' _ _=>if c' = c ∧ c' ≠ "()" then .ok (.bl true) s1 else .stuck
  | .dct _ _=>.stuck
  | .rcd _ _=>.stuck
  | .ptr _=>.stuck
  | _=>.ok (.bl false) s1
structure Hd where
  cl:Value
  ix:Nat
  ts:Addr → Value → Option Addr → TS
inductive RowOk (X:Cx) : List ExceptHandler → List Hd → Prop
  | nil:RowOk X [] []
  | cons {x y:Str} {p:Hd} {t:Stmt} {ts:List Stmt} {q q':Pos} {es:List ExceptHandler} {ps:List Hd} (iy:X.N[p.ix]? = some y) (ly:X.env.kindOf y = some .local) (nx:Names X x p.cl)
      (su:∀ (a:Addr) (ob:Obj) (k:Value) (od:Option Addr) (pn:List (Addr × Obj)),Zc k od ob → (∃ vs,ob.data = .fields vs) → PSs (X.suite a ((a,ob) :: pn)) (t :: ts) (p.ts a k od))
      (more:RowOk X es ps) : RowOk X (.ExceptHandler (some (.Name x q)) (some y) (t :: ts) q' :: es) (p :: ps)
structure HdM where
  isa:Str → Option Bool
  i:Nat
  j:Nat
  vals:Err → Option (List D)
def rowM:List HdM → Err → Env → SO
  | [],er,s=>.err er s
  | p :: ps,er,s=>match p.isa er.c with
    | some true=>match p.vals er with
      | some ds=>if ds.length ≤ 1000 then .nx (((s.set p.i none).set p.j (some (.tup ds))).set p.i none) else .stuck
      | none=>.stuck
    | some false=>rowM ps er s
    | none=>.stuck
def sTryRow (mb:MS) (ps:List HdM) : MS:=fun s=>match mb s with
  | .err er s1=>rowM ps er s1
  | o=>o
section
variable {X:Cx} {n:Nat} {G:Gr n} {Γ : List Ty}
/-- clauses,their wishes and their mirrors -/
inductive RowD (X:Cx) {n:Nat} (G:Gr n) (Γ : List Ty) : List ExceptHandler → List Hd → List HdM → Prop
  | nil:RowD X G Γ [] [] []
  | cons {x y:Str} {c:Value} {p:HdM} {t:Stmt} {ts:List Stmt} {q q':Pos} {es:List ExceptHandler} {hs:List Hd} {ps:List HdM} (iy:X.N[p.i]? = some y) (ly:X.env.kindOf y = some .local) (nx:Names X x c)
      (su:∀ (a:Addr) (ob:Obj) (k:Value) (od:Option Addr) (pn:List (Addr × Obj)),Zc k od ob → (∃ vs,ob.data = .fields vs) → PSs (X.suite a ((a,ob) :: pn)) (t :: ts) (tES X.K G Γ p.i p.j p.vals a k od))
      (ti:Γ[p.i]? = some .fr) (ni:n ≤ p.i) (T:∀ k b,p.isa k = some b → PySem.W.exmOne X.K (.ref (He.ga X.K k)) c = some b)
      (more:RowD X G Γ es hs ps) : RowD X G Γ (.ExceptHandler (some (.Name x q)) (some y) (t :: ts) q' :: es) (⟨c,p.i,tES X.K G Γ p.i p.j p.vals⟩ :: hs) (p :: ps)
theorem RowD.ok {es:List ExceptHandler} {hs:List Hd} {ps:List HdM} (r:RowD X G Γ es hs ps) : RowOk X es hs:=by
  induction r with
  | nil=>exact .nil
  | cons iy ly nx su ti ni T more ih=>exact .cons iy ly nx su ih
end
def seqI:D → Option (List D)
  | .tup ds=>some ds
  | .lst ds=>some ds
  | _=>none
theorem mSeqI_q (m:M) (s:Env) : mSeqI m s = (m s).bind fun d s1=>R.opt (seqI d) s1:=by
  unfold mSeqI
  congr 1
  funext d s1
  cases d <;> rfl
def keysI:D → Option (List D)
  | .dct ks _=>some (ks.map kDs)
  | _=>none
theorem mKeysI_q (m:M) (s:Env) : mKeysI m s = (m s).bind fun d s1=>R.opt (keysI d) s1:=by
  unfold mKeysI
  congr 1
  funext d s1
  cases d <;> rfl
def fldC (c f:Str) : D → Option D
  | .obj c' ns ds=>if c' = c then fldOf ns ds f else none
  | _=>none
theorem mFld_q (c f:Str) (m:M) (s:Env) : mFld c f m s = (m s).bind fun d s1=>R.opt (fldC c f d) s1:=by
  unfold mFld
  congr 1
  funext d s1
  cases d with
  | obj c' ns ds=>
    show (if c' = c then _ else _) = R.opt (if c' = c then _ else _) s1
    by_cases h:c' = c
    · rw [if_pos h,if_pos h]
    · rw [if_neg h,if_neg h]
      rfl
  | _=>rfl
def isO (c:Str) : D → Bool
  | .obj c' _ _=>decide (c' = c ∧ c' ≠ "()")
  | _=>false
def isM (c m:Str) : D → Bool
  | .obj c' ns _=>decide ((c' = c ∧ m ∉ ns) ∧ c' ≠ "()")
  | _=>false
def clr (s:Env) : R D → R D
  | .ok r _=>.ok r s
  | .err e _=>.err e s
  | .stuck=>.stuck
theorem clr_ok (s e:Env) (r:D) : clr s (.ok r e) = .ok r s:=rfl
theorem clr_err (s e:Env) (r:Err) : clr s (.err r e) = .err r s:=rfl
theorem mMeth_q (c m:Str) (f:List D → R D) (dflt:List D) (mo:M) (ms:MA) (s:Env) : mMeth c m f dflt mo ms s = (mo s).bind fun d s1=>if isM c m d = true then (ms s1).bind fun ds s2=>clr s2 (f (d :: (ds ++ dflt))) else .stuck:=by
  unfold mMeth
  congr 1
  funext d s1
  cases d with
  | obj c' ns ds=>
    show (if (c' = c ∧ m ∉ ns) ∧ c' ≠ "()" then _ else _) = (if decide ((c' = c ∧ m ∉ ns) ∧ c' ≠ "()") = true then _ else _)
    by_cases h:(c' = c ∧ m ∉ ns) ∧ c' ≠ "()"
    · rw [if_pos h,if_pos (decide_eq_true h)]
      congr 1
    · rw [if_neg h,if_neg (by rw [decide_eq_false h]; decide)]
  | _=>rfl
def D.isObj:D → Bool
  | .obj _ _ _=>true
  | _=>false
def mkR (s:Env) : R D → R D
  | .ok .non (some d :: _)=>if d.isObj = true then .ok d s else .stuck
  | .ok _ _=>.stuck
  | .err er _=>.err er s
  | .stuck=>.stuck
theorem mkR_err (s e:Env) (r:Err) : mkR s (.err r e) = .err r s:=rfl
theorem mMake_q (c:Str) (f:List D → R D) (dflt:List D) (ms:MA) (s:Env) : mMake c f dflt ms s = (ms s).bind fun ds s1=>mkR s1 (f (.obj c [] [] :: (ds ++ dflt))):=by
  unfold mMake
  congr 1
  funext ds s1
  cases f (.obj c [] [] :: (ds ++ dflt)) with
  | ok r e=>
    cases r with
    | non=>
      cases e with
      | nil=>rfl
      | cons o t=>
        cases o with
        | none=>rfl
        | some d=>cases d <;> rfl
    | _=>rfl
  | _=>rfl
def isiD (c:Str) : D → Option D
  | .obj c' _ _=>if c' = c ∧ c' ≠ "()" then some (.bl true) else none
  | .dct _ _=>none
  | .rcd _ _=>none
  | .ptr _=>none
  | _=>some (.bl false)
theorem mIsiC_q (c:Str) (m:M) (s:Env) : mIsiC c m s = (m s).bind fun d s1=>R.opt (isiD c d) s1:=by
  unfold mIsiC
  congr 1
  funext d s1
  cases d with
  | obj c' ns ds=>
    show (if c' = c ∧ c' ≠ "()" then _ else _) = R.opt (if c' = c ∧ c' ≠ "()" then _ else _) s1
    by_cases h:c' = c ∧ c' ≠ "()"
    · rw [if_pos h,if_pos h]; rfl
    · rw [if_neg h,if_neg h]; rfl
  | _=>rfl
def lenR (s:Env) : R D → R D
  | .ok (.int i) _=>if 0 ≤ i ∧ i < 2 ^ 63 then .ok (.int i) s else .stuck
  | _=>.stuck
theorem mLenM_q (c:Str) (f:List D → R D) (m:M) (s:Env) : mLenM c f m s = (m s).bind fun d s1=>if isO c d = true then lenR s1 (f [d]) else .stuck:=by
  unfold mLenM
  congr 1
  funext d s1
  cases d with
  | obj c' ns ds=>
    show (if c' = c ∧ c' ≠ "()" then _ else _) = (if decide (c' = c ∧ c' ≠ "()") = true then _ else _)
    by_cases h:c' = c ∧ c' ≠ "()"
    · rw [if_pos h,if_pos (decide_eq_true h)]
      cases f [D.obj c' ns ds] with
      | ok r e=>cases r <;> rfl
      | _=>rfl
    · rw [if_neg h,if_neg (by rw [decide_eq_false h]; decide)]
  | _=>rfl
def tryR (ps:List HdM) : SO → SO
  | .err er s1=>rowM ps er s1
  | o=>o
theorem sTryRow_q (mb:MS) (ps:List HdM) (s:Env) : sTryRow mb ps s = tryR ps (mb s):=by
  unfold sTryRow
  cases mb s <;> rfl
theorem tryR_nx (ps:List HdM) (s:Env) : tryR ps (.nx s) = .nx s:=rfl
theorem tryR_err (ps:List HdM) (er:Err) (s:Env) : tryR ps (.err er s) = rowM ps er s:=rfl
def slcD (l h:Option Int) : D → Option D
  | .lst ds=>some (.lst (cutD ds l h))
  | _=>none
theorem mSlice_q (m:M) (lo hi:Option M) (s:Env) : mSlice m lo hi s = (m s).bind fun d s1=>(mPart lo s1).bind fun l s2=>(mPart hi s2).bind fun h s3=>R.opt (slcD l h d) s3:=by
  unfold mSlice
  congr 1
  funext d s1
  congr 1
  funext l s2
  congr 1
  funext h s3
  cases d <;> rfl
/-- a comprehension of one clause -/
theorem comp_q {α:Type} {mi:MA} {i:Nat} {c:MB} {e:M} {s s0:Env} (L:List α) (q:α → D) (p:α → Bool) (z:α → D) (hm:mi s = .ok (L.map q) s0) (hs:s0[i]? = some none)
    (hc:∀ a ∈ L,c (s0.set i (some (q a))) = .ok (p a) (s0.set i (some (q a)))) (hz:∀ a ∈ L,p a = true → ∃ o,e (s0.set i (some (q a))) = .ok (z a) (s0.set i o)) (hl:L.length < 16000000) :
    mComp mi (gN i) c e [i] s = .ok (.lst ((L.filter p).map z)) s0:=by
  have hn:s0.set i none = s0:=by
    have hi:i < s0.length:=by
      rcases Nat.lt_or_ge i s0.length with h | h
      · exact h
      · rw [List.getElem?_eq_none h] at hs; cases hs
    rw [List.getElem?_eq_getElem hi] at hs
    have e1:s0[i] = none:=by injection hs
    exact (congrArg (s0.set i) e1.symm).trans (List.set_getElem_self hi)
  have sw:swipe s0 [i] = s0:=hn
  have key:∀ (L:List α) (acc:List D),(∀ a ∈ L,c (s0.set i (some (q a))) = .ok (p a) (s0.set i (some (q a)))) → (∀ a ∈ L,p a = true → ∃ o,e (s0.set i (some (q a))) = .ok (z a) (s0.set i o)) → acc.length + L.length < 16000000 → compM (gN i) c e [i] (L.map q) s0 acc = .ok (acc ++ (L.filter p).map z) s0:=by
    intro L
    induction L with
    | nil=>
      intro acc _ _ _
      show R.ok acc s0 = _
      rw [List.filter_nil,List.map_nil,List.append_nil]
    | cons a L ih=>
      intro acc hc hz hl
      have hl:acc.length + (L.length + 1) < 16000000:=hl
      have h1:=hc a List.mem_cons_self
      have r1:∀ o,swipe (s0.set i o) [i] = s0:=fun o=>by
        show ((s0.set i o).set i none) = s0
        rw [List.set_set,hn]
      have c1:=fun x hx=>hc x (List.mem_cons_of_mem _ hx)
      have z1:=fun x hx=>hz x (List.mem_cons_of_mem _ hx)
      rw [List.map_cons]
      unfold compM
      rw [show gN i (q a) s0 = some (s0.set i (some (q a))) from rfl]
      simp only [h1,R.bind_ok]
      cases hp:p a with
      | false=>
        rw [List.filter_cons_of_neg (by rw [hp]; decide)]
        simp only [if_neg (show ¬(false = true) by decide)]
        rw [r1]
        exact ih acc c1 z1 (by omega)
      | true=>
        obtain ⟨o,e2⟩:=hz a List.mem_cons_self hp
        rw [List.filter_cons_of_pos hp,List.map_cons]
        simp only [if_pos,e2,R.bind_ok]
        rw [r1,if_pos (by omega),ih (acc ++ [z a]) c1 z1 (by rw [List.length_append]; simp only [List.length_cons,List.length_nil]; omega),List.append_assoc]
        rfl
  unfold mComp
  rw [hm,R.bind_ok,sw,key L [] hc hz (by simpa using hl),R.noerr_ok,R.bind_ok]
  show R.ok _ (s0.set i ((s0[i]?).join)) = _
  rw [hs]
  show R.ok _ (s0.set i none) = _
  rw [hn]
  rfl
/-- a list of one kind of things read at a place -/
theorem dIx_map {α:Type} {q:α → D} {L:List α} {r:Int} (h0:0 ≤ r) (h1:r < (L.length:Int)) : ∃ a ∈ L,dIx (.lst (L.map q)) (.int r) = some (q a):=by
  have hr:r.toNat < L.length:=by omega
  refine ⟨L[r.toNat],List.getElem_mem hr,?_⟩
  show atI (L.map q) r = _
  unfold atI ixN
  rw [List.length_map,if_pos h0,if_pos h1]
  simp [hr]
end Bk
namespace Bk
open PySem PySem.Spec PyProof.Rows L2
end Bk
namespace Bk
open PySem PySem.Spec PyProof.Rows L2
variable [Cls]
def mOrT (a b:M) : M:=fun s=>(a s).bind fun d s1=>match dTru d with
  | some true=>.ok d s1
  | some false=>b s1
  | none=>.stuck
def orT (b:M) (d:D) (s1:Env) : Option Bool → R D
  | some true=>.ok d s1
  | some false=>b s1
  | none=>.stuck
theorem mOrT_e (a b:M) (s:Env) : mOrT a b s = (a s).bind fun d s1=>orT b d s1 (dTru d):=by
  unfold mOrT
  congr 1
section
variable {X:Cx} {n:Nat} {G:Gr n} {W:WX} {Γ : List Ty} {rt:Ty} {a b:Expr} {rest:List Expr} {va vb:M} {pos:Pos}
def sInsX (i:Nat) (ma mb:M) : MS:=fun s=>match s[i]? with
  | some (some (.obj _ [] _))=>(ma s).so fun d s1=>(mb s1).so fun z s2=>match s2[i]?,d with
    | some (some (.obj _ [] ds)),.int k=>if ds.length < 16000000 ∧ 0 ≤ k ∧ k < 2 ^ 63 then .nx (s2.set i (some (ownL (ds.take k.toNat ++ [z] ++ ds.drop k.toNat)))) else .stuck
    | _,_=>.stuck
  | _=>.stuck
end
def ownOf:D → Option (List D)
  | .obj _ [] ds=>some ds
  | _=>none
theorem ownOf_own (ds:List D) : ownOf (ownL ds) = some ds:=rfl
def unX:D → D
  | .obj _ [] ds=>.lst ds
  | d=>d
theorem unX_own (ds:List D) : unX (ownL ds) = .lst ds:=rfl
theorem unX_lst (ds:List D) : unX (.lst ds) = .lst ds:=rfl
theorem unX_non:unX .non = .non:=rfl
theorem unX_tup (ds:List D) : unX (.tup ds) = .tup ds:=rfl
def itX:D → Option (List D)
  | .obj _ [] ds=>some ds
  | .lst ds=>some ds
  | _=>none
theorem itX_own (ds:List D) : itX (ownL ds) = some ds:=rfl
theorem itX_lst (ds:List D) : itX (.lst ds) = some ds:=rfl
def atX:List D → D → Option D
  | ds,.int k=>atI ds k
  | _,_=>none
theorem atX_int (ds:List D) (k:Int) : atX ds (.int k) = atI ds k:=rfl
def varR (i:Nat) (s:Env) : Option D → R D
  | some d=>.ok (unX d) (s.set i (some (unX d)))
  | none=>.stuck
theorem set_own {s:Env} {i:Nat} {d:D} (h:s[i]? = some (some d)) : s.set i (some d) = s:=by
  have hi:i < s.length:=(List.getElem?_eq_some_iff.mp h).1
  rw [List.getElem?_eq_getElem hi] at h
  have e:s[i] = some d:=by injection h
  rw [←e]
  exact List.set_getElem_self hi
theorem mVarX_q (i:Nat) (s:Env) : mVarX i s = varR i s (s[i]?).join:=by
  unfold mVarX
  split
  · rename_i c ds e
    rw [e]
    rfl
  · rename_i d hn e
    rw [e]
    show R.ok d s = R.ok (unX d) (s.set i (some (unX d)))
    have hu:unX d = d:=by
      cases d with
      | obj c ns ds=>
        cases ns with
        | nil=>exact (hn c ds rfl).elim
        | cons _ _=>rfl
      | _=>rfl
    rw [hu,set_own e]
  · rename_i h1 h2
    cases e:s[i]? with
    | none=>rfl
    | some o=>
      cases o with
      | none=>rfl
      | some d=>exact (h2 d e).elim
theorem mLenX_q (i:Nat) (s:Env) : mLenX i s = R.opt (((s[i]?).join.bind itX).map fun ds=>D.int ds.length) s:=by
  unfold mLenX
  split
  · rename_i c ds e
    rw [e]
    rfl
  · rename_i ds e
    rw [e]
    rfl
  · rename_i h1 h2
    cases e:s[i]? with
    | none=>rfl
    | some o=>
      cases o with
      | none=>rfl
      | some d=>
        cases d with
        | obj c ns ds=>
          cases ns with
          | nil=>exact (h1 c ds e).elim
          | cons _ _=>rfl
        | lst ds=>exact (h2 ds e).elim
        | _=>rfl
theorem mIxX_q (i:Nat) (mb:M) (s:Env) : mIxX i mb s = if (s[i]?).join.isSome = true then (mb s).bind fun d s1=>R.opt (((s1[i]?).join.bind itX).bind fun ds=>atX ds d) s1 else .stuck:=by
  unfold mIxX
  cases e:s[i]? with
  | none=>rfl
  | some o=>
    cases o with
    | none=>rfl
    | some d0=>
      show _ = (mb s).bind _
      simp only []
      congr 1
      funext d s1
      cases e1:s1[i]? with
      | none=>rfl
      | some o1=>
        cases o1 with
        | none=>rfl
        | some d1=>
          cases d1 with
          | obj c ns ds=>
            cases ns with
            | nil=>cases d <;> rfl
            | cons _ _=>cases d <;> rfl
          | lst ds=>cases d <;> rfl
          | _=>cases d <;> rfl
def appR (i:Nat) (d:D) (s:Env) : Option (List D) → SO
  | some ds=>if ds.length < 16000000 then .nx (s.set i (some (ownL (ds ++ [d])))) else .stuck
  | none=>.stuck
theorem appR_some (i:Nat) (d:D) (s:Env) (ds:List D) : appR i d s (some ds) = if ds.length < 16000000 then .nx (s.set i (some (ownL (ds ++ [d])))) else .stuck:=rfl
theorem sAppX_q (i:Nat) (m:M) (s:Env) : sAppX i m s = if ((s[i]?).join.bind ownOf).isSome = true then (m s).so fun d s1=>appR i d s1 ((s1[i]?).join.bind ownOf) else .stuck:=by
  have key:∀ s:Env,(∃ c ds,s[i]? = some (some (.obj c [] ds))) ∨ ((s[i]?).join.bind ownOf = none ∧ ∀ c ds,s[i]? ≠ some (some (.obj c [] ds))):=fun s=>by
    cases e:s[i]? with
    | none=>exact .inr ⟨rfl,fun _ _ h=>by cases h⟩
    | some o=>
      cases o with
      | none=>exact .inr ⟨rfl,fun _ _ h=>by cases h⟩
      | some d=>
        cases d with
        | obj c ns ds=>
          cases ns with
          | nil=>exact .inl ⟨c,ds,rfl⟩
          | cons _ _=>exact .inr ⟨rfl,fun _ _ h=>by cases h⟩
        | _=>exact .inr ⟨rfl,fun _ _ h=>by cases h⟩
  unfold sAppX
  rcases key s with ⟨c,ds,e⟩ | ⟨e1,e2⟩
  · rw [e]
    show (m s).so _ = (m s).so _
    congr 1
    funext d s1
    rcases key s1 with ⟨c1,ds1,e⟩ | ⟨e1,e2⟩
    · rw [e]
      rfl
    · rw [e1]
      split
      · rename_i c2 ds2 h
        exact (e2 c2 ds2 h).elim
      · rfl
  · rw [e1]
    split
    · rename_i c2 ds2 h
      exact (e2 c2 ds2 h).elim
    · rfl
def insR (i:Nat) (d z:D) (s:Env) : Option (List D) → SO
  | some ds=>match d with
    | .int k=>if ds.length < 16000000 ∧ 0 ≤ k ∧ k < 2 ^ 63 then .nx (s.set i (some (ownL (ds.take k.toNat ++ [z] ++ ds.drop k.toNat)))) else .stuck
    | _=>.stuck
  | none=>.stuck
theorem insR_some (i:Nat) (k:Int) (z:D) (s:Env) (ds:List D) : insR i (.int k) z s (some ds) = if ds.length < 16000000 ∧ 0 ≤ k ∧ k < 2 ^ 63 then .nx (s.set i (some (ownL (ds.take k.toNat ++ [z] ++ ds.drop k.toNat)))) else .stuck:=rfl
theorem sInsX_q (i:Nat) (ma mb:M) (s:Env) : sInsX i ma mb s = if ((s[i]?).join.bind ownOf).isSome = true then (ma s).so fun d s1=>(mb s1).so fun z s2=>insR i d z s2 ((s2[i]?).join.bind ownOf) else .stuck:=by
  have key:∀ s:Env,(∃ c ds,s[i]? = some (some (.obj c [] ds))) ∨ ((s[i]?).join.bind ownOf = none ∧ ∀ c ds,s[i]? ≠ some (some (.obj c [] ds))):=fun s=>by
    cases e:s[i]? with
    | none=>exact .inr ⟨rfl,fun _ _ h=>by cases h⟩
    | some o=>
      cases o with
      | none=>exact .inr ⟨rfl,fun _ _ h=>by cases h⟩
      | some d=>
        cases d with
        | obj c ns ds=>
          cases ns with
          | nil=>exact .inl ⟨c,ds,rfl⟩
          | cons _ _=>exact .inr ⟨rfl,fun _ _ h=>by cases h⟩
        | _=>exact .inr ⟨rfl,fun _ _ h=>by cases h⟩
  unfold sInsX
  rcases key s with ⟨c,ds,e⟩ | ⟨e1,e2⟩
  · rw [e]
    show (ma s).so _ = (ma s).so _
    congr 1
    funext d s1
    congr 1
    funext z s2
    rcases key s2 with ⟨c1,ds1,e⟩ | ⟨e1,e2⟩
    · rw [e]
      cases d <;> rfl
    · rw [e1]
      split
      · rename_i c2 ds2 k h
        exact (e2 c2 ds2 h).elim
      · rfl
  · rw [e1]
    split
    · rename_i c2 ds2 h
      exact (e2 c2 ds2 h).elim
    · rfl
def setR (i:Nat) (s:Env) : Option (List D) → SO
  | some ds=>.nx (s.set i (some (ownL ds)))
  | none=>.stuck
def lstOf:D → Option (List D)
  | .lst ds=>some ds
  | _=>none
theorem lstOf_lst (ds:List D) : lstOf (.lst ds) = some ds:=rfl
theorem setR_some (i:Nat) (s:Env) (ds:List D) : setR i s (some ds) = .nx (s.set i (some (ownL ds))):=rfl
theorem sSetXO_q (i:Nat) (m:M) (s:Env) : sSetXO i m s = (m s).so fun d s1=>setR i s1 (lstOf d):=by
  unfold sSetXO
  congr 1
  funext d s1
  cases d <;> rfl
end Bk
namespace Bk
open PySem PySem.Spec PyProof.Rows L2
end Bk
namespace Bk
open PySem PySem.Spec PyProof.Rows L2
variable [Cls]
def dicS {α:Type} (κ:α → List Key) (ζ:α → D) (a:Dc) (d:α) : Dc:=(putKs a.1 (κ d),putV a.1 a.2 (κ d) (ζ d))
def dic {α:Type} (κ:α → List Key) (ζ:α → D) (L:List α) : Dc:=L.foldl (dicS κ ζ) ([],[])
def dicD {α:Type} (κ:α → List Key) (ζ:α → D) (L:List α) : D:=.dct (dic κ ζ L).1 (dic κ ζ L).2
end Bk
namespace Bk
open PySem PySem.Spec PyProof.Rows L2
/-- the hash of a key of ints -/
def hI:Key → Int
  | .inl k=>hashInt k
  | .inr _=>0
def hK (k:List Key) : Int:=reduceHash (Builtin.Tuple.tupleHashOf (k.map hI))
section
variable {X:Cx}
variable [Cls] {n:Nat} {G:Gr n} {W:WX} {Γ : List Ty}
/-- tuple(e) -/
def mTupOf (m:M) : M:=fun s=>(m s).bind fun d s1=>match d with
  | .lst ds=>.ok (.tup ds) s1
  | .tup ds=>.ok (.tup ds) s1
  | _=>.stuck
def rTupOf (K:PySem.W.Frag) : List V → Hp → VK → Prop:=fun xs H Q=>∃ p ys,xs = [.ref p] ∧ ((SqL K H p ys ∧ ∀ l,H l = none → Q (.ref l) (upd H l (.tup ys))) ∨ (SqT K H p ys ∧ Q (.ref p) H))
theorem me_tupOf {e:Expr} {m:M} (h:PE X e (tCB (rTupOf X.K) (tCons (tM X.K G W Γ .fr m) tNil))) : ME X G W Γ e .fr (mTupOf m):=
  peI h fun σ H Q ⟨s,F,fp,R,q⟩=>by
    unfold mTupOf at q
    refine ⟨s,F,fp,R,pbind q fun d s1 v F1 fp1 H1 R1 x a q1=>?_⟩
    cases d with
    | lst ds=>
      cases a.rep with
      | @lst ds vs p ea rs=>
        refine ⟨p,vs,rfl,.inl ⟨R1.sqL ea,fun l hl=>?_⟩⟩
        obtain ⟨R2,st2⟩:=R1.fix (o:=.tup vs) hl
        exact q1 _ _ _ _ R2 st2 (AE.fr (.tup upd_same (rs.mono st2.f)))
    | tup ds=>
      cases a.rep with
      | @tup ds vs p ea rs=>exact ⟨p,vs,rfl,.inr ⟨R1.sqT ea,pok q1 R1 (AE.fr (.tup ea rs))⟩⟩
    | _=>exact q1.elim
end
end Bk
namespace Bs
open PySem PySem.Calls PyProof.Rows PyProof.V PySem.Spec PySem.W
section
variable {prog:Program} {w:World} {A:Around} {E:Value → Shared → Prop} {s:Shared}
/-- *others,one = a tuple -/
theorem unpack_last {l:Addr} {x:Value} {xs:List Value} {Q:List Value → Shared → Prop} (hl:IsTup s.heap l (xs ++ [x]).toArray) (hh:A.handled = none) (hz:(xs ++ [x]).length ≤ sizeLine)
    (h:∀ (h':Heap) (tk:Nat),(∀ b o,s.heap.get? b = some o → h'.get? b = some o) → Q [.ref h'.objs.size,x] { s with heap:=h'.push { cls:=.type "list",data:=.seq xs.toArray },toks:=tk }) :
    wpAny (model prog w) A (unpackItems (.ref l) 2 (some 0)) Q E s:=by
  have hlt:l ≠ s.heap.objs.size:=by obtain ⟨o,ho,_⟩:=hl; exact Nat.ne_of_lt (Heap.lt_size ho)
  have hll:l < s.heap.objs.size:=by obtain ⟨o,ho,_⟩:=hl; exact Heap.lt_size ho
  have hsz:(xs ++ [x]).toArray.size = xs.length + 1:=by simp
  unfold unpackItems notIterableAtAll
  refine wpAny_bind (wpAny_bind (wpAny_specialOf hl.typeIs slot_tuple_iter.lookup (wpAny_pure ?_)))
  simp only [Bool.false_eq_true,if_false]
  refine wpAny_bind (wpAny_holding (iter_tuple hl ?_))
  refine wpAny_bind (wpAny_holding (draw_tuple hlt 0 0 _ _ ⟨_,Heap.get?_push_size _ rfl,rfl,rfl⟩ (hl.push _) (by omega) fun h1 it1 b1=>?_))
  have l1:IsTup h1 l (xs ++ [x]).toArray:=(hl.push _).extBut b1.extBut hlt
  have it2:=it1
  obtain ⟨oi,hoi,_⟩:=it2
  have l2:=l1
  obtain ⟨ol,hol,_⟩:=l2
  refine wpAny_bind (wpAny_holding (kun_collect (s:={ s with heap:=h1 }) (T:= "tuple_iterator") (.inr (.inr (.inr rfl))) (Walks.tuple (A:=A.in1) hh s.heap.objs.size l hlt (xs ++ [x]).toArray) (fun j u st=>st.1.typeIs) (k:=0) (by omega) ⟨it1,l1⟩ (Heap.lt_size hoi) (Heap.lt_size hol) (fun h2 tk hk=>?_) (by rw [hsz]; simpa using hz)))
  have e1:(xs ++ [x]).toArray.toList.drop 0 = xs ++ [x]:=by simp
  rw [e1]
  have e2:(xs ++ [x]).length - (2 - 1 - 0) = xs.length:=by simp
  show wpAny _ _ (if (xs ++ [x]).length < 2 - 1 - 0 then _ else _) _ _ _
  rw [if_neg (by simp)]
  show wpAny _ _ (newList ((xs ++ [x]).take ((xs ++ [x]).length - (2 - 1 - 0))) >>= fun d=>pure ((xs ++ [x]).toArray.toList.take 0 ++ [d] ++ (xs ++ [x]).drop ((xs ++ [x]).length - (2 - 1 - 0)))) _ _ _
  rw [e2,List.take_left,List.drop_left]
  have kp:∀ b o,s.heap.get? b = some o → h2.get? b = some o:=fun b o e=>hk b o (Nat.ne_of_lt (Heap.lt_size e)) (b1.extBut b o (Nat.ne_of_lt (Heap.lt_size e)) (Heap.get?_push_of_some _ e))
  exact wpAny_bind (wpAny_newList (wpAny_pure (h h2 tk kp)) (Nat.le_trans (by simp) hz))
end
end Bs
namespace Bk
open PySem PySem.Spec PyProof.Rows L2
/-- *others,one = a tuple of one thing or more -/
def gStarF (K:PySem.W.Frag) (t:TGs) : TG:=fun v σ H Q=>∃ a xs x,v = .ref a ∧ SqT K H a (xs ++ [x]) ∧ ∀ p,H p = none → t [.ref p,x] σ (upd H p (.lst xs)) Q
theorem vals_snocF:∀ {xs:List V} {x:V} {us:List Value},Vals (xs ++ [x]) us → ∃ ws u,us = ws ++ [u] ∧ Vals xs ws ∧ RelV x u
  | [],x,_,.cons r .nil=>⟨[],_,rfl,.nil,r⟩
  | y :: xs,x,_,.cons r t=>by
    obtain ⟨ws,u,rfl,h1,h2⟩:=vals_snocF t
    exact ⟨_ :: ws,u,rfl,.cons r h1,h2⟩
section
variable {X:Cx} {pos pos2:Pos}
theorem pg_starF {e1 e2:Expr} {k:Nat} {t:TGs} (hc:X.calm = true) (h:PGs X [e1,e2] t) (hn:(assignEach [.Starred e1 pos2,e2] X.env).length = 2:=by rfl) (hst:(assignEach [.Starred e1 pos2,e2] X.env).findIdx? (·.1) = some 0:=by rfl)
    (hm:(assignEach [.Starred e1 pos2,e2] X.env).map (·.2) = (assignEach [e1,e2] X.env).map (·.2):=by rfl) : PG X (.Tuple [.Starred e1 pos2,e2] k pos) (gStarF X.K t):=by
  refine ⟨fun pins s σ H v u Q I r hw=>?_⟩
  obtain ⟨a,xs,x,e,hq,hw⟩:=hw
  subst e
  cases r
  obtain ⟨its,rv,pl,hz⟩:=I.tuple hq
  obtain ⟨vs,v,rfl,rs,rx⟩:=vals_snocF rv
  rw [PyProof.Rows.assign_Tuple]
  refine wpAny_bind (wpAny_standAt ?_)
  unfold unpack
  rw [hn,hst,hm]
  refine wpAny_bind (wpAny_holding (Bs.unpack_last pl (I.ok.hd hc) (by rw [List.length_append,←rs.length,List.length_singleton]; rw [List.length_append,List.length_singleton] at hz; exact hz) fun h' tk kp=>?_))
  have I1:Inv X pins σ H { s with heap:=h' }:=I.kept (t':=s.toks) kp
  have hz':xs.length ≤ sizeLine:=by
    rw [List.length_append] at hz
    exact Nat.le_trans (Nat.le_add_right _ _) hz
  have I2:Inv X pins σ (upd H h'.objs.size (.lst xs)) { s with heap:=h'.push { cls:=.type "list",data:=.seq vs.toArray },toks:=tk }:=
    I1.laid (t':=tk) (fun b o e=>Heap.get?_push_of_some _ e) (Nat.le_refl _) (show ObjOk X.prog X.w _ _ _ (.lst xs) from ⟨hz',vs,0,rs,Heap.get?_push_size _ rfl⟩)
  exact h.run pins _ σ _ [.ref h'.objs.size,x] [.ref h'.objs.size,v] Q I2 (.cons rfl (.cons rx .nil)) (hw _ (I1.hok.fresh (Nat.le_refl _)))
end
variable [Cls]
theorem Reps.snoc {F:Hp} : ∀ {es:List D} {x:D} {vs:List V},Reps F (es ++ [x]) vs → ∃ ws v,vs = ws ++ [v] ∧ Reps F es ws ∧ Rep F x v
  | [],x,_,.cons r .nil=>⟨[],_,rfl,.nil,r⟩
  | y :: xs,x,_,.cons r t=>by
    obtain ⟨ws,u,rfl,h1,h2⟩:=Reps.snoc (es:=xs) t
    exact ⟨_ :: ws,u,rfl,.cons r h1,h2⟩
section
variable {X:Cx} {n:Nat} {G:Gr n} {W:WX} {Γ : List Ty} {rt:Ty}
def starF (i j:Nat) (s1:Env) : D → SO
  | .tup ds=>match ds.getLast? with
    | some x=>.nx ((s1.set i (some (.lst ds.dropLast))).set j (some x))
    | none=>.stuck
  | _=>.stuck
def sStarF (i j:Nat) (m:M) : MS:=fun s=>(m s).so fun d s1=>starF i j s1 d
theorem ms_starF {st:Stmt} {i j:Nat} {m:M} (h:PS X st (tAsg (tM X.K G W Γ .fr m) (gStarF X.K (gCons (gName i) (gCons (gName j) gNil))))) (hi:Γ[i]? = some .fr) (hj:Γ[j]? = some .fr) : MSt X G W Γ rt st (sStarF i j m):=
  psI h fun Dn σ H ⟨s,F,fp,R,q⟩=>⟨s,F,fp,R,sbind q fun d s1 v F1 fp1 H1 R1 x a q1=>by
    cases a.rep with
    | @tup ds vs p ea rs=>
      unfold starF at q1
      simp only [] at q1
      cases el:ds.getLast? with
      | none=>rw [el] at q1; exact q1.elim
      | some y=>
        rw [el] at q1
        obtain ⟨ys,rfl⟩:=List.getLast?_eq_some_iff.mp el
        simp only [List.dropLast_concat] at q1
        obtain ⟨ws,v,rfl,t,r⟩:=rs.snoc
        refine ⟨p,ws,v,rfl,R1.sqT ea,fun p' hp=>⟨.ref p',[v],rfl,v,[],rfl,rfl,?_⟩⟩
        have t1:=R1.nowF hp
        have t2:=R1.newFp hp
        have t3:=R1.newG hp
        obtain ⟨R2,x2⟩:=R1.lay (o:=.lst ws) hp
        have R3:=R2.free t1 t2 t3 upd_same
        have x3:=x2.free (o:=.lst ws) t1 (.inr hp) (R2.tb.no upd_same)
        have sm:Same F1 (upd F1 p' (.lst ws)):=fun b u e=>by rw [upd_ne (ne_of_none e t1)]; exact e
        exact q1 _ _ _ _ ((R3.putF hi (.lst upd_same (t.mono sm))).putF hj (r.mono sm)) x3.putF.putF
    | _=>exact q1.elim⟩
end
end Bk
namespace Bk
open PySem PySem.Spec PyProof.Rows L2
def tMakeNS (C:Addr) (n m:Nat) (sp:Sp) (gV:List V → List V → List V) (E:L2.St → XK) (t tk:TA) : TE:=fun σ H Q=>t σ H fun vs H1=>tk σ H1 fun zs H2=>vs.length = n ∧ zs.length = m ∧
  ∀ a b,H2 a = none → H2 b = none → b ≠ a → sp (gV (.ref a :: vs) zs) (L2.upd (L2.upd H2 b (.own a)) a (.ins C b [])) (fun u Y=>u = .non ∧ Q (.ref a) Y) (E σ)
section
variable {X:Cx} {CX:CXT} {k n:Nat} {f C:Addr} {fd:FuncData} {ps ks:List Str} {sp:Sp} {E:L2.St → XK} {x:Str} {p pos:Pos} {e:Expr} {es:List Expr} {kws:List Keyword} {t tk:TA} {g:List Value → List Value → List Value} {gV:List V → List V → List V}
theorem run_mkNS {pins:List (Addr × Obj)} {σ:L2.St} {H:Hp} {s:Shared} {Q:VK} {us ws:List Value} {vs zs:List V} (M:Mk X.K C f) (F:FnOk X.prog X.w X.K X.mg X.base CX k f fd ps sp) (hr:Room (k + 1) X.A) (hb:KBn X.K fd ps (n + 1) ks g gV)
    (hx:PassesAt CX X σ (E σ)) (I:Inv X pins σ H s) (r:Vals vs us) (rz:Vals zs ws) (l1:vs.length = n) (l2:zs.length = ks.length)
    (h:∀ a b,H a = none → H b = none → b ≠ a → sp (gV (.ref a :: vs) zs) (L2.upd (L2.upd H b (.own a)) a (.ins C b [])) (fun u Y=>u = .non ∧ Q (.ref a) Y) (E σ)) :
    wpAny (model X.prog X.w) X.A (call (.ref C) us (ks.zip ws)) (EP X pins σ Q) X.xe s:=by
  have q:=h (s.heap.objs.size + 1) s.heap.objs.size (I.hok.fresh (Nat.le_succ _)) (I.hok.fresh (Nat.le_refl _)) (Nat.ne_of_lt (Nat.lt_succ_self _))
  have J:=Inv.made (C:=C) I
  have r1:Vals (V.ref (s.heap.objs.size + 1) :: vs) (Value.ref (s.heap.objs.size + 1) :: us):=.cons rfl r
  have r2:=hb.rel r1 rz
  have e1:(Value.ref (s.heap.objs.size + 1) :: us).length = n + 1:=r1.length.symm.trans (congrArg Nat.succ l1)
  have e2:ws.length = ks.length:=rz.length.symm.trans l2
  have go:=F.run _ X.stack _ _ ⟨Value.ref (s.heap.objs.size + 1) :: us,ks.zip ws⟩ (g (Value.ref (s.heap.objs.size + 1) :: us) ws) _ _ (E σ) (hr.make C us (ks.zip ws)) (J.env0.make C us (ks.zip ws)) (hb.to _ (Value.ref (s.heap.objs.size + 1) :: us) ws J.kIn e1 e2) r2 q
  refine wpAny_call (make_map (f:=f) I.kIn M.makes M.init (beq_iff_eq.mp M.fn) (codeAny_mono go fun r z q=>?_))
  rcases r with e | fl
  · exact hx pins _ _ e z J q
  · cases fl with
    | ret u=>
      obtain ⟨v,Z,J3,rv,ev,q3⟩:=J.after q
      subst ev
      exact ⟨rv,⟨V.ref (s.heap.objs.size + 1),Z,J3,rfl,q3⟩⟩
    | next=>exact q.elim
    | brk=>exact q.elim
    | cont=>exact q.elim
theorem pe_mkNS (M:Mk X.K C f) (F:FnOk X.prog X.w X.K X.mg X.base CX k f fd ps sp) (hr:Room (k + 1) X.A) (hg:Gl X x) (hm:X.mg x = some (.ref C)) (hb:KBn X.K fd ps (n + 1) ks g gV) (hx:∀ σ,PassesAt CX X σ (E σ))
    (ha:PA X (e :: es) t) (hkw:PK X kws tk) (hall:(backToKw pos (keywordEach kws X.env)).all (·.1.isSome) = true:=by rfl) (hks:(backToKw pos (keywordEach kws X.env)).filterMap (·.1) = ks:=by rfl)
    (hdb:(x == ("__debug__" : Str)) = false:=by decide) (he:starEach (e :: es) X.env = (false,eval e X.env) :: starEach es X.env:=by rfl)
    (hpl:((backTo pos (starEach (e :: es) X.env)).any (·.1) || (backToKw pos (keywordEach kws X.env)).any (·.1.isNone)) = false:=by rfl) :
    PE X (.Call (.Name x p) (e :: es) kws pos) (tMakeNS C n ks.length sp gV E t tk):=by
  refine ⟨fun pins s σ H Q I h=>?_⟩
  refine wpAny_Call_Name_kw (ld_glob I hg hm ?_ hdb)
  refine PySem.W.callWith_KW (h₀:=X.base) I.ok.mod.kin M.kp hall (thn (ha.run pos pins s σ H _ I h) fun us s1 ⟨vs,H1,I1,r,q⟩=>?_) hpl he
  refine thn (hkw.run pos pins s1 σ H1 _ I1 q) fun ws s2 ⟨zs,H2,I2,rz,l1,l2,q2⟩=>⟨I2.kIn,?_⟩
  rw [hks]
  exact run_mkNS M F hr hb (hx σ) I2 r rz l1 l2 q2
end
variable [Cls]
/-- the making of a thing of the class c with nv values and the keywords ks -/
structure CalIN (P:Program) (w:World) (K:PySem.W.Frag) (mg:Str → Option Value) (base:Heap) (k:Nat) (c:Str) (np:Nat) (f:List D → R D) (nv:Nat) (ks:List Str) (gD:List D → List D → List D) : Prop where
  ex:∃ (a:Addr) (fd:FuncData) (ps:List Str) (g:List Value → List Value → List Value) (gV:List V → List V → List V),FnOk P w K mg base (L2.CX P w) k a fd ps (spM K (.ob c [] :: List.replicate np .fr) .fr f) ∧ mg c = some (.ref (Cls.ga c)) ∧ Mk K (Cls.ga c) a ∧ KBn K fd ps (nv + 1) ks g gV ∧
    ∀ F ds es vs ws b,Reps F ds vs → Reps F es ws → vs.length = nv → ws.length = ks.length → ∃ us,gV (b :: vs) ws = b :: us ∧ Reps F (gD ds es) us ∧ (gD ds es).length = np
def mMakeN (c:Str) (f:List D → R D) (gD:List D → List D → List D) (ma mk:MA) : M:=fun s=>(ma s).bind fun ds s1=>(mk s1).bind fun es s2=>mkR s2 (f (.obj c [] [] :: gD ds es))
theorem mkR_match (s:Env) (r:R D) : mkR s r = (match r with
      | .ok .non (some (.obj c' ns fs) :: _)=>.ok (.obj c' ns fs) s
      | .ok _ _=>.stuck
      | .err er _=>.err er s
      | .stuck=>.stuck):=by
  have h:=mMake_q "" (fun _=>r) [] (fun s=>.ok [] s) s
  unfold mMake at h
  rw [Bk.R.bind_ok] at h
  rw [Bk.R.bind_ok] at h
  exact h.symm
section
variable {X:Cx} {n:Nat} {G:Gr n} {W:WX} {Γ : List Ty} {rt:Ty} {pos p:Pos}
theorem me_makeN {k np nv:Nat} {c:Str} {e:Expr} {es:List Expr} {kws:List Keyword} {ks:List Str} {f:List D → R D} {gD:List D → List D → List D} {ma mk:MA} (C:CalIN X.prog X.w X.K X.mg X.base k c np f nv ks gD) (hr:Room (k + 1) X.A) (tk:Takes X W) (hg:Gl X c)
    (ha:MAs X G W Γ (e :: es) ma) (hla:LenOk ma nv) (hk:MKs X G W Γ kws mk) (hl:LenOk mk ks.length)
    (h1:(backToKw pos (keywordEach kws X.env)).all (·.1.isSome) = true:=by rfl) (h2:(backToKw pos (keywordEach kws X.env)).filterMap (·.1) = ks:=by rfl) (h3:(c == ("__debug__" : Str)) = false:=by decide)
    (h5:starEach (e :: es) X.env = (false,eval e X.env) :: starEach es X.env:=by rfl)
    (h4:((backTo pos (starEach (e :: es) X.env)).any (·.1) || (backToKw pos (keywordEach kws X.env)).any (·.1.isNone)) = false:=by rfl) :
    ME X G W Γ (.Call (.Name c p) (e :: es) kws pos) .fr (mMakeN c f gD ma mk):=by
  obtain ⟨a,fd,ps,g,gV,F,hm,hmk,hb,hre⟩:=C.ex
  have h:=pe_mkNS (E:=WE W) (p:=p) (pos:=pos) hmk F hr hg hm hb (fun σ=>passAt tk σ) ha hk h1 h2 h3 h5 h4
  refine peI h fun σ H Q ⟨s,F0,fp,R,q⟩=>⟨s,F0,fp,R,?_⟩
  refine pmapL hla R q fun ds s1 vs F1 fp1 H1 el R1 st1 a1 q1=>⟨s1,F1,fp1,R1,?_⟩
  refine pmapL hl R1 q1 fun zs s2 ws F2 fp2 H2 el2 R2 st2 a2 q2=>?_
  have lv:vs.length = nv:=by rw [←a1.len,el]
  have lw:ws.length = ks.length:=by rw [←a2.len,el2]
  refine ⟨lv,lw,fun x dx hx hdx hne=>?_⟩
  obtain ⟨us,eu,r1,l1⟩:=hre F2 ds zs vs ws (.ref x) (a1.mono st2.f) a2 lv lw
  rw [eu]
  refine make_go R2 r1 l1 hx hdx hne ?_
  have q3:PostG X.K G W Γ σ F2 fp2 H2 (AE G .fr fp H) Q (mkR s2 (f (.obj c [] [] :: gD ds zs))):=q2
  rw [mkR_match] at q3
  exact q3.imp fun r v F' fp' H' z=>(z.back st2).back st1
end
end Bk
namespace Bk
open PySem PySem.Spec PyProof.Rows L2
variable [Cls]
structure HdU where
  cl:Value
  ix:Option Nat
  ts:Addr → Value → Option Addr → TS
inductive RowU (X:Cx) : List ExceptHandler → List HdU → Prop
  | nil:RowU X [] []
  | cons {x y:Str} {i:Nat} {c:Value} {u:Addr → Value → Option Addr → TS} {t:Stmt} {ts:List Stmt} {q q':Pos} {es:List ExceptHandler} {ps:List HdU} (iy:X.N[i]? = some y) (ly:X.env.kindOf y = some .local) (nx:Names X x c)
      (su:∀ (a:Addr) (ob:Obj) (k:Value) (od:Option Addr) (pn:List (Addr × Obj)),Zc k od ob → (∃ vs,ob.data = .fields vs) → PSs (X.suite a ((a,ob) :: pn)) (t :: ts) (u a k od))
      (more:RowU X es ps) : RowU X (.ExceptHandler (some (.Name x q)) (some y) (t :: ts) q' :: es) (⟨c,some i,u⟩ :: ps)
  | bare {x:Str} {c:Value} {u:Addr → Value → Option Addr → TS} {t:Stmt} {ts:List Stmt} {q q':Pos} {es:List ExceptHandler} {ps:List HdU} (nx:Names X x c)
      (su:∀ (a:Addr) (ob:Obj) (k:Value) (od:Option Addr) (pn:List (Addr × Obj)),Zc k od ob → (∃ vs,ob.data = .fields vs) → PSs (X.suite a ((a,ob) :: pn)) (t :: ts) (u a k od))
      (more:RowU X es ps) : RowU X (.ExceptHandler (some (.Name x q)) none (t :: ts) q' :: es) (⟨c,none,u⟩ :: ps)
structure HdV where
  isa:Str → Option Bool
  ix:Option Nat
  up:Err → Env → SO
/-- nothing is raised -/
def Wz:WX:=fun _ _ _ _=>False
section
variable {X:Cx} {n:Nat} {G:Gr n} {Γ : List Ty} {rt:Ty}
/-- a suite's reading: with a name,without -/
def tUpN (K:PySem.W.Frag) (G:Gr n) (Γ : List Ty) (rt:Ty) (i:Nat) (up:Err → Env → SO) (a:Addr) (cls:Value) (od:Option Addr) : TS:=fun Dn σ H=>∃ s F fp er,EK K G Γ i a er cls od s σ F fp H ∧ PostS K G Wz Γ rt F fp H Dn (up er s)
def tUpB (K:PySem.W.Frag) (G:Gr n) (Γ : List Ty) (rt:Ty) (up:Err → Env → SO) (cls:Value) (od:Option Addr) : TS:=fun Dn σ H=>∃ s F fp er,Rel G Γ s σ F fp H ∧ ErrAt K F er cls od ∧ PostS K G Wz Γ rt F fp H Dn (up er s)
inductive RowE (X:Cx) {n:Nat} (G:Gr n) (Γ : List Ty) (rt:Ty) : List ExceptHandler → List HdU → List HdV → Prop
  | nil:RowE X G Γ rt [] [] []
  | cons {x y:Str} {c:Value} {i:Nat} {isa:Str → Option Bool} {up:Err → Env → SO} {t:Stmt} {ts:List Stmt} {q q':Pos} {es:List ExceptHandler} {hs:List HdU} {ps:List HdV} (iy:X.N[i]? = some y) (ly:X.env.kindOf y = some .local) (nx:Names X x c)
      (su:∀ (a:Addr) (ob:Obj) (k:Value) (od:Option Addr) (pn:List (Addr × Obj)),Zc k od ob → (∃ vs,ob.data = .fields vs) → PSs (X.suite a ((a,ob) :: pn)) (t :: ts) (tUpN X.K G Γ rt i up a k od))
      (ti:Γ[i]? = some .fr) (ni:n ≤ i) (T:∀ k b,isa k = some b → PySem.W.exmOne X.K (.ref (He.ga X.K k)) c = some b)
      (more:RowE X G Γ rt es hs ps) : RowE X G Γ rt (.ExceptHandler (some (.Name x q)) (some y) (t :: ts) q' :: es) (⟨c,some i,tUpN X.K G Γ rt i up⟩ :: hs) (⟨isa,some i,up⟩ :: ps)
  | bare {x:Str} {c:Value} {isa:Str → Option Bool} {up:Err → Env → SO} {t:Stmt} {ts:List Stmt} {q q':Pos} {es:List ExceptHandler} {hs:List HdU} {ps:List HdV} (nx:Names X x c)
      (su:∀ (a:Addr) (ob:Obj) (k:Value) (od:Option Addr) (pn:List (Addr × Obj)),Zc k od ob → (∃ vs,ob.data = .fields vs) → PSs (X.suite a ((a,ob) :: pn)) (t :: ts) (tUpB X.K G Γ rt up k od))
      (T:∀ k b,isa k = some b → PySem.W.exmOne X.K (.ref (He.ga X.K k)) c = some b)
      (more:RowE X G Γ rt es hs ps) : RowE X G Γ rt (.ExceptHandler (some (.Name x q)) none (t :: ts) q' :: es) (⟨c,none,fun _=>tUpB X.K G Γ rt up⟩ :: hs) (⟨isa,none,up⟩ :: ps)
theorem RowE.ok {es:List ExceptHandler} {hs:List HdU} {ps:List HdV} (r:RowE X G Γ rt es hs ps) : RowU X es hs:=by
  induction r with
  | nil=>exact .nil
  | cons iy ly nx su ti ni T more ih=>exact .cons iy ly nx su ih
  | bare nx su T more ih=>exact .bare nx su ih
theorem PostS.calm {K:PySem.W.Frag} {W:WX} {F H:Hp} {fp:Fp} {Dn:Ends} : ∀ {o:SO},PostS K G W Γ rt F fp H Dn o → (∀ e s,o ≠ .err e s) → PostS K G Wz Γ rt F fp H Dn o
  | .nx _,h,_=>h
  | .bk _,h,_=>h
  | .ct _,h,_=>h
  | .rt _ _,h,_=>h
  | .err e s,_,z=>(z e s rfl).elim
  | .stuck,h,_=>h
variable {i:Nat} {a:Addr} {cls:Value} {od:Option Addr} {oe:Obj} {pn:List (Addr × Obj)}
end
mutual
/-- no list,dict,instance in it -/
def plD:D → Bool
  | .non=>true
  | .bl _=>true
  | .int _=>true
  | .str _=>true
  | .tup ds=>plDs ds
  | _=>false
def plDs:List D → Bool
  | []=>true
  | d :: ds=>plD d && plDs ds
end
mutual
theorem Rep.plain {F F2:Hp} (h:∀ a xs,F a = some (.tup xs) → F2 a = some (.tup xs)) : ∀ {d:D} {v:V},Rep F d v → plD d = true → Rep F2 d v
  | _,_,.non,_=>.non
  | _,_,.bl b,_=>.bl b
  | _,_,.int i,_=>.int i
  | _,_,.str x,_=>.str x
  | _,_,.tup e r,p=>.tup (h _ _ e) (Reps.plain h r p)
  | _,_,.lst _ _,p=>by cases p
  | _,_,.dct _ _ _,p=>by cases p
  | _,_,.obj _ _ _,p=>by cases p
  | _,_,.emp _,p=>by cases p
  | _,_,.rcd _ _ _,p=>by cases p
  | _,_,.ptr _,p=>by cases p
  | _,_,.ptrL _,p=>by cases p
theorem Reps.plain {F F2:Hp} (h:∀ a xs,F a = some (.tup xs) → F2 a = some (.tup xs)) : ∀ {ds:List D} {vs:List V},Reps F ds vs → plDs ds = true → Reps F2 ds vs
  | _,_,.nil,_=>.nil
  | _,_,.cons r t,p=>.cons (Rep.plain h r (Bool.and_eq_true_iff.mp p).1) (Reps.plain h t (Bool.and_eq_true_iff.mp p).2)
end
def plX:D → Bool
  | .obj _ [] ds=>plDs ds
  | d=>plD d
def plY:D → Bool
  | .obj _ [] [.dct _ vs]=>plDs vs
  | d=>plD d
theorem plX_no:∀ {d:D},isOwn d = false → plX d = true → plD d = true
  | .obj _ [] _,o,_=>by cases o
  | .obj _ (_ :: _) _,_,p=>p
  | .non,_,p=>p
  | .bl _,_,p=>p
  | .int _,_,p=>p
  | .str _,_,p=>p
  | .tup _,_,p=>p
  | .lst _,_,p=>p
  | .dct _ _,_,p=>p
  | .rcd _ _,_,p=>p
  | .ptr _,_,p=>p
theorem plY_no:∀ {d:D},isOwn d = false → plY d = true → plD d = true
  | .obj _ [] _,o,_=>by cases o
  | .obj _ (_ :: _) _,_,p=>p
  | .non,_,p=>p
  | .bl _,_,p=>p
  | .int _,_,p=>p
  | .str _,_,p=>p
  | .tup _,_,p=>p
  | .lst _,_,p=>p
  | .dct _ _,_,p=>p
  | .rcd _ _,_,p=>p
  | .ptr _,_,p=>p
/-- what an own slot may hold afterwards -/
def plK:Ty → D → Bool
  | .bag,_=>true
  | .ol,.lst ds=>plDs ds
  | .od,.dct _ vs=>plDs vs
  | .xl,d=>plX d
  | .xd,d=>plY d
  | .fr,d=>plD d
  | .ob _ [],.obj _ _ ds=>plDs ds
  | _,_=>false
theorem At.plain {F F2 H:Hp} (h:∀ a xs,F a = some (.tup xs) → F2 a = some (.tup xs)) : ∀ {t:Ty} {d:D} {v:V} {B:List Addr},At F H t d v B → plK t d = true → At F2 H t d v B
  | .fr,_,_,_,⟨r,e⟩,p=>⟨r.plain h p,e⟩
  | .ol,_,_,_,⟨a,ds,vs,e1,e2,e3,r,e4⟩,p=>by
    subst e1
    exact ⟨a,ds,vs,rfl,e2,e3,r.plain h p,e4⟩
  | .od,_,_,_,⟨a,ks,ds,vs,e1,e2,e3,l,r,e4⟩,p=>by
    subst e1
    exact ⟨a,ks,ds,vs,rfl,e2,e3,l,r.plain h p,e4⟩
  | .bag,_,_,_,x,_=>x
  | .xl,d,_,_,.inl ⟨o,r,e⟩,p=>.inl ⟨o,r.plain h (plX_no o p),e⟩
  | .xl,_,_,_,.inr ⟨a,ds,vs,e1,e2,e3,r,e4⟩,p=>by
    subst e1
    exact .inr ⟨a,ds,vs,rfl,e2,e3,r.plain h p,e4⟩
  | .xd,d,_,_,.inl ⟨o,r,e⟩,p=>.inl ⟨o,r.plain h (plY_no o p),e⟩
  | .xd,_,_,_,.inr ⟨a,ks,ds,vs,e1,e2,e3,l,r,e4⟩,p=>by
    subst e1
    exact .inr ⟨a,ks,ds,vs,rfl,e2,e3,l,r.plain h p,e4⟩
  | .ob _ [],_,_,_,⟨p0,dx,ns,ds,vs,Bs,e1,e2,e3,e4,l,xf,n1,n2,n3,e5⟩,p=>by
    subst e1
    obtain ⟨r,eb,el⟩:=atFs_fr xf
    subst eb
    exact ⟨p0,dx,ns,ds,vs,[],rfl,e2,e3,e4,l,fr_atFs (r.plain h p) el,n1,n2,n3,e5⟩
  | .ob _ (_ :: _),_,_,_,_,p=>by cases p
  | .ll,_,_,_,_,p=>by cases p
  | .ln,_,_,_,_,p=>by cases p
def lendS (own:Bool) (t:Ty) (x y:Option D) : Option (Option D):=match own,t with
  | true,_=>some x
  | false,.fr=>some x
  | false,t=>match y with
    | none=>some none
    | some d=>if plK t d = true then some (some d) else none
theorem lendS_own {t:Ty} {x y:Option D} {d:D} (h:t ≠ .fr) (e:lendS false t x y = some (some d)) : y = some d ∧ plK t d = true:=by
  cases y with
  | none=>cases t <;> first | exact absurd rfl h | cases e
  | some d'=>
    by_cases hk:plK t d' = true
    · have q:lendS false t x (some d') = some (some d'):=by cases t <;> first | exact absurd rfl h | exact (if_pos hk:(if _ then some (some d') else none) = _)
      rw [q] at e
      cases e
      exact ⟨rfl,hk⟩
    · have q:lendS false t x (some d') = none:=by cases t <;> first | exact absurd rfl h | exact (if_neg hk:(if _ then some (some d') else none) = _)
      rw [q] at e
      cases e
def lendG:Nat → Nat → List Ty → Env → Env → Option Env
  | _,_,[],_,_=>some []
  | k,j,t :: Γ,x :: s,y :: s2=>match lendS (k == j) t x y,lendG (k + 1) j Γ s s2 with
    | some z,some r=>some (z :: r)
    | _,_=>none
  | _,_,_,_,_=>none
/-- the slots behind a lending: j as it was,fixed things as they were,own things as they are now -/
def lendB (Γ : List Ty) (j:Nat) (s s2:Env) : Option Env:=lendG 0 j Γ s s2
theorem lendG_len:∀ {Γ : List Ty} {k j:Nat} {s s2 e:Env},lendG k j Γ s s2 = some e → e.length = Γ.length
  | [],_,_,_,_,_,h=>by
    unfold lendG at h
    cases h
    rfl
  | t :: Γ,k,j,[],_,_,h=>by unfold lendG at h; cases h
  | t :: Γ,k,j,x :: s,[],_,h=>by unfold lendG at h; cases h
  | t :: Γ,k,j,x :: s,y :: s2,e,h=>by
    unfold lendG at h
    split at h
    · rename_i z r e1 e2
      cases h
      exact congrArg Nat.succ (lendG_len e2)
    · cases h
theorem lendG_at:∀ {Γ : List Ty} {k j:Nat} {s s2 e:Env},lendG k j Γ s s2 = some e → ∀ (i:Nat) (t:Ty),Γ[i]? = some t → ∃ x y z,s[i]? = some x ∧ s2[i]? = some y ∧ e[i]? = some z ∧ lendS (k + i == j) t x y = some z
  | [],_,_,_,_,_,_,i,t,h=>by simp at h
  | t :: Γ,k,j,[],_,_,h,_,_,_=>by unfold lendG at h; cases h
  | t :: Γ,k,j,x :: s,[],_,h,_,_,_=>by unfold lendG at h; cases h
  | t :: Γ,k,j,x :: s,y :: s2,e,h,i,t',ht=>by
    unfold lendG at h
    split at h
    · rename_i z r e1 e2
      cases h
      cases i with
      | zero=>
        simp at ht
        subst ht
        exact ⟨x,y,z,rfl,rfl,rfl,e1⟩
      | succ i=>
        obtain ⟨x',y',z',h1,h2,h3,h4⟩:=lendG_at e2 i t' (by simpa using ht)
        exact ⟨x',y',z',by simpa using h1,by simpa using h2,by simpa using h3,by rw [←h4]; congr 1; rw [show k + 1 + i = k + (i + 1) from by omega]⟩
    · cases h
def cutF (F:Hp) (p:Addr) : Hp:=fun a=>if a = p then none else F a
theorem cutF_same {F:Hp} {p:Addr} : cutF F p p = none:=if_pos rfl
theorem cutF_ne {F:Hp} {p a:Addr} (h:a ≠ p) : cutF F p a = F a:=if_neg h
def fpL (Γ : List Ty) (j:Nat) (p:Addr) (fp:Fp) : Fp:=fun i=>if i = j then [p] else match Γ[i]? with
  | some .fr=>[]
  | none=>[]
  | _=>fp i
theorem fpL_mem {Γ : List Ty} {j i:Nat} {p a:Addr} {fp:Fp} (h:a ∈ fpL Γ j p fp i) : (i = j ∧ a = p) ∨ (i ≠ j ∧ a ∈ fp i):=by
  unfold fpL at h
  by_cases z:i = j
  · rw [if_pos z] at h
    exact .inl ⟨z,List.mem_singleton.mp h⟩
  · rw [if_neg z] at h
    split at h
    · cases h
    · cases h
    · exact .inr ⟨z,h⟩
section
variable {n:Nat} {G:Gr n} {Γ : List Ty} {s s2 e:Env} {σ:Sl} {F F' H H':Hp} {fp fp':Fp} {j:Nat} {p:Addr} {vs:List V} {ds:List D}
theorem lend_in (R:Rel G Γ s σ F fp H) (hj:j < Γ.length) (hfr:Γ[j]? ≠ some .fr) (hp:fp j = [p]) (hH:H p = some (.lst vs)) (hσ:σ[j]? = some (some (.ref p))) (rs:Reps F ds vs) :
    Rel G (Γ.set j .fr) (s.set j (some (.lst ds))) σ (L2.upd F p (.lst vs)) (fpSet fp j []) H:=by
  have pj:p ∈ fp j:=by rw [hp]; exact List.mem_singleton.mpr rfl
  have hF:=R.nFt hj pj
  have sm:Same F (L2.upd F p (.lst vs)):=fun a u e=>by rw [upd_ne (ne_of_none e hF)]; exact e
  have hT:=R.tb.no hH
  have mks:∀ a u,L2.upd F p (.lst vs) a = some u → isMk u = true → F a = some u:=fun a u e h=>by
    by_cases z:a = p
    · subst z; rw [upd_same] at e; cases e; cases h
    · rw [upd_ne z] at e; exact e
  refine ⟨by rw [List.length_set,List.length_set]; exact R.ls,by rw [List.length_set]; exact R.lσ,fun i t d ht hs=>?_,fun i k b hi hk=>?_,fun i b hb=>?_,fun i b hb=>?_,fun a o ea=>?_,fun a ob ea=>?_,?_,fun i hi hf=>?_,fun i b hb=>?_,R.tb.fixF hT,by rw [List.length_set,List.getElem?_set_ne (Nat.ne_of_lt hj),fpSet_ne (Nat.ne_of_gt hj)]; exact R.sto.mono sm (fun a o e h=>.inl (mks a o e h)) (fun _ _ _ e=>e),fun hs a u e h=>R.nmk hs a u (mks a u e h) h⟩
  · by_cases z:i = j
    · subst z
      rw [List.getElem?_set_self hj] at ht
      rw [List.getElem?_set_self (Nat.lt_of_lt_of_le hj R.ls)] at hs
      cases ht
      cases hs
      exact ⟨.ref p,hσ,.lst upd_same (rs.mono sm),fpSet_same⟩
    · rw [List.getElem?_set_ne (Ne.symm z)] at ht hs
      obtain ⟨v,h1,h2⟩:=R.slot i t d ht hs
      exact ⟨v,h1,by rw [fpSet_ne z]; exact h2.mono sm fun _ _ _ e=>e⟩
  · rcases fpSet_mem hi with ⟨_,h1⟩ | ⟨_,h1⟩
    · cases h1
    · rcases fpSet_mem hk with ⟨_,h2⟩ | ⟨_,h2⟩
      · cases h2
      · exact R.dis i k b h1 h2
  · rcases fpSet_mem hb with ⟨_,h1⟩ | ⟨z,h1⟩
    · cases h1
    · rw [upd_ne (fun q=>by subst q; exact z (R.dis i j b h1 pj)),List.length_set]
      exact R.nF i b h1
  · rcases fpSet_mem hb with ⟨_,h1⟩ | ⟨_,h1⟩
    · cases h1
    · exact R.oh i b h1
  · by_cases z:a = p
    · subst z
      rw [upd_same] at ea
      cases ea
      refine ⟨fun _=>?_,fun q=>(by cases q),fun _ q=>(by cases q)⟩
      unfold lk
      cases zL:G.L a with
      | none=>exact hH
      | some ob=>
        obtain ⟨o',e',_⟩:=R.lkd a ob zL
        rw [hF] at e'
        cases e'
    · rw [upd_ne z] at ea
      exact R.ext a o ea
  · obtain ⟨o,e1,e2⟩:=R.lkd a ob ea
    exact ⟨o,sm a o e1,e2⟩
  · refine ⟨R.stp.f.trans sm,R.stp.keep,fun i b hb=>?_,fun a h0 e0 nn=>?_,R.stp.there,R.stp.nt,fun t=>(R.stp.tab t).fixF hT⟩
    · rcases fpSet_mem hb with ⟨_,h1⟩ | ⟨_,h1⟩
      · cases h1
      · exact R.stp.new i b h1
    · have z:a ≠ p:=fun z=>by
        subst z
        rcases R.loc j a pj with q | ⟨_,q⟩
        · exact h0.ne q
        · exact nn j q
      rw [upd_ne z]
      exact R.stp.nof a h0 e0 nn
  · by_cases z:i = j
    · subst z
      rw [List.getElem?_set_self hj] at hf
      exact absurd rfl hf
    · rw [List.getElem?_set_ne (Ne.symm z)] at hf
      exact R.par i hi hf
  · rcases fpSet_mem hb with ⟨_,h1⟩ | ⟨_,h1⟩
    · cases h1
    · rw [List.length_set]; exact R.loc i b h1
theorem lend_out (R:Rel G Γ s σ F fp H) (hfr:Γ[j]? ≠ some .fr) (hj:j < Γ.length) (hp:fp j = [p]) (hH:H p = some (.lst vs)) (R1:Rel G (Γ.set j .fr) s2 σ F' fp' H') (x:Stp L0 (L2.upd F p (.lst vs)) (fpSet fp j []) H F' fp' H') (hb:lendB Γ j s s2 = some e) :
    (Rel G Γ e σ (cutF F' p) (fpL Γ j p fp') H' ∧ Stp L0 F fp H (cutF F' p) (fpL Γ j p fp') H') ∧ F' p = some (.lst vs) ∧ ∀ a xs,F' a = some (.tup xs) → cutF F' p a = some (.tup xs):=by
  have pj:p ∈ fp j:=by rw [hp]; exact List.mem_singleton.mpr rfl
  have hF:=R.nFt hj pj
  have sm:Same F (L2.upd F p (.lst vs)):=fun a u e=>by rw [upd_ne (ne_of_none e hF)]; exact e
  have hT:=R.tb.no hH
  have fP:F' p = some (.lst vs):=x.f p _ upd_same
  have nfp:∀ i,p ∉ fpSet fp j [] i:=fun i hi=>by
    rcases fpSet_mem hi with ⟨_,h1⟩ | ⟨z,h1⟩
    · cases h1
    · exact z (R.dis i j p h1 pj)
  have hP:H' p = some (.lst vs):=x.keep p _ hH hT nfp
  have np:∀ i,p ∉ fp' i:=fun i hi=>by
    have:=(R1.nFm hi fP).2.1
    cases this
  have smc:Same F (cutF F' p):=fun a o ea=>by
    rw [cutF_ne (ne_of_none ea hF)]
    exact x.f a o (sm a o ea)
  have ftup:∀ a xs,F' a = some (.tup xs) → cutF F' p a = some (.tup xs):=fun a xs ea=>by
    rw [cutF_ne (fun z=>by rw [z,fP] at ea; cases ea)]
    exact ea
  have st:Stp L0 F fp H (cutF F' p) (fpL Γ j p fp') H':=by
    refine ⟨smc,fun a o ea hz ha=>x.keep a o ea hz fun i hi=>?_,fun i a hi=>?_,fun a h0 e0 nn=>?_,x.there,x.nt,fun t=>?_⟩
    · rcases fpSet_mem hi with ⟨_,h1⟩ | ⟨_,h1⟩
      · cases h1
      · exact ha i h1
    · rcases fpL_mem hi with ⟨_,h1⟩ | ⟨_,h1⟩
      · exact .inl ⟨j,by rw [h1]; exact pj⟩
      · rcases x.new i a h1 with ⟨k,hk⟩ | z
        · rcases fpSet_mem hk with ⟨_,h2⟩ | ⟨_,h2⟩
          · cases h2
          · exact .inl ⟨k,h2⟩
        · exact .inr z
    · by_cases z:a = p
      · rw [z]; exact cutF_same
      · rw [cutF_ne z]
        refine x.nof a h0 (by rw [upd_ne z]; exact e0) fun i hi=>?_
        rcases fpSet_mem hi with ⟨_,h1⟩ | ⟨_,h1⟩
        · cases h1
        · exact nn i h1
    · have t2:=x.tab (t.fixF hT)
      refine ⟨t2.1,fun q hq=>?_⟩
      unfold cutF
      split
      · rfl
      · exact t2.2 q hq
  refine ⟨⟨⟨Nat.le_of_eq (lendG_len hb).symm,R.lσ,fun i t d ht hs=>?_,fun i k b hi hk=>?_,fun i b hb=>?_,fun i b hb=>?_,fun a o ea=>?_,fun a ob ea=>?_,R.stp.trans st,R.par,fun i b hb=>?_,st.tab R.tb,?_,fun hs a o ea hm=>R1.nmk hs a o (by rw [cutF_ne (fun z=>by rw [z,cutF_same] at ea; cases ea)] at ea; exact ea) hm⟩,st⟩,fP,ftup⟩
  · obtain ⟨x0,y0,z0,h1,h2,h3,h4⟩:=lendG_at hb i t ht
    rw [hs] at h3
    cases h3
    rw [Nat.zero_add] at h4
    by_cases z:i = j
    · subst z
      rw [beq_self_eq_true] at h4
      cases h4
      obtain ⟨v,k1,k2⟩:=R.slot i t d ht h1
      refine ⟨v,k1,?_⟩
      have ef:fpL Γ i p fp' i = fp i:=by rw [hp]; exact if_pos rfl
      rw [ef]
      refine k2.mono smc fun a ha o ea=>?_
      rw [hp] at ha
      rw [List.mem_singleton.mp ha] at ea ⊢
      rw [hH] at ea
      cases ea
      exact hP
    · have zb:(i == j) = false:=beq_eq_false_iff_ne.mpr z
      rw [zb] at h4
      have ht1:(Γ.set j .fr)[i]? = some t:=by rw [List.getElem?_set_ne (Ne.symm z)]; exact ht
      by_cases hfr2:t = .fr
      · subst hfr2
        cases h4
        obtain ⟨v,k1,k2,k3⟩:=R.slot i _ d ht h1
        refine ⟨v,k1,k2.mono smc,?_⟩
        unfold fpL
        rw [if_neg z,ht]
      · have ef:fpL Γ j p fp' i = fp' i:=by
          unfold fpL
          rw [if_neg z,ht]
          cases t <;> first | rfl | exact absurd rfl hfr2
        obtain ⟨h5,hk⟩:=lendS_own hfr2 h4
        subst h5
        obtain ⟨v,k1,k2⟩:=R1.slot i t d ht1 h2
        exact ⟨v,k1,by rw [ef]; exact k2.plain ftup hk⟩
  · rcases fpL_mem hi with ⟨z1,h1⟩ | ⟨z1,h1⟩
    · rcases fpL_mem hk with ⟨z2,h2⟩ | ⟨z2,h2⟩
      · rw [z1,z2]
      · exact absurd (h1 ▸ h2) (np k)
    · rcases fpL_mem hk with ⟨z2,h2⟩ | ⟨z2,h2⟩
      · exact absurd (h2 ▸ h1) (np i)
      · exact R1.dis i k b h1 h2
  · rcases fpL_mem hb with ⟨_,h1⟩ | ⟨_,h1⟩
    · rw [h1]; exact .inl cutF_same
    · have:=R1.nF i b h1
      rw [List.length_set] at this
      refine this.imp_left fun this=>?_
      unfold cutF
      split
      · rfl
      · exact this
  · rcases fpL_mem hb with ⟨_,h1⟩ | ⟨_,h1⟩
    · rw [h1]; exact ⟨_,hP,rfl⟩
    · exact R1.oh i b h1
  · by_cases z:a = p
    · rw [z,cutF_same] at ea; cases ea
    · rw [cutF_ne z] at ea
      exact R1.ext a o ea
  · obtain ⟨o,e1,e2⟩:=R1.lkd a ob ea
    refine ⟨o,?_,e2⟩
    rw [cutF_ne (fun z=>by rw [z,fP] at e1; cases e1; cases e2)]
    exact e1
  · rcases fpL_mem hb with ⟨z1,h1⟩ | ⟨_,h1⟩
    · rw [z1,h1]; exact R.loc j p pj
    · have:=R1.loc i b h1
      rw [List.length_set] at this
      exact this
  · have e1:e[Γ.length]? = none:=List.getElem?_eq_none (Nat.le_of_eq (lendG_len hb))
    have e2:fpL Γ j p fp' Γ.length = []:=by
      unfold fpL
      rw [if_neg (Nat.ne_of_gt hj),List.getElem?_eq_none (Nat.le_refl _)]
    rw [e1,e2]
    exact rfl
/-- the list that slot j holds -/
def lentL (t:Ty) : Option (Option D) → Option (List D)
  | some (some (.lst ds))=>if t = .ol then some ds else none
  | some (some (.obj c [] ds))=>if t = .xl ∧ c = "" then some ds else none
  | _=>none
theorem lentL_at {t:Ty} (R:Rel G Γ s σ F fp H) (ht:Γ[j]? = some t) (h:lentL t s[j]? = some ds) : ∃ p vs,fp j = [p] ∧ H p = some (.lst vs) ∧ σ[j]? = some (some (.ref p)) ∧ Reps F ds vs:=by
  unfold lentL at h
  split at h
  · rename_i ds' es
    by_cases z:t = .ol
    · rw [if_pos z] at h
      cases h
      subst z
      obtain ⟨v,hv,p,ds2,vs,e1,e2,e3,r,e4⟩:=R.slot j _ _ ht es
      cases e1
      subst e2
      exact ⟨p,vs,e4,e3,hv,r⟩
    · rw [if_neg z] at h; cases h
  · rename_i c ds' es
    by_cases z:t = .xl ∧ c = ""
    · rw [if_pos z] at h
      cases h
      obtain ⟨z1,z2⟩:=z
      subst z1
      obtain ⟨v,hv,a⟩:=R.slot j _ _ ht es
      rcases a with ⟨o,_⟩ | ⟨p,ds2,vs,e1,e2,e3,r,e4⟩
      · cases o
      · cases e1
        subst e2
        exact ⟨p,vs,e4,e3,hv,r⟩
    · rw [if_neg z] at h; cases h
  · cases h
/-- what comes out of a lending -/
def lendR (Γ : List Ty) (j:Nat) (t:Ty) (s:Env) : R D → R D
  | .ok d s2=>match lendB Γ j s s2 with
    | some e=>if plK t d = true then .ok d e else .stuck
    | none=>.stuck
  | .err er s2=>match lendB Γ j s s2 with
    | some e=>if plDs er.vs = true then .err er e else .stuck
    | none=>.stuck
  | .stuck=>.stuck
def mLend (Γ : List Ty) (j:Nat) (tj t:Ty) (m:M) : M:=fun s=>match lentL tj s[j]? with
  | some ds=>lendR Γ j t s (m (s.set j (some (.lst ds))))
  | none=>.stuck
theorem ErrAt.plain {K:PySem.W.Frag} {F2:Hp} {er:Err} {cls:Value} {od:Option Addr} (h:ErrAt K F' er cls od) (fP:F' p = some (.lst vs)) (hpl:plDs er.vs = true) : ErrAt K (cutF F' p) er cls od:=by
  obtain ⟨h1,h2⟩:=h
  refine ⟨h1,?_⟩
  rcases h2 with h2 | ⟨d,ws,a1,a2,a3,a4,a5⟩
  · exact .inl h2
  · refine .inr ⟨d,ws,a1,a2,?_,a4,a5.plain (fun a xs ea=>?_) hpl⟩
    · rw [cutF_ne (fun z=>by rw [z,fP] at a3; cases a3)]; exact a3
    · rw [cutF_ne (fun z=>by rw [z,fP] at ea; cases ea)]; exact ea
theorem me_lend {X:Cx} {W:WX} {ex:Expr} {tj t:Ty} {m:M} (h:ME X G W (Γ.set j .fr) ex t m) (ht:Γ[j]? = some tj) (hfr:tj ≠ .fr:=by decide) : ME X G W Γ ex t (mLend Γ j tj t m):=peI h fun σ H Q ⟨s,F,fp,R,q⟩=>by
  unfold mLend at q
  split at q
  · rename_i ds el
    have hj:j < Γ.length:=(List.getElem?_eq_some_iff.mp ht).1
    have hf2:Γ[j]? ≠ some .fr:=by rw [ht]; exact fun z=>hfr (Option.some.inj z)
    obtain ⟨p,vs,hp,hH,hσ,rs⟩:=lentL_at R ht el
    refine ⟨_,_,_,lend_in R hj hf2 hp hH hσ rs,?_⟩
    cases em:m (s.set j (some (.lst ds))) with
    | stuck=>rw [em] at q; exact q.elim
    | ok d s2=>
      rw [em] at q
      unfold lendR at q
      simp only [] at q
      cases eb:lendB Γ j s s2 with
      | none=>rw [eb] at q; exact q.elim
      | some e=>
        rw [eb] at q
        simp only [] at q
        by_cases hk:plK t d = true
        · rw [if_pos hk] at q
          intro v F' fp' H' R1 x ⟨B,aB,tq⟩
          obtain ⟨⟨R2,x2⟩,fP,ftup⟩:=lend_out R hf2 hj hp hH R1 x eb
          refine q v _ _ H' R2 x2 ⟨B,aB.plain ftup hk,fun a ha=>?_⟩
          obtain ⟨t1,t2,t3,t4⟩:=tq a ha
          refine ⟨?_,fun i hi=>?_,t3,?_⟩
          · unfold cutF
            split
            · rfl
            · exact t1
          · rcases fpL_mem hi with ⟨_,h1⟩ | ⟨_,h1⟩
            · rw [h1,fP] at t1; cases t1
            · exact t2 i h1
          · rcases t4 with ⟨i,hi⟩ | z
            · rcases fpSet_mem hi with ⟨_,h1⟩ | ⟨_,h1⟩
              · cases h1
              · exact .inl ⟨i,h1⟩
            · exact .inr z
        · rw [if_neg hk] at q; exact q.elim
    | err er s2=>
      rw [em] at q
      unfold lendR at q
      simp only [] at q
      cases eb:lendB Γ j s s2 with
      | none=>rw [eb] at q; exact q.elim
      | some e=>
        rw [eb] at q
        simp only [] at q
        by_cases hk:plDs er.vs = true
        · rw [if_pos hk] at q
          intro cls od F' fp' H' R1 x he
          obtain ⟨⟨R2,x2⟩,fP,ftup⟩:=lend_out R hf2 hj hp hH R1 x eb
          exact q cls od _ _ H' R2 x2 (he.plain (F2:=F') fP hk)
        · rw [if_neg hk] at q; exact q.elim
  · exact q.elim
theorem mLend_is {Γ : List Ty} {j:Nat} {tj t:Ty} {m:M} {s s2 e:Env} {ds:List D} {d:D} (h1:lentL tj s[j]? = some ds) (h2:m (s.set j (some (.lst ds))) = .ok d s2) (h3:lendB Γ j s s2 = some e) (h4:plK t d = true) : mLend Γ j tj t m s = .ok d e:=by
  unfold mLend
  rw [h1]
  simp only []
  rw [h2]
  unfold lendR
  simp only []
  rw [h3]
  simp only []
  rw [if_pos h4]
end
theorem VV.one {x y:V} : ∀ {ws:List (Value × Value)},VV [(x,y)] ws → ∃ u r,ws = [(u,r)] ∧ RelV x u ∧ RelV y r
  | _,.cons (b:=b) h t=>by
    cases t
    exact ⟨b.1,b.2,rfl,h.1,h.2⟩
section
variable {X:Cx} {n:Nat} {G:Gr n} {W:WX} {Γ : List Ty} {rt:Ty}
def sRevX (i:Nat) : MS:=fun s=>match s[i]? with
  | some (some (.obj _ [] ds))=>.nx (s.set i (some (ownL ds.reverse)))
  | _=>.stuck
theorem ms_revX {e:Expr} {i:Nat} {pos:Pos} (h:PE X e (tBM0 X.K "list" rReverse (tVar i))) (ht:Γ[i]? = some .xl) (hs:swapsWith e none pos.line X.env = pure false:=by rfl) : MSt X G W Γ rt (.Expr e pos) (sRevX i):=
  psI (ps_expr h hs) fun Dn σ H ⟨s,F,fp,R,q⟩=>by
    unfold sRevX at q
    split at q
    · rename_i c0 ds0 e0
      obtain ⟨p0,vs0,hv,e3,rs,e4⟩:=R.slotX ht e0
      refine ⟨.ref p0,hv,.inl ⟨rfl,vs0,.of e3⟩,p0,vs0,rfl,rfl,e3,?_⟩
      obtain ⟨R3,x3⟩:=R.ownX ht e4 hv rs.rev
      exact q _ _ _ _ R3 x3
    · exact q.elim
end
end Bk
namespace PySem
namespace HandSPX
end HandSPX
end PySem
namespace Bk
open PySem PySem.Spec PyProof.Rows L2
end Bk
namespace Bk
open PySem PySem.Spec PyProof.Rows L2
variable [Cls]
def compME (g:MG) (c:MB) (e:M) (vs:List Nat) : List D → Env → List D → R (List D)
  | [],s,acc=>.ok acc s
  | d :: ds,s,acc=>match g d s with
    | none=>.stuck
    | some s1=>(c s1).noerr.bind fun b s2=>if b = true then (e s2).bind fun z s3=>if acc.length < 16000000 then compME g c e vs ds (swipe s3 vs) (acc ++ [z]) else .stuck else compME g c e vs ds (swipe s2 vs) acc
def endME (s1:Env) (vs:List Nat) : R (List D) → R D
  | .ok zs s2=>.ok (.lst zs) (srest s1 s2 vs)
  | .err er s2=>.err er (srest s1 (swipe s2 vs) vs)
  | .stuck=>.stuck
def mCompE (mi:MA) (g:MG) (c:MB) (e:M) (vs:List Nat) : M:=fun s=>(mi s).bind fun ds s1=>endME s1 vs (compME g c e vs ds (swipe s1 vs) [])
section
variable {X:Cx} {n:Nat} {G:Gr n} {W:WX} {Γ : List Ty}
theorem compME_of {g:MG} {c:MB} {e:M} {vs:List Nat} : ∀ {ds:List D} {s:Env} {acc:List D} {zs:List D} {s2:Env},compM g c e vs ds s acc = .ok zs s2 → compME g c e vs ds s acc = .ok zs s2
  | [],_,_,_,_,h=>h
  | d :: ds,s,acc,zs,s2,h=>by
    unfold compM at h
    unfold compME
    cases eg:g d s with
    | none=>rw [eg] at h; cases h
    | some s1=>
      rw [eg] at h
      simp only [] at h ⊢
      cases ec:c s1 with
      | stuck=>rw [ec] at h; cases h
      | err _ _=>rw [ec] at h; cases h
      | ok b s3=>
        rw [ec,Bk.R.bind_ok] at h
        rw [R.noerr_ok,Bk.R.bind_ok]
        cases b with
        | false=>
          rw [if_neg Bool.false_ne_true] at h ⊢
          exact compME_of h
        | true=>
          rw [if_pos rfl] at h ⊢
          cases ee:e s3 with
          | stuck=>rw [ee] at h; cases h
          | err _ _=>rw [ee] at h; cases h
          | ok z s4=>
            rw [ee,Bk.R.bind_ok] at h
            rw [Bk.R.bind_ok]
            by_cases q:acc.length < 16000000
            · rw [if_pos q] at h ⊢
              exact compME_of h
            · rw [if_neg q] at h; cases h
theorem compE_of {mi:MA} {g:MG} {c:MB} {e:M} {vs:List Nat} {s s2:Env} {d:D} (h:mComp mi g c e vs s = .ok d s2) : mCompE mi g c e vs s = .ok d s2:=by
  unfold mComp at h
  unfold mCompE
  cases em:mi s with
  | stuck=>rw [em] at h; cases h
  | err _ _=>rw [em] at h; cases h
  | ok ds s1=>
    rw [em,Bk.R.bind_ok] at h
    rw [Bk.R.bind_ok]
    cases ec:compM g c e vs ds (swipe s1 vs) [] with
    | stuck=>rw [ec] at h; cases h
    | err _ _=>rw [ec] at h; cases h
    | ok zs s3=>
      rw [ec] at h
      rw [compME_of ec]
      exact h
end
end Bk
namespace Bk
open PySem PySem.Spec PyProof.Rows L2
end Bk
namespace Bk
open PySem PySem.Spec PyProof.Rows L2
variable [Cls]
def PostFS (K:PySem.W.Frag) (L:Lk) (ts:List Ty) (rt:Ty) (vs:List V) (F:Hp) (fp:Fp) (H:Hp) (Q:VK) (E:XK) : R D → Prop
  | .ok r e=>∀ v F' fp' H' B,PstS L ts true vs e F fp H F' fp' H' → At F' H' rt r v B → (∀ a ∈ B,F' a = none ∧ (∀ i,a ∉ fp' i) ∧ H a = none) → Q v H'
  | .err er e=>∀ cls od F' fp' H',PstS L ts true vs e F fp H F' fp' H' → ErrAt K F' er cls od → E cls od H'
  | .stuck=>False
def spS (K:PySem.W.Frag) (ts:List Ty) (rt:Ty) (f:List D → R D) : Sp:=fun vs H Q E=>∃ ds S F fp L,PreS L ts ds (some S) vs F fp H ∧ PostFS K L ts rt vs F fp H Q E (f (ds ++ [S]))
section
variable {n:Nat} {G:Gr n} {Γ : List Ty} {s:Env} {σ:Sl} {F H:Hp} {fp:Fp}
/-- what a cell holds,lent or not -/
def unl:D → D
  | .tup [c,.bl true]=>c
  | c=>c
end
/-- at a stands one mark of i instead of another one -/
structure ReM (F F2:Hp) (a:Addr) (i:Nat) : Prop where
  ne:∀ b,b ≠ a → F2 b = F b
  o1:F a = some (mkP i) ∨ ∃ ob w,F a = some (mkL i ob w)
  o2:F2 a = some (mkP i) ∨ ∃ ob w,F2 a = some (mkL i ob w)
theorem ReM.go {F F2:Hp} {a:Addr} {i:Nat} (x:ReM F F2 a i) {b:Addr} {o:HO} (e:F b = some o) (h:isMk o = false) : F2 b = some o:=by
  by_cases z:b = a
  · subst z
    rcases x.o1 with q | ⟨_,_,q⟩ <;> rw [e] at q <;> cases q <;> cases h
  · rw [x.ne b z]; exact e
mutual
theorem ReM.rep {F F2:Hp} {a:Addr} {i:Nat} (x:ReM F F2 a i) : ∀ {d:D} {v:V},Rep F d v → Rep F2 d v
  | _,_,.non=>.non
  | _,_,.bl b=>.bl b
  | _,_,.int i=>.int i
  | _,_,.str x=>.str x
  | _,_,.tup e r=>.tup (x.go e rfl) (ReM.reps x r)
  | _,_,.lst e r=>.lst (x.go e rfl) (ReM.reps x r)
  | _,_,.dct e l r=>.dct (x.go e rfl) l (ReM.reps x r)
  | _,_,.obj e l r=>.obj (x.go e rfl) l (ReM.reps x r)
  | _,_,.emp e=>.emp e
  | _,_,.rcd e l r=>.rcd (x.go e rfl) l (ReM.reps x r)
  | _,_,@Rep.ptr _ _ k b e=>by
    by_cases z:b = a
    · subst z
      have hk:k = i:=by
        rcases x.o1 with q | ⟨_,_,q⟩
        · rw [e] at q; exact mkP_inj (Option.some.inj q)
        · rw [e] at q; exact absurd (Option.some.inj q).symm mkL_ne
      subst hk
      rcases x.o2 with q | ⟨_,_,q⟩
      · exact .ptr q
      · exact .ptrL q
    · exact .ptr (by rw [x.ne b z]; exact e)
  | _,_,@Rep.ptrL _ _ k b ob w e=>by
    by_cases z:b = a
    · subst z
      have hk:k = i:=by
        rcases x.o1 with q | ⟨_,_,q⟩
        · rw [e] at q; exact absurd (Option.some.inj q) mkL_ne
        · rw [e] at q; exact (mkL_inj (Option.some.inj q)).1
      subst hk
      rcases x.o2 with q | ⟨_,_,q⟩
      · exact .ptr q
      · exact .ptrL q
    · exact .ptrL (by rw [x.ne b z]; exact e)
theorem ReM.reps {F F2:Hp} {a:Addr} {i:Nat} (x:ReM F F2 a i) : ∀ {ds:List D} {vs:List V},Reps F ds vs → Reps F2 ds vs
  | _,_,.nil=>.nil
  | _,_,.cons r t=>.cons (ReM.rep x r) (ReM.reps x t)
end
theorem ReM.atK {F F2 H H2:Hp} {a:Addr} {i:Nat} (x:ReM F F2 a i) : ∀ {t:Kd} {d:D} {v:V} {B:List Addr},AtK F H t d v B → (∀ b ∈ B,∀ o,H b = some o → H2 b = some o) → AtK F2 H2 t d v B
  | .fr,_,_,_,⟨r,e⟩,_=>⟨x.rep r,e⟩
  | .ol,_,_,_,⟨p,⟨ds,vs,e1,e2,e3,r⟩,e⟩,q=>⟨p,⟨ds,vs,e1,e2,q p (by rw [e]; exact List.mem_singleton.mpr rfl) _ e3,x.reps r⟩,e⟩
  | .od,_,_,_,⟨p,⟨ks,ds,vs,e1,e2,e3,l,r⟩,e⟩,q=>⟨p,⟨ks,ds,vs,e1,e2,q p (by rw [e]; exact List.mem_singleton.mpr rfl) _ e3,l,x.reps r⟩,e⟩
theorem ReM.atFs {F F2 H H2:Hp} {a:Addr} {i:Nat} (x:ReM F F2 a i) {ks:List (Str × Kd)} {ns:List Str} {ds:List D} {vs:List V} {B:List Addr} (y:AtFs F H ks ns ds vs B) : (∀ b ∈ B,∀ o,H b = some o → H2 b = some o) → AtFs F2 H2 ks ns ds vs B:=by
  induction y with
  | nil=>exact fun _=>.nil
  | cons a t n ih=>exact fun k=>.cons (x.atK a fun b hb=>k b (List.mem_append_left _ hb)) (ih fun b hb=>k b (List.mem_append_right _ hb)) n
theorem ReM.atLs {F F2 H H2:Hp} {a:Addr} {i:Nat} (x:ReM F F2 a i) {ds:List D} {vs:List V} {B:List Addr} (y:AtLs F H ds vs B) : (∀ b ∈ B,∀ o,H b = some o → H2 b = some o) → AtLs F2 H2 ds vs B:=by
  induction y with
  | nil=>exact fun _=>.nil
  | cons a t n ih=>
    obtain ⟨ds,vs,e1,e2,e3,r⟩:=a
    exact fun k=>.cons ⟨ds,vs,e1,e2,k _ List.mem_cons_self _ e3,x.reps r⟩ (ih fun b hb=>k b (List.mem_cons_of_mem _ hb)) n
theorem ReM.at_ {F F2 H H2:Hp} {a:Addr} {i:Nat} (x:ReM F F2 a i) : ∀ {t:Ty} {d:D} {v:V} {B:List Addr},At F H t d v B → (∀ b ∈ B,∀ o,H b = some o → H2 b = some o) → At F2 H2 t d v B
  | .fr,_,_,_,⟨r,e⟩,_=>⟨x.rep r,e⟩
  | .ln,_,_,_,⟨r,e⟩,_=>⟨x.rep r,e⟩
  | .ol,_,_,_,⟨p,ds,vs,e1,e2,e3,r,e4⟩,k=>⟨p,ds,vs,e1,e2,k p (by rw [e4]; exact List.mem_singleton.mpr rfl) _ e3,x.reps r,e4⟩
  | .od,_,_,_,⟨p,ks,ds,vs,e1,e2,e3,l,r,e4⟩,k=>⟨p,ks,ds,vs,e1,e2,k p (by rw [e4]; exact List.mem_singleton.mpr rfl) _ e3,l,x.reps r,e4⟩
  | .bag,_,_,_,⟨b,c,ns,k,z,e1,e2,e3,e4,l,e5⟩,q=>⟨b,c,ns,k,z,e1,e2,q b (by rw [e5]; simp) _ e3,q c (by rw [e5]; simp) _ e4,l,e5⟩
  | .ob c ks,_,_,_,⟨p,dx,ns,ds,vs,Bs,e1,e2,e3,e4,l,y,n1,n2,n3,e5⟩,q=>⟨p,dx,ns,ds,vs,Bs,e1,e2,q p (by rw [e5]; simp) _ e3,q dx (by rw [e5]; simp) _ e4,l,x.atFs y fun a ha=>q a (by rw [e5]; simp [ha]),n1,n2,n3,e5⟩
  | .ll,_,_,_,⟨p,ds,vs,Bs,e1,e2,e3,y,n1,e5⟩,q=>⟨p,ds,vs,Bs,e1,e2,q p (by rw [e5]; simp) _ e3,x.atLs y fun a ha=>q a (by rw [e5]; simp [ha]),n1,e5⟩
  | .xl,_,_,_,.inl ⟨o,r,e⟩,_=>.inl ⟨o,x.rep r,e⟩
  | .xl,_,_,_,.inr ⟨p,ds,vs,e1,e2,e3,r,e4⟩,k=>.inr ⟨p,ds,vs,e1,e2,k p (by rw [e4]; exact List.mem_singleton.mpr rfl) _ e3,x.reps r,e4⟩
  | .xd,_,_,_,.inl ⟨o,r,e⟩,_=>.inl ⟨o,x.rep r,e⟩
  | .xd,_,_,_,.inr ⟨p,ks,ds,vs,e1,e2,e3,l,r,e4⟩,k=>.inr ⟨p,ks,ds,vs,e1,e2,k p (by rw [e4]; exact List.mem_singleton.mpr rfl) _ e3,l,x.reps r,e4⟩
section
variable {X:Cx} {n:Nat} {G:Gr n} {W:WX} {Γ : List Ty} {rt:Ty} {pos pos' p1:Pos} {e a b o:Expr} {m ma mb mo:M}
theorem ReM.err {K:PySem.W.Frag} {F F2:Hp} {a:Addr} {i:Nat} (x:ReM F F2 a i) {er:Err} {cls:Value} {od:Option Addr} (h:ErrAt K F er cls od) : ErrAt K F2 er cls od:=by
  obtain ⟨h1,h2⟩:=h
  refine ⟨h1,h2.imp id ?_⟩
  rintro ⟨d,ws,n1,n2,n3,n4,n5⟩
  exact ⟨d,ws,n1,n2,x.go n3 rfl,n4,x.reps n5⟩
end
mutual
/-- no dict,instance,pointer in it -/
def ndD:D → Bool
  | .non=>true
  | .bl _=>true
  | .int _=>true
  | .str _=>true
  | .tup ds=>ndDs ds
  | .lst ds=>ndDs ds
  | _=>false
def ndDs:List D → Bool
  | []=>true
  | d :: ds=>ndD d && ndDs ds
end
mutual
theorem Rep.nd {F F2:Hp} (h:∀ a xs,F a = some (.tup xs) → F2 a = some (.tup xs)) (h2:∀ a xs,F a = some (.lst xs) → F2 a = some (.lst xs)) : ∀ {d:D} {v:V},Rep F d v → ndD d = true → Rep F2 d v
  | _,_,.non,_=>.non
  | _,_,.bl b,_=>.bl b
  | _,_,.int i,_=>.int i
  | _,_,.str x,_=>.str x
  | _,_,.tup e r,p=>.tup (h _ _ e) (Reps.nd h h2 r p)
  | _,_,.lst e r,p=>.lst (h2 _ _ e) (Reps.nd h h2 r p)
  | _,_,.dct _ _ _,p=>by cases p
  | _,_,.obj _ _ _,p=>by cases p
  | _,_,.emp _,p=>by cases p
  | _,_,.rcd _ _ _,p=>by cases p
  | _,_,.ptr _,p=>by cases p
  | _,_,.ptrL _,p=>by cases p
theorem Reps.nd {F F2:Hp} (h:∀ a xs,F a = some (.tup xs) → F2 a = some (.tup xs)) (h2:∀ a xs,F a = some (.lst xs) → F2 a = some (.lst xs)) : ∀ {ds:List D} {vs:List V},Reps F ds vs → ndDs ds = true → Reps F2 ds vs
  | _,_,.nil,_=>.nil
  | _,_,.cons r t,p=>.cons (Rep.nd h h2 r (Bool.and_eq_true_iff.mp p).1) (Reps.nd h h2 t (Bool.and_eq_true_iff.mp p).2)
end
/-- .. and afterwards -/
def Fb (F F':Hp) : Hp:=fun b=>match F b with
  | some o=>some o
  | none=>F' b
structure CalSt (P:Program) (w:World) (K:PySem.W.Frag) (mg:Str → Option Value) (base:Heap) (k:Nat) (x:Str) (ts:List Ty) (t:Ty) (f:List D → R D) (dvs:List V) : Prop where
  ex:∃ (a:Addr) (fd:FuncData) (ps:List Str) (ds:List Value),FnOk P w K mg base (L2.CX P w) k a fd ps (spS K ts t f) ∧ mg x = some (.ref a) ∧ PySem.W.keepIn K (.ref a) = true ∧ Binds K fd ps ds ∧ Vals dvs ds
theorem CalSt.of {P:Program} {w:World} {K:PySem.W.Frag} {mg:Str → Option Value} {base:Heap} {k:Nat} {x qual:Str} {params:Arguments} {body:List Stmt} {scope:Scope} {a:Addr} {fd:FuncData} {ps:List Str} {ts:List Ty} {t:Ty} {f:List D → R D}
    (F:FunD K x qual params body scope [] [] a fd) (h:FnOk P w K mg base (L2.CX P w) k a fd ps (spS K ts t f)) (hm:mg x = some (.ref a))
    (hb:∀ (kV doc pm:Value) (an:Option Addr) (cdv ct:Value) (us:List Value),us.length = ps.length → bindArgs (PySem.W.fnOf x qual params body scope .none kV doc pm an cdv ct) ⟨us,[]⟩ = pure (ps.zip us)) : CalSt P w K mg base k x ts t f []:=
  ⟨a,fd,ps,[],h,hm,F.kp,F.bindsN hb,.nil⟩
end Bk
namespace Bk
open PySem PySem.Spec PyProof.Rows L2
end Bk
namespace Bk
open PySem PySem.Spec PyProof.Rows L2
variable [Cls]
def lsP (a:Int × Int) : List Int:=[a.1,a.2]
end Bk
namespace PySem
open Sem (wp)
theorem F.args_sum2 (a b:Value) : argsOk "sum" ⟨[a,b],[]⟩:=by unfold argsOk; kernel_rfl
section
variable {prog:Program} {w:World} {A:Around} {R:Result → Shared → Prop}
theorem codeAny_sum_lists (hh:A.handled = none) {I S L:Addr} {items:Array Value} (hIL:L ≠ I) (hSL:S ≠ L) (hSI:S ≠ I) :
    ∀ (k i:Nat) (s:Shared) (cur:Addr) (n:Nat) (acc:Array Value) (c:Nat) (us:List (Array Value)),items.size - i = k → i ≤ items.size → s.heap.IsListIter I L i → s.heap.IsList L items →
      s.heap.get? S = some { cls:=.type "list",dict:=none,data:=.seq #[.ref cur] c,slots:=#[] } →
      IsL s.heap cur acc n → cur ≠ I → cur ≠ S →
      us.length = items.size - i → (∀ j u,us[j]? = some u → ∃ p m,items[i + j]? = some (.ref p) ∧ IsL s.heap p u m ∧ p ≠ I ∧ p ≠ S) →
      acc.size + (us.map Array.size).sum ≤ sizeLine →
      (∀ h' tk cur' m,(∀ b o,b ∉ [S,I] → s.heap.get? b = some o → h'.get? b = some o) → IsL h' cur' (us.foldl (· ++ ·) acc) m → (cur' = cur ∧ us = [] ∨ I < cur') → R (.ok (.ret (.ref cur'))) { s with heap:=h',toks:=tk }) →
      codeAny (model prog w) A (.builtin "sum.loop" ⟨[.ref I,.ref S,rawInt 2,rawInt 0],[]⟩) R s:=by
  intro k
  induction k with
  | zero=>
    intro i s cur n acc c us hk hi hI hL hS hc h1 h2 hl hu hz hR
    have hin:i = items.size:=by omega
    subst hin
    have hn:us = []:=List.length_eq_zero_iff.mp (by omega)
    subst hn
    refine codeAny_builtin F.entry_sum_loop ?_
    rw [Around.under_plainId F.plain_sum_loop _]
    show wpAny _ A.in1 (seqItems? (.ref S) >>= _) _ _ s
    refine wpAny_bind (wpAny_seqItems hS rfl ?_)
    show wpAny _ A.in1 (tryCatch (pyNext (.ref I)) _ >>= _) _ _ s
    refine wpAny_bind (wpAny_tryCatch ((Walks.list (prog:=prog) (w:=w) (A:=A.in1) hh I L hIL items).done s _ _ ⟨hI,hL⟩ fun h' tk' hm=>?_))
    refine wpAny_pure (hR h' tk' cur n (fun b o hb e=>hm b o (fun z=>hb (List.mem_cons_of_mem _ z)) e) ?_ (.inl ⟨rfl,rfl⟩))
    exact hm _ _ (by simpa using h1) hc
  | succ k ih=>
    intro i s cur n acc c us hk hi hI hL hS hc h1 h2 hl hu hz hR
    have hlt:i < items.size:=by omega
    obtain ⟨u,us,rfl⟩ : ∃ u us',us = u :: us':=by
      cases us with
      | nil=>rw [List.length_nil] at hl; omega
      | cons u us=>exact ⟨u,us,rfl⟩
    obtain ⟨p,m,hp,hpl,hp1,hp2⟩:=hu 0 u rfl
    rw [List.map_cons,List.sum_cons] at hz
    refine codeAny_builtin F.entry_sum_loop ?_
    rw [Around.under_plainId F.plain_sum_loop _]
    show wpAny _ A.in1 (seqItems? (.ref S) >>= _) _ _ s
    refine wpAny_bind (wpAny_seqItems hS rfl ?_)
    show wpAny _ A.in1 (tryCatch (pyNext (.ref I)) _ >>= _) _ _ s
    refine wpAny_bind (wpAny_tryCatch ((Walks.list (prog:=prog) (w:=w) (A:=A.in1) hh I L hIL items).item i s _ _ hlt ⟨hI,hL⟩ fun v h' tk' hv hst hm=>?_))
    obtain rfl:v = .ref p:=by
      have hv':items[i]? = some v:=hv
      rw [Nat.add_zero] at hp
      rw [hp] at hv'
      exact (Option.some.inj hv').symm
    have km:∀ b o,b ≠ I → s.heap.get? b = some o → h'.get? b = some o:=fun b o hb e=>hm b o (by simpa using hb) e
    show wpAny _ A.in1 ((holding [Value.ref p] (binaryOp .Add (.ref cur) (.ref p))).attempt >>= _) _ _ _
    refine wpAny_bind (wpAny_attempt (wpAny_holding (PySem.P.add_list (km _ _ h1 hc) (km _ _ hp1 hpl) ?_ (by omega))))
    have hS1:(h'.push { cls:=.type "list",data:=.seq (acc ++ u) }).get? S = some { cls:=.type "list",dict:=none,data:=.seq #[.ref cur] c,slots:=#[] }:=Heap.get?_push_of_some _ (km _ _ hSI hS)
    show wpAny _ A.in1 (updateSeq S (fun _=>#[Value.ref h'.objs.size]) >>= _) _ _ _
    refine wpAny_bind (wpAny_updateSeq hS1 rfl ?_)
    have hS₂:=Heap.get?_update_self (Obj.mapSeq fun _=>#[Value.ref h'.objs.size]) hS1 rfl
    refine wpAny_bind (wpAny_letGo ?_)
    have kk:∀ b o,b ≠ I → b ≠ S → s.heap.get? b = some o → (((h'.push { cls:=.type "list",data:=.seq (acc ++ u) }).update S (Obj.mapSeq fun _=>#[Value.ref h'.objs.size])).update S (Obj.mapSeq fun _=>#[Value.ref h'.objs.size])).get? b = some o:=fun b o e1 e2 e=>(Heap.get?_update_other _ _ (Ne.symm e2)).trans ((Heap.get?_update_other _ _ (Ne.symm e2)).trans (Heap.get?_push_of_some _ (km b o e1 e)))
    have hne:h'.objs.size ≠ S:=fun z=>Nat.lt_irrefl _ (z ▸ Heap.lt_size (km _ _ hSI hS))
    have hneI:h'.objs.size ≠ I:=fun z=>by
      obtain ⟨o,ho,_⟩:=hst.1
      exact Nat.lt_irrefl _ (z ▸ Heap.lt_size ho)
    refine wpAny_bind (wpAny_updateSeq hS₂ rfl (wpAny_pure ⟨plainId_quiet F.plain_sum_loop _,ih (i + 1) _ h'.objs.size 0 (acc ++ u) _ us (by omega) hlt ?_ ?_ (Heap.get?_update_self _ hS₂ rfl) ?_ hneI hne (by rw [List.length_cons] at hl; omega) (fun j v hj=>?_) (by rw [Array.size_append]; omega) fun h3 tk3 cur3 m3 hk3 hl3 hc3=>?_⟩))
    · exact hst.1.at fun o e=>(Heap.get?_update_other _ _ hSI).trans ((Heap.get?_update_other _ _ hSI).trans (Heap.get?_push_of_some _ e))
    · exact hst.2.at fun o e=>(Heap.get?_update_other _ _ hSL).trans ((Heap.get?_update_other _ _ hSL).trans (Heap.get?_push_of_some _ e))
    · exact (Heap.get?_update_other _ _ (Ne.symm hne)).trans ((Heap.get?_update_other _ _ (Ne.symm hne)).trans (Heap.get?_push_size _ rfl))
    · obtain ⟨q,m',hq,hql,hq1,hq2⟩:=hu (j + 1) v hj
      exact ⟨q,m',by rw [show i + 1 + j = i + (j + 1) by omega]; exact hq,kk _ _ hq1 hq2 hql,hq1,hq2⟩
    · refine hR h3 tk3 cur3 m3 (fun b o hb e=>hk3 b o hb (kk b o (fun z=>hb (by simp [z])) (fun z=>hb (by simp [z])) e)) hl3 (.inr ?_)
      rcases hc3 with ⟨rfl,_⟩ | h
      · obtain ⟨o,ho,_⟩:=hst.1
        exact Heap.lt_size ho
      · exact h
variable {E:Value → Shared → Prop} {s:Shared}
theorem call_sum_lists (hh:A.handled = none) {L b:Addr} {items:Array Value} {u:Array Value} {n:Nat} {us:List (Array Value)} {Q:Value → Shared → Prop}
    (hL:s.heap.IsList L items) (hb:IsL s.heap b #[] n) (hl:(u :: us).length = items.size) (hu:∀ (j:Nat) (v:Array Value),(u :: us)[j]? = some v → ∃ p m,items[j]? = some (Value.ref p) ∧ IsL s.heap p v m)
    (hz:((u :: us).map Array.size).sum ≤ sizeLine)
    (h:∀ h' tk p m,(∀ b o,s.heap.get? b = some o → h'.get? b = some o) → IsL h' p ((u :: us).foldl (· ++ ·) #[]) m → s.heap.objs.size ≤ p → Q (.ref p) { s with heap:=h',toks:=tk }) :
    wpAny (model prog w) A (call (.builtin "sum") [.ref L,.ref b]) Q E s:=by
  have hlL:L < s.heap.objs.size:=by
    obtain ⟨o,ho,_⟩:=hL
    exact Heap.lt_size ho
  have hlb:b < s.heap.objs.size:=Heap.lt_size hb
  refine call_function_tree F.kind_sum F.plain_sum F.entry_sum (F.args_sum2 _ _) ?_
  unfold Builtin.«sum»
  simp only [List.length_cons,List.length_nil]
  rw [if_neg (by decide)]
  refine wpAny_bind (wpAny_of_eq (show Builtin.Builtins.bindParams "sum" ["start"] 0 ⟨[.ref b],[]⟩ = pure [some (Value.ref b)] from rfl) ?_)
  refine wpAny_bind (wpAny_pyIter_list hL ?_)
  refine wpAny_bind (wpAny_pure ?_)
  simp only [List.forIn_cons,List.forIn_nil]
  have tb:∀ o,IsL (s.heap.push o) b #[] n:=fun o=>Heap.get?_push_of_some _ hb
  refine wpAny_bind (wpAny_bind (wpAny_bind (wpAny_isInstance (T:= "list") (b:=false) ⟨_,tb _,rfl⟩ F.sub_list_str ?_)))
  simp only [Bool.false_eq_true,if_false]
  refine wpAny_pure (wpAny_bind (wpAny_bind (wpAny_isInstance (T:= "list") (b:=false) ⟨_,tb _,rfl⟩ F.sub_list_bytes ?_)))
  simp only [Bool.false_eq_true,if_false]
  refine wpAny_pure (wpAny_bind (wpAny_bind (wpAny_isInstance (T:= "list") (b:=false) ⟨_,tb _,rfl⟩ F.sub_list_bytearray ?_)))
  simp only [Bool.false_eq_true,if_false]
  refine wpAny_pure (wpAny_pure ?_)
  refine wpAny_bind (wpAny_newObj_type ?_)
  have hsz:∀ (h:Heap) o,(h.push o).objs.size = h.objs.size + 1:=fun h o=>by cases h; simp [Heap.push]
  refine wpAny_pure ⟨plainId_quiet F.plain_sum_loop _,codeAny_sum_lists hh (I:=s.heap.objs.size) (S:=(s.heap.push _).objs.size) (L:=L) (items:=items) (Nat.ne_of_lt hlL) ?_ ?_ items.size 0 _ b n #[] 0 (u :: us) rfl (Nat.zero_le _)
    ?_ ?_ (Heap.get?_push_size _ rfl) (Heap.get?_push_of_some _ (tb _)) (Nat.ne_of_lt hlb) ?_ (by rw [hl]; rfl) (fun j v hj=>?_) (by simpa using hz) fun h' tk p m hk hp hc=>?_⟩
  · rw [hsz]; exact Nat.ne_of_gt (Nat.lt_succ_of_lt hlL)
  · rw [hsz]; exact Nat.succ_ne_self _
  · exact Heap.IsListIter.at (⟨_,Heap.get?_push_size _ rfl,rfl,rfl⟩ : (s.heap.push _).IsListIter s.heap.objs.size L 0) fun o e=>Heap.get?_push_of_some _ e
  · exact (hL.at fun o e=>Heap.get?_push_of_some _ e).at fun o e=>Heap.get?_push_of_some _ e
  · rw [hsz]; exact Nat.ne_of_lt (Nat.lt_succ_of_lt hlb)
  · obtain ⟨p,m,hp,hpl⟩:=hu j v hj
    have hlp:p < s.heap.objs.size:=Heap.lt_size hpl
    exact ⟨p,m,by rw [Nat.zero_add]; exact hp,Heap.get?_push_of_some _ (Heap.get?_push_of_some _ hpl),Nat.ne_of_lt hlp,by rw [hsz]; exact Nat.ne_of_lt (Nat.lt_succ_of_lt hlp)⟩
  · refine h h' tk p m (fun b o e=>hk b o (fun z=>?_) (Heap.get?_push_of_some _ (Heap.get?_push_of_some _ e))) hp ?_
    · have hlb:=Heap.lt_size e
      rcases List.mem_cons.mp z with z | z
      · rw [z,hsz] at hlb; exact absurd hlb (Nat.not_lt_of_le (Nat.le_succ _))
      · rw [List.mem_singleton.mp z] at hlb; exact Nat.lt_irrefl _ hlb
    · rcases hc with ⟨_,hc⟩ | hc
      · cases hc
      · exact Nat.le_of_lt hc
end
end PySem
namespace Bk
open PySem PySem.Spec PyProof.Rows L2
variable [Cls]
def rSumL:List V → Hp → VK → Prop:=fun vs H Q=>∃ (a b:Addr) (ps:List Addr) (xs:List V) (xss:List (List V)),vs = [V.ref a,V.ref b] ∧ H a = some (.lst (ps.map V.ref)) ∧ H b = some (.lst []) ∧
  Paired (fun p x=>H p = some (HO.lst x)) ps (xs :: xss) ∧ (xs :: xss).flatten.length ≤ sizeLine ∧ ∀ p,H p = none → Q (.ref p) (upd H p (.lst (xs :: xss).flatten))
theorem lists_of {X:Cx} {pins:List (Addr × Obj)} {σ:L2.St} {H:Hp} {s:Shared} (I:Inv X pins σ H s) : ∀ {ps:List Addr} {xss:List (List V)},Paired (fun p x=>H p = some (HO.lst x)) ps xss →
    ∃ us:List (List Value),us.length = ps.length ∧ Vals xss.flatten us.flatten ∧ ∀ (j:Nat) (v:List Value),us[j]? = some v → ∃ p m,ps[j]? = some p ∧ IsL s.heap p v.toArray m
  | _,_,.nil=>⟨[],rfl,.nil,fun j v h=>by cases h⟩
  | _,_,.cons h t=>by
    obtain ⟨us,h1,h2,h3⟩:=lists_of I t
    obtain ⟨z,its,n,r,hl,e⟩:=I.lstM h
    refine ⟨its :: us,by simp [h1],?_,fun j v hj=>?_⟩
    · rw [List.flatten_cons,List.flatten_cons]
      exact r.append h2
    · cases j with
      | zero=>cases hj; exact ⟨_,n,rfl,e⟩
      | succ j=>exact h3 j v hj
theorem refs_vals:∀ {ps:List Addr} {us:List Value},Vals (ps.map V.ref) us → us = ps.map Value.ref
  | [],us,r=>by cases r; rfl
  | p :: ps,us,r=>by
    rw [List.map_cons] at r
    cases r with
    | cons r1 r2=>
      obtain rfl:=r1
      rw [refs_vals r2]
      rfl
theorem foldl_arr:∀ (us:List (List Value)) (acc:List Value),(us.map List.toArray).foldl (· ++ ·) acc.toArray = (acc ++ us.flatten).toArray
  | [],acc=>by simp
  | u :: us,acc=>by
    rw [List.map_cons,List.foldl_cons,show acc.toArray ++ u.toArray = (acc ++ u).toArray by simp,foldl_arr us (acc ++ u),List.flatten_cons,List.append_assoc]
theorem sum_sizes:∀ us:List (List Value),((us.map List.toArray).map Array.size).sum = us.flatten.length
  | []=>rfl
  | u :: us=>by rw [List.map_cons,List.map_cons,List.sum_cons,sum_sizes us,List.flatten_cons,List.length_append]; simp
theorem cr_sumL {X:Cx} (hc:X.calm = true) : CallR X (.builtin "sum") rSumL:=by
  intro pins s σ H vs us Q I r h
  obtain ⟨a,b,ps,xs,xss,rfl,ha,hb,hp,hz,q⟩:=h
  obtain ⟨v,w,rfl,rv,rw'⟩:=vals2 r
  obtain rfl:=rv
  obtain rfl:=rw'
  obtain ⟨_,its,n,ri,hl,e⟩:=I.lstM ha
  have ei:=refs_vals ri
  subst ei
  obtain ⟨_,its2,n2,r2,hl2,e2⟩:=I.lstM hb
  cases r2
  obtain ⟨us,h1,h2,h3⟩:=lists_of I hp
  cases us with
  | nil=>
    cases hp with
    | cons _ _=>cases h1
  | cons u us=>
    have hz':((u.toArray :: us.map List.toArray).map Array.size).sum ≤ sizeLine:=by
      have:=sum_sizes (u :: us)
      rw [List.map_cons] at this
      rw [this,←h2.length]
      exact hz
    refine call_sum_lists (I.ok.hd hc) (us:=us.map List.toArray) (u:=u.toArray) ⟨_,e,rfl,n,rfl⟩ e2 (by rw [List.size_toArray,List.length_map,←h1]; simp) (fun j v hj=>?_) hz' fun h' tk p m hk hpl hsz=>?_
    · obtain ⟨v',hv',rfl⟩ : ∃ v',(u :: us)[j]? = some v' ∧ v = v'.toArray:=by
        have:((u :: us).map List.toArray)[j]? = some v:=hj
        rw [List.getElem?_map] at this
        obtain ⟨v',h4,h5⟩:=Option.map_eq_some_iff.mp this
        exact ⟨v',h4,h5.symm⟩
      obtain ⟨p,m,hp',hpl⟩:=h3 j v' hv'
      exact ⟨p,m,by simp [hp'],hpl⟩
    · have ef:=foldl_arr (u :: us) []
      rw [List.map_cons,List.nil_append] at ef
      refine ⟨.ref p,_,I.laid (t':=tk) (o:=.lst (xs :: xss).flatten) hk hsz ⟨hz,(u :: us).flatten,m,h2,?_⟩,rfl,q p (I.hok.fresh hsz)⟩
      have hpl:IsL h' p (List.foldl (· ++ ·) #[] (u.toArray :: us.map List.toArray)) m:=hpl
      rw [show (#[] : Array Value) = ([] : List Value).toArray from rfl,ef] at hpl
      exact hpl
theorem prd_imp {α β:Type} {R S:α → β → Prop} (f:∀ a b,R a b → S a b) : ∀ {xs:List α} {ys:List β},Paired R xs ys → Paired S xs ys
  | _,_,.nil=>.nil
  | _,_,.cons h t=>.cons (f _ _ h) (prd_imp f t)
/-- the data: a list of lists -/
def lsts:List D → Option (List (List D))
  | []=>some []
  | .lst x :: ds=>(lsts ds).map (x :: ·)
  | _=>none
def bSumL:List D → Option (List D)
  | [.lst (d :: ds),.lst []]=>(lsts (d :: ds)).bind fun xss=>if xss.flatten.length < 16000000 then some xss.flatten else none
  | _=>none
theorem lsts_rep {F:Hp} : ∀ {ds:List D} {vs:List V} {xss:List (List D)},lsts ds = some xss → Reps F ds vs → ∃ (ps:List Addr) (yss:List (List V)),vs = ps.map V.ref ∧ yss.length = ds.length ∧ Paired (fun p x=>F p = some (HO.lst x)) ps yss ∧ Reps F xss.flatten yss.flatten
  | [],_,_,h,.nil=>by cases h; exact ⟨[],[],rfl,rfl,.nil,.nil⟩
  | d :: ds,_,xss,h,.cons r t=>by
    cases d with
    | lst x=>
      obtain ⟨xs',h1,rfl⟩:=Option.map_eq_some_iff.mp h
      obtain ⟨ps,yss,rfl,h2,h3,h4⟩:=lsts_rep h1 t
      cases r with
      | @lst _ vs p e rs=>exact ⟨p :: ps,vs :: yss,rfl,by simp [h2],.cons e h3,by rw [List.flatten_cons,List.flatten_cons]; exact rs.app h4⟩
    | _=>cases h
section
variable {X:Cx} {n:Nat} {G:Gr n} {W:WX} {Γ : List Ty} {rt:Ty}
def mSumL (ms:MA) : M:=mCall (fun ds=>(bSumL ds).map D.lst) ms
theorem me_sumL {e:Expr} {ms:MA} (h:PE X e (tCB rSumL (tMA X.K G W Γ ms))) : ME X G W Γ e .ol (mSumL ms):=peI h fun σ H Q=>cbL (fun ds zs vs s F fp H Q R hz rs k=>by
  match ds,hz with
  | [.lst (d :: ds),.lst []],hz=>
    obtain ⟨xss,e1,e2⟩:=Option.bind_eq_some_iff.mp (show (lsts (d :: ds)).bind _ = some zs from hz)
    obtain ⟨hl,rfl⟩:=if_some e2
    obtain ⟨v,w,rfl,r1,r2⟩:=rs.two
    cases r1 with
    | @lst _ vs a ea ra=>
      cases r2 with
      | @lst _ ws b eb rb=>
        cases rb
        obtain ⟨ps,yss,rfl,h2,h3,h4⟩:=lsts_rep e1 ra
        cases yss with
        | nil=>cases h2
        | cons y yss=>exact ⟨a,b,ps,y,yss,rfl,R.at ea rfl,R.at eb rfl,prd_imp (fun p x e=>R.at e rfl) h3,by rw [←h4.len]; exact Nat.le_of_lt (sixteen hl),fun p hp=>k p _ hp h4⟩)
end
/-- the set's rows L among the pairs ps -/
structure RowsW (F:Hp) (ps:List (Int × Int)) (L:List (Addr × List Int)) : Prop where
  sub:∀ q ∈ L,∃ a ∈ ps,q.2 = lsP a ∧ F q.1 = some (.tup ((lsP a).map V.int))
  all:∀ a ∈ ps,lsP a ∈ L.map (·.2)
  len:L.length ≤ ps.length
theorem RowsW.nil (F:Hp) : RowsW F [] []:=⟨fun q h=>(by cases h),fun a h=>(by cases h),Nat.le_refl _⟩
theorem RowsW.mono {F F':Hp} {ps:List (Int × Int)} {L:List (Addr × List Int)} (r:RowsW F ps L) (x:Same F F') : RowsW F' ps L:=
  ⟨fun q h=>let ⟨a,h1,h2,h3⟩:=r.sub q h; ⟨a,h1,h2,x _ _ h3⟩,r.all,r.len⟩
def fpQ (a b:Addr) (n:Nat) (B:List Addr) : Fp:=fun i=>if i = 0 then [a,b] else if i = n + 1 then B else []
theorem fpQ_mem {a b:Addr} {n:Nat} {B:List Addr} {i:Nat} {x:Addr} (h:x ∈ fpQ a b n B i) : (i = 0 ∧ (x = a ∨ x = b)) ∨ (i = n + 1 ∧ x ∈ B):=by
  unfold fpQ at h
  by_cases z:i = 0
  · rw [if_pos z] at h
    exact .inl ⟨z,by simpa using h⟩
  · rw [if_neg z] at h
    by_cases z2:i = n + 1
    · rw [if_pos z2] at h; exact .inr ⟨z2,h⟩
    · rw [if_neg z2] at h; cases h
theorem fpQ_zero {a b:Addr} {n:Nat} {B:List Addr} : fpQ a b n B 0 = [a,b]:=if_pos rfl
theorem fpQ_own {a b:Addr} {n:Nat} {B:List Addr} : fpQ a b n B (n + 1) = B:=by
  unfold fpQ
  rw [if_neg (Nat.succ_ne_zero n),if_pos rfl]
theorem fpQ_mid {a b:Addr} {n:Nat} {B:List Addr} {i:Nat} (h1:i ≠ 0) (h2:i ≠ n + 1) : fpQ a b n B i = []:=by
  unfold fpQ
  rw [if_neg h1,if_neg h2]
/-- the thing that was made; the own slot as it is now -/
def madeO (j np:Nat) (s:Env) : R D → R D
  | .ok .non (some (.obj c' ns fs) :: e)=>.ok (.obj c' ns fs) (s.set j (e[np]?.join))
  | .ok _ _=>.stuck
  | .err er e=>.err er (s.set j (e.tail[np]?.join))
  | .stuck=>.stuck
section
variable {n:Nat} {G:Gr n} {W:WX} {Γ : List Ty}
theorem makeO_go {K:PySem.W.Frag} {s:Env} {σ:Sl} {F H:Hp} {fp:Fp} {Q:VK} {f:List D → R D} {c:Str} {ds:List D} {vs:List V} {np j:Nat} {t:Ty} {d0:D} {v0:V} (R:Rel G Γ s σ F fp H) (rs:Reps F ds vs) (hl:ds.length = np) (ht:Γ[j]? = some t) (hs:s[j]? = some (some d0)) (hσ:σ[j]? = some (some v0)) {a b:Addr} (ha:H a = none) (hb:H b = none) (hne:b ≠ a)
    (q:PostG K G W Γ σ F fp H (AE G .fr fp H) Q (madeO j np s (f (.obj c [] [] :: (ds ++ [d0]))))) :
    spM K (.ob c [] :: (List.replicate np .fr ++ [t])) .fr f (.ref a :: (vs ++ [v0])) (L2.upd (L2.upd H b (.own a)) a (.ins (Cls.ga c) b [])) (fun u Y=>u = .non ∧ Q (.ref a) Y) (WE W σ):=by
  have hjl:j < Γ.length:=(List.getElem?_eq_some_iff.mp ht).1
  have lv:vs.length = np:=by rw [←rs.len,hl]
  obtain ⟨v1,hv1,at0⟩:=R.slot j t d0 ht hs
  rw [hσ] at hv1
  cases hv1
  have h2a:L2.upd H b (.own a) a = none:=by rw [upd_ne (Ne.symm hne)]; exact ha
  have up:∀ {x:Addr} {o:HO},H x = some o → L2.upd (L2.upd H b (.own a)) a (.ins (Cls.ga c) b []) x = some o:=fun {x o} e=>by
    rw [upd_ne (ne_of_none e ha),upd_ne (ne_of_none e hb)]
    exact e
  have atb:L2.upd (L2.upd H b (.own a)) a (.ins (Cls.ga c) b []) b = some (.own a):=by rw [upd_ne hne]; exact upd_same
  have ntu:∀ {x:Addr},Nt H x → Nt (L2.upd (L2.upd H b (.own a)) a (.ins (Cls.ga c) b [])) x:=fun h=>(h.upd hb).upd h2a
  have hz:∀ {x:Addr},x ∈ fp j → x ≠ a ∧ x ≠ b:=fun {x} hx=>⟨fun z=>(R.oh j x hx).ne (by rw [z]; exact ha),fun z=>(R.oh j x hx).ne (by rw [z]; exact hb)⟩
  have np':∀ {x:Addr},H x ≠ none → (∀ i,x ∉ fpc [some j] fp i) → ∀ i,x ∉ fpQ a b np (fp j) i:=fun {x} h hx i hi=>by
    rcases fpQ_mem hi with ⟨_,rfl | rfl⟩ | ⟨_,hm⟩
    · exact h ha
    · exact h hb
    · exact hx 0 (by rw [fpc_of (sp:=[some j]) (k:=0) (j:=j) rfl]; exact hm)
  have args:ArgsOk σ F [some j] [.non] [v0]:=.own hσ .nil
  have fil:fill [some j] [.non] s = some [d0]:=by
    unfold fill
    rw [hs]
    rfl
  have hnd:nd [some j] = true:=rfl
  have hjs:∀ i ∈ ([some j] : Spc).filterMap id,i < Γ.length:=fun i hi=>by
    have:i = j:=by simpa using hi
    rw [this]; exact hjl
  have tyj:([some j] : Spc).map (tyAt Γ) = [t]:=by
    show [(Γ[j]?).getD .fr] = [t]
    rw [ht]
    rfl
  let Hm:=L2.upd (L2.upd H b (.own a)) a (.ins (Cls.ga c) b [])
  have seen:∀ {e':Env} {F' H':Hp} {fp':Fp},Pst G.L (.ob c [] :: (List.replicate np .fr ++ [t])) (.ref a :: (vs ++ [v0])) e' F (fpQ a b np (fp j)) Hm F' fp' H' → Rel G Γ (s.set j (e'[np + 1]?.join)) σ F' (fpu [some j] (fun i=>if i = 0 then fp' (np + 1) else []) fp) H' ∧ Stp L0 F fp H F' (fpu [some j] (fun i=>if i = 0 then fp' (np + 1) else []) fp) H':=fun {e' F' H' fp'} p=>by
    have mem:∀ {i:Nat} {x:Addr},x ∈ (if i = 0 then fp' (np + 1) else []) → i = 0 ∧ x ∈ fp' (np + 1):=fun {i x} h=>by
      by_cases z:i = 0
      · rw [if_pos z] at h; exact ⟨z,h⟩
      · rw [if_neg z] at h; cases h
    have lts:(.ob c [] :: (List.replicate np Ty.fr ++ [t])).length = np + 2:=by simp
    have own2:∀ {x:Addr},x ∈ fp' (np + 1) → x ∈ fp j ∨ H x = none:=fun {x} hx=>by
      rcases p.own (np + 1) x hx with z | z
      · rw [fpQ_own] at z; exact .inl z
      · refine .inr ?_
        cases h:H x with
        | none=>rfl
        | some o=>exact absurd ((up h).symm.trans z) (Option.some_ne_none _)
    have p2:Pst G.L (([some j] : Spc).map (tyAt Γ)) [v0] [e'[np + 1]?.join] F (fpc [some j] fp) H F' (fun i=>if i = 0 then fp' (np + 1) else []) H':=by
      rw [tyj]
      refine ⟨fun i t' d v h1 h2 h3=>?_,fun i k x h1 h2=>(mem h1).1.trans (mem h2).1.symm,fun i x h=>?_,fun i x h=>p.oh _ x (mem h).2,p.ext,fun i x h=>?_,fun i x h=>.inl ?_,⟨p.stp.f,fun x o e hzt hx=>p.stp.keep x o (up e) hzt (np' (by rw [e]; exact Option.some_ne_none _) hx),fun i x h=>?_,fun x h e hx=>p.stp.nof x (ntu h) e (np' h.ne hx),fun x h=>p.stp.there x ?_,fun x h=>p.stp.nt x (ntu h),fun tt=>p.stp.tab ((tt.lay hb).lay h2a)⟩,?_,p.nmk⟩
      · cases i with
        | zero=>
          cases h1
          cases h3
          have h2:e'[np + 1]?.join = some d:=Option.some.inj h2
          have he:e'[np + 1]? = some (some d):=by
            cases z:e'[np + 1]? with
            | none=>rw [z] at h2; cases h2
            | some o=>rw [z] at h2; exact congrArg some h2
          exact p.slot (np + 1) t d v0 (by simp) he (by simp [lv])
        | succ i=>simp at h1
      · refine (p.nF (np + 1) x (mem h).2).imp_right fun z=>?_
        rw [lts] at z
        omega
      · obtain ⟨rfl,hx⟩:=mem h
        rw [fpc_of (sp:=[some j]) (k:=0) (j:=j) rfl]
        exact own2 hx
      · rw [(mem h).1]; exact Nat.zero_lt_one
      · obtain ⟨rfl,hx⟩:=mem h
        rcases own2 hx with z | z
        · exact .inl ⟨0,by rw [fpc_of (sp:=[some j]) (k:=0) (j:=j) rfl]; exact z⟩
        · exact .inr z
      · obtain ⟨o,eo⟩:=Option.ne_none_iff_exists'.mp h
        exact fun z=>absurd ((up eo).symm.trans z) (Option.some_ne_none _)
      · rfl
    have r:=call_post R hnd hjs args fil p2
    exact r
  have anew:∀ {e':Env} {F' H':Hp} {fp':Fp},Pst G.L (.ob c [] :: (List.replicate np .fr ++ [t])) (.ref a :: (vs ++ [v0])) e' F (fpQ a b np (fp j)) Hm F' fp' H' → a ∈ fp' 0 → ∀ i,a ∉ fpu [some j] (fun i=>if i = 0 then fp' (np + 1) else []) fp i:=fun {e' F' H' fp'} p h0 i hi=>by
    rcases fpu_mem hi with ⟨k,_,hk⟩ | ⟨_,hk⟩
    · have hk:a ∈ (if k = 0 then fp' (np + 1) else []):=hk
      by_cases z:k = 0
      · rw [if_pos z] at hk
        have:=p.dis 0 (np + 1) a h0 hk
        omega
      · rw [if_neg z] at hk; cases hk
    · exact R.newFp ha i hk
  refine ⟨.obj c [] [] :: (ds ++ [d0]),F,fpQ a b np (fp j),G.L,⟨by simp [hl],by simp [lv],fun i t' d v h1 h2 h3=>?_,fun i k x hi hk=>?_,fun i x h=>?_,fun i x h=>?_,fun x o e=>⟨fun m=>up ((R.ext x o e).1 m),fun m=>ntu ((R.ext x o e).2.1 m),fun u eu=>up ((R.ext x o e).2.2 u eu)⟩,R.lkd,(R.tb.lay hb).lay h2a,fpQ_mid (by simp) (by simp)⟩,?_⟩
  · cases i with
    | zero=>
      cases h1
      cases h2
      cases h3
      rw [fpQ_zero]
      exact ⟨a,b,[],[],[],[],rfl,rfl,upd_same,atb,rfl,.nil,fun z=>nil_no z,fun z=>nil_no z,Ne.symm hne,rfl⟩
    | succ i=>
      have h1:(List.replicate np Ty.fr ++ [t])[i]? = some t':=by simpa using h1
      have h2:(ds ++ [d0])[i]? = some d:=by simpa using h2
      have h3:(vs ++ [v0])[i]? = some v:=by simpa using h3
      by_cases z:i < np
      · rw [List.getElem?_append_left (by rw [List.length_replicate]; exact z),List.getElem?_replicate,if_pos z] at h1
        rw [List.getElem?_append_left (by rw [hl]; exact z)] at h2
        rw [List.getElem?_append_left (by rw [lv]; exact z)] at h3
        cases h1
        obtain ⟨v',h4,h5⟩:=rs.get h2
        rw [h3] at h4
        cases h4
        exact ⟨h5,fpQ_mid (Nat.succ_ne_zero i) (by omega)⟩
      · have z2:i = np:=by
          have:=(List.getElem?_eq_some_iff.mp h2).1
          rw [List.length_append,hl] at this
          simp only [List.length_cons,List.length_nil] at this
          omega
        subst z2
        rw [List.getElem?_append_right (by rw [List.length_replicate]; exact Nat.le_refl _),List.length_replicate,Nat.sub_self] at h1
        rw [List.getElem?_append_right (by rw [hl]; exact Nat.le_refl _),hl,Nat.sub_self] at h2
        rw [List.getElem?_append_right (by rw [lv]; exact Nat.le_refl _),lv,Nat.sub_self] at h3
        cases h1
        cases h2
        cases h3
        rw [fpQ_own]
        exact at0.mono (Same.refl F) fun x _ o e=>up e
  · rcases fpQ_mem hi with ⟨z1,h1⟩ | ⟨z1,h1⟩
    · rcases fpQ_mem hk with ⟨z2,h2⟩ | ⟨z2,h2⟩
      · rw [z1,z2]
      · rcases h1 with h1 | h1
        · exact absurd h1 (hz h2).1
        · exact absurd h1 (hz h2).2
    · rcases fpQ_mem hk with ⟨z2,h2⟩ | ⟨z2,h2⟩
      · rcases h2 with h2 | h2
        · exact absurd h2 (hz h1).1
        · exact absurd h2 (hz h1).2
      · rw [z1,z2]
  · rcases fpQ_mem h with ⟨_,rfl | rfl⟩ | ⟨_,hm⟩
    · exact .inl (R.nowF ha)
    · exact .inl (R.nowF hb)
    · exact .inl (R.nFt hjl hm)
  · rcases fpQ_mem h with ⟨_,rfl | rfl⟩ | ⟨_,hm⟩
    · exact ⟨_,upd_same,rfl⟩
    · exact ⟨_,atb,rfl⟩
    · exact ntu (R.oh j x hm)
  · cases ef:f (.obj c [] [] :: (ds ++ [d0])) with
    | ok r e'=>
      rw [ef] at q
      unfold madeO at q
      split at q
      · rename_i c' ns fs rest heq
        cases heq
        intro v F' fp' H' B p aB tq
        obtain ⟨R2,x2⟩:=seen p
        have hv:v = .non:=by
          obtain ⟨rv,_⟩:=aB
          cases rv
          rfl
        obtain ⟨p0,dx0,ns0,ds0,vs0,Bs,e1,e2,e3,e4,l,xf,n1,n2,n3,e5⟩:=p.slot 0 (.ob c []) (.obj c' ns fs) (.ref a) rfl rfl rfl
        cases e1
        cases e2
        obtain ⟨rs0,_,_⟩:=atFs_fr xf
        have m0:a ∈ fp' 0:=by rw [e5]; exact List.mem_cons_self
        have hF:F' a = none:=p.nF0 m0
        have R3:=R2.free hF (anew p m0) (R.newG ha) e3
        have x3:=x2.free (o:=.ins (Cls.ga c) dx0 (ns.zip vs0)) hF (.inr ha) (R2.tb.no e3)
        exact ⟨hv,q _ _ _ _ R3 x3 (AE.fr (.obj upd_same l (rs0.mono fun x u e=>by rw [upd_ne (ne_of_none e hF)]; exact e)))⟩
      · exact q.elim
      · rename_i heq
        cases heq
      · rename_i heq
        cases heq
    | err er e'=>
      rw [ef] at q
      intro cls od F' fp' H' p z
      obtain ⟨R2,x2⟩:=seen p
      have eq:(e'.tail[np]?.join) = (e'[np + 1]?.join):=by cases e' <;> rfl
      have q:PostG K G W Γ σ F fp H (AE G .fr fp H) Q (.err er (s.set j (e'.tail[np]?.join))):=q
      rw [eq] at q
      exact q cls od F' _ H' R2 x2 z
    | stuck=>rw [ef] at q; exact q.elim
end
section
variable {X:Cx} {n:Nat} {G:Gr n} {W:WX} {Γ : List Ty} {rt:Ty} {pos p:Pos}
/-- keywords of which the last is an own thing of slot j -/
def tKO (K:PySem.W.Frag) {n:Nat} (G:Gr n) (W:WX) (Γ : List Ty) (j:Nat) (m:MA) : TA:=fun σ H Q=>∃ s F fp,Rel G Γ s σ F fp H ∧ PostG K G W Γ σ F fp H AA (fun ws H1=>∃ v,σ[j]? = some (some v) ∧ Q (ws ++ [v]) H1) (m s)
abbrev MKO (X:Cx) {n:Nat} (G:Gr n) (W:WX) (Γ : List Ty) (j:Nat) (kws:List Keyword) (m:MA) : Prop:=PK X kws (tKO X.K G W Γ j m)
theorem mko_last {e:Expr} {nm:Option Str} {kpos:Pos} {j:Nat} (h:PE X e (tVar j)) : MKO X G W Γ j [⟨nm,e,kpos⟩] mNil:=
  pkI (pk_cons h pk_nil) fun σ H Q ⟨s,F,fp,R,q⟩=>pok q R .nil
theorem mko_cons {e:Expr} {nm:Option Str} {kpos:Pos} {kws:List Keyword} {j:Nat} {m:M} {ms:MA} (h:ME X G W Γ e .fr m) (hs:MKO X G W Γ j kws ms) : MKO X G W Γ j (⟨nm,e,kpos⟩ :: kws) (mCons m ms):=
  pkI (pk_cons h hs) fun σ H Q ⟨s,F,fp,R,q⟩=>⟨s,F,fp,R,pbind q fun d s1 x F1 fp1 H1 R1 st1 a1 q1=>⟨s1,F1,fp1,R1,pbind q1 fun ds s2 xs F2 fp2 H2 R2 st2 a2 q2=>pok q2 R2 (.cons (a1.rep.mono st2.f) a2)⟩⟩
/-- the making of a thing of the class c with nv values and the keywords ks,the last of them the last parameter,of kind t -/
structure CalINO (P:Program) (w:World) (K:PySem.W.Frag) (mg:Str → Option Value) (base:Heap) (k:Nat) (c:Str) (np:Nat) (t:Ty) (f:List D → R D) (nv:Nat) (ks:List Str) (gD:List D → List D → List D) : Prop where
  ex:∃ (a:Addr) (fd:FuncData) (ps:List Str) (g:List Value → List Value → List Value) (gV:List V → List V → List V),FnOk P w K mg base (L2.CX P w) k a fd ps (spM K (.ob c [] :: (List.replicate np .fr ++ [t])) .fr f) ∧ mg c = some (.ref (Cls.ga c)) ∧ Mk K (Cls.ga c) a ∧ KBn K fd ps (nv + 1) ks g gV ∧
    ∀ F ds es vs ws b v,Reps F ds vs → Reps F es ws → vs.length = nv → ws.length + 1 = ks.length → ∃ us,gV (b :: vs) (ws ++ [v]) = b :: (us ++ [v]) ∧ Reps F (gD ds es) us ∧ (gD ds es).length = np
def mMakeNO (c:Str) (f:List D → R D) (gD:List D → List D → List D) (j np:Nat) (ma mk:MA) : M:=fun s=>(ma s).bind fun ds s1=>(mk s1).bind fun es s2=>match s2[j]? with
  | some (some d0)=>madeO j np s2 (f (.obj c [] [] :: (gD ds es ++ [d0])))
  | _=>.stuck
theorem me_makeNO {k np nv nk j:Nat} {t:Ty} {c:Str} {e:Expr} {es:List Expr} {kws:List Keyword} {ks:List Str} {f:List D → R D} {gD:List D → List D → List D} {ma mk:MA} (C:CalINO X.prog X.w X.K X.mg X.base k c np t f nv ks gD) (hr:Room (k + 1) X.A) (tk:Takes X W) (hg:Gl X c)
    (ha:MAs X G W Γ (e :: es) ma) (hla:LenOk ma nv) (hk:MKO X G W Γ j kws mk) (hl:LenOk mk nk) (hn:nk + 1 = ks.length) (ht:Γ[j]? = some t)
    (h1:(backToKw pos (keywordEach kws X.env)).all (·.1.isSome) = true:=by rfl) (h2:(backToKw pos (keywordEach kws X.env)).filterMap (·.1) = ks:=by rfl) (h3:(c == ("__debug__" : Str)) = false:=by decide)
    (h5:starEach (e :: es) X.env = (false,eval e X.env) :: starEach es X.env:=by rfl)
    (h4:((backTo pos (starEach (e :: es) X.env)).any (·.1) || (backToKw pos (keywordEach kws X.env)).any (·.1.isNone)) = false:=by rfl) :
    ME X G W Γ (.Call (.Name c p) (e :: es) kws pos) .fr (mMakeNO c f gD j np ma mk):=by
  obtain ⟨a,fd,ps,g,gV,F,hm,hmk,hb,hre⟩:=C.ex
  have h:=pe_mkNS (E:=WE W) (p:=p) (pos:=pos) hmk F hr hg hm hb (fun σ=>passAt tk σ) ha hk h1 h2 h3 h5 h4
  refine peI h fun σ H Q ⟨s,F0,fp,R,q⟩=>⟨s,F0,fp,R,?_⟩
  refine pmapL hla R q fun ds s1 vs F1 fp1 H1 el R1 st1 a1 q1=>⟨s1,F1,fp1,R1,?_⟩
  refine pmapL hl R1 q1 fun zs s2 ws F2 fp2 H2 el2 R2 st2 a2 q2=>?_
  have lv:vs.length = nv:=by rw [←a1.len,el]
  have lw:ws.length + 1 = ks.length:=by rw [←a2.len,el2,hn]
  split at q2
  · rename_i d0 e0
    obtain ⟨v0,hσ,at0⟩:=R2.slot j t d0 ht e0
    refine ⟨v0,hσ,lv,by rw [List.length_append]; exact lw,fun x dx hx hdx hne=>?_⟩
    obtain ⟨us,eu,r1,l1⟩:=hre F2 ds zs vs ws (.ref x) v0 (a1.mono st2.f) a2 lv lw
    rw [eu]
    refine makeO_go R2 r1 l1 ht e0 hσ hx hdx hne ?_
    exact q2.imp fun r v F' fp' H' z=>(z.back st2).back st1
  · exact q2.elim
end
end Bk
namespace Bk
open PySem PySem.Spec PyProof.Rows L2 Bk
noncomputable section
def fu__wall_1:Env → Nat:=fun _=>0 -- FUEL WANTED
def m__wall_2:MS:=
    sNil
def m__wall:MS:=
    (sWhile fu__wall_1 (mTru (mK (.bl true)))
    m__wall_2)
theorem ex__wall:∃ f:List D → R D,f = runF [.fr] .fr 1 m__wall:=⟨_,rfl⟩
noncomputable def f__wall:List D → R D:=Classical.choose ex__wall
theorem f__wall_eq:f__wall = runF [.fr] .fr 1 m__wall:=Classical.choose_spec ex__wall
def m_is_whole:MS:=
    (sRet (mAndV (mIsi .int (mVar 0)) (mNotV (mIsi .bool (mVar 0)))))
theorem ex_is_whole:∃ f:List D → R D,f = runF [.fr] .fr 1 m_is_whole:=⟨_,rfl⟩
noncomputable def f_is_whole:List D → R D:=Classical.choose ex_is_whole
theorem f_is_whole_eq:f_is_whole = runF [.fr] .fr 1 m_is_whole:=Classical.choose_spec ex_is_whole
def m_less:MS:=
    (sRet (mOp dLt (mOp dMul (mOp dIx (mVar 0) (mK (.int 0))) (mOp dIx (mVar 1) (mK (.int 1)))) (mOp dMul (mOp dIx (mVar 1) (mK (.int 0))) (mOp dIx (mVar 0) (mK (.int 1))))))
theorem ex_less:∃ f:List D → R D,f = runF [.fr,.fr] .fr 2 m_less:=⟨_,rfl⟩
noncomputable def f_less:List D → R D:=Classical.choose ex_less
theorem f_less_eq:f_less = runF [.fr,.fr] .fr 2 m_less:=Classical.choose_spec ex_less
def m_as_share_3:MS:=
    sStuck
def m_as_share_4:MS:=
    (sRet (mVar 1))
def m_as_share_2:MS:=
    (sSeq (sIf (mTst (mOp dLt (mOp dIx (mVar 1) (mK (.int 0))) (mK (.int 0))))
    m_as_share_3
    sNil)
    m_as_share_4)
def m_as_share:MS:=
    (sSeq (sSet 1 (mIf (mTru (mCallF f_is_whole [none] [] (mCons (mVar 0) mNil))) (mTup (mCons (mVar 0) (mCons (mK (.int 1)) mNil))) (mVar 0)))
    m_as_share_2)
theorem ex_as_share:∃ f:List D → R D,f = runF [.fr] .fr 2 m_as_share:=⟨_,rfl⟩
noncomputable def f_as_share:List D → R D:=Classical.choose ex_as_share
theorem f_as_share_eq:f_as_share = runF [.fr] .fr 2 m_as_share:=Classical.choose_spec ex_as_share
def m_as_box_3:MS:=
    (sRet (mTup (mCons (mCall (bPick2 mn2) (mCons (mVar 3) (mCons (mVar 5) mNil))) (mCons (mCall (bPick2 mn2) (mCons (mVar 4) (mCons (mVar 6) mNil))) (mCons (mCall (bPick2 mx2) (mCons (mVar 3) (mCons (mVar 5) mNil))) (mCons (mCall (bPick2 mx2) (mCons (mVar 4) (mCons (mVar 6) mNil))) (mCons (mCallF f_as_share [none] [] (mCons (mVar 2) mNil)) mNil)))))))
def m_as_box_2:MS:=
    (sSeq (sAsg (gT 4 (gC (gN 3) (gC (gN 4) (gC (gN 5) (gC (gN 6) gE))))) (mVar 1))
    m_as_box_3)
def m_as_box:MS:=
    (sSeq (sStarF 1 2 (mVar 0))
    m_as_box_2)
theorem ex_as_box:∃ f:List D → R D,f = runF [.fr] .fr 7 m_as_box:=⟨_,rfl⟩
noncomputable def f_as_box:List D → R D:=Classical.choose ex_as_box
theorem f_as_box_eq:f_as_box = runF [.fr] .fr 7 m_as_box:=Classical.choose_spec ex_as_box
def m_touches_4:MS:=
    (sRet (mAndV (mOp dLe (mVar 2) (mCall (bBest max) (mCons (mVar 7) mNil))) (mAndV (mOp dGe (mVar 4) (mCall (bBest min) (mCons (mVar 7) mNil))) (mAndV (mOp dLe (mVar 3) (mCall (bBest max) (mCons (mVar 8) mNil))) (mOp dGe (mVar 5) (mCall (bBest min) (mCons (mVar 8) mNil)))))))
def m_touches_3:MS:=
    (sSeq (sSet 8 (mLst (mCons (mOp dIx (mVar 1) (mK (.int 1))) (mCons (mOp dIx (mVar 1) (mK (.int 3))) (mCons (mOp dIx (mVar 1) (mK (.int 5))) mNil)))))
    m_touches_4)
def m_touches_2:MS:=
    (sSeq (sSet 7 (mLst (mCons (mOp dIx (mVar 1) (mK (.int 0))) (mCons (mOp dIx (mVar 1) (mK (.int 2))) (mCons (mOp dIx (mVar 1) (mK (.int 4))) mNil)))))
    m_touches_3)
def m_touches:MS:=
    (sSeq (sAsg (gT 5 (gC (gN 2) (gC (gN 3) (gC (gN 4) (gC (gN 5) (gC (gN 6) gE)))))) (mVar 0))
    m_touches_2)
theorem ex_touches:∃ f:List D → R D,f = runF [.fr,.fr] .fr 9 m_touches:=⟨_,rfl⟩
noncomputable def f_touches:List D → R D:=Classical.choose ex_touches
theorem f_touches_eq:f_touches = runF [.fr,.fr] .fr 9 m_touches:=Classical.choose_spec ex_touches
def m_lw_whole:MS:=
    (sRet (mAndV (mIsi .int (mVar 0)) (mNotV (mIsi .bool (mVar 0)))))
def f_lw_whole:List D → R D:=runF [.fr] .fr 1 m_lw_whole
theorem f_lw_whole_eq:f_lw_whole = runF [.fr] .fr 1 m_lw_whole:=rfl
def m_lw_same (rec:List D → R D) : MS:=
    (sSeq (sIf (mTst (mIsN (fun k=>k) (mVar 1)))
    (sRet (mIsN (fun k=>k) (mVar 0)))
    sNil)
    (sSeq (sIf (mTru (mIsi .bool (mVar 1)))
    (sRet (mAndV (mIsi .bool (mVar 0)) (mEq (mVar 0) (mVar 1))))
    sNil)
    (sSeq (sIf (mTru (mIsi .int (mVar 1)))
    (sRet (mAndV (mCallF f_lw_whole [none] [] (mCons (mVar 0) mNil)) (mEq (mVar 0) (mVar 1))))
    sNil)
    (sSeq (sIf (mTru (mIsi .str (mVar 1)))
    (sRet (mAndV (mIsi .str (mVar 0)) (mEq (mVar 0) (mVar 1))))
    sNil)
    (sSeq (sIf (mAnd (mTru (mIsi .tuple (mVar 1))) (mNot (mTru (mIsi .tuple (mVar 0)))))
    (sRet (mK (.bl false)))
    sNil)
    (sSeq (sIf (mAnd (mTru (mIsi .list (mVar 1))) (mNot (mTru (mIsi .list (mVar 0)))))
    (sRet (mK (.bl false)))
    sNil)
    (sSeq (sIf (mTst (mNe (mCall bLen (mCons (mVar 0) mNil)) (mCall bLen (mCons (mVar 1) mNil))))
    (sRet (mK (.bl false)))
    sNil)
    (sSeq (sFor (mRng bRng1 (mCons (mCall bLen (mCons (mVar 1) mNil)) mNil)) (gN 2)
    (sIf (mNot (mTru (mCallF rec [none,none] [] (mCons (mOp dIx (mVar 0) (mVar 2)) (mCons (mOp dIx (mVar 1) (mVar 2)) mNil)))))
    (sRet (mK (.bl false)))
    sNil))
    (sRet (mK (.bl true)))))))))))
def f_lw_same:Nat → List D → R D
  | 0=>fun _=>.stuck
  | n + 1=>runF [.fr,.fr] .fr 3 (m_lw_same (f_lw_same n))
def m_lw_plan_3:MS:=
    (sRet (mOp dIx (mVar 1) (mCallF drawF [some 0,none] [] (mOwnA 0 (mCons (mK (.int 12)) mNil)))))
def m_lw_plan_2:MS:=
    (sSeq (sSet 1 (mCat (mVar 1) (mLst (mCons (mTup (mCons (mK (.int 3)) (mCons (mK (.int 1)) (mCons (mK (.int 2)) mNil)))) (mCons (mTup (mCons (mK (.int 1)) (mCons (mK (.int 3)) (mCons (mK (.int 2)) mNil)))) (mCons (mTup (mCons (mK (.int 2)) (mCons (mK (.int 1)) (mCons (mK (.int 4)) mNil)))) (mCons (mTup (mCons (mK (.int 1)) (mCons (mK (.int 2)) (mCons (mK (.int 4)) mNil)))) (mCons (mTup (mCons (mK (.int 3)) (mCons (mK (.int 2)) (mCons (mK (.int 2)) mNil)))) (mCons (mTup (mCons (mK (.int 1)) (mCons (mK (.int 1)) (mCons (mK (.int 8)) mNil)))) mNil)))))))))
    m_lw_plan_3)
def m_lw_plan:MS:=
    (sSeq (sSet 1 (mLst (mCons (mTup (mCons (mK (.int 1)) (mCons (mK (.int 1)) (mCons (mK (.int 2)) mNil)))) (mCons (mTup (mCons (mK (.int 1)) (mCons (mK (.int 1)) (mCons (mK (.int 4)) mNil)))) (mCons (mTup (mCons (mK (.int 2)) (mCons (mK (.int 1)) (mCons (mK (.int 2)) mNil)))) (mCons (mTup (mCons (mK (.int 1)) (mCons (mK (.int 2)) (mCons (mK (.int 2)) mNil)))) (mCons (mTup (mCons (mK (.int 2)) (mCons (mK (.int 2)) (mCons (mK (.int 2)) mNil)))) (mCons (mTup (mCons (mK (.int 1)) (mCons (mK (.int 1)) (mCons (mK (.int 4)) mNil)))) mNil))))))))
    m_lw_plan_2)
theorem ex_lw_plan:∃ f:List D → R D,f = runF [.bag] .fr 2 m_lw_plan:=⟨_,rfl⟩
noncomputable def f_lw_plan:List D → R D:=Classical.choose ex_lw_plan
theorem f_lw_plan_eq:f_lw_plan = runF [.bag] .fr 2 m_lw_plan:=Classical.choose_spec ex_lw_plan
def m_lw_roots:MS:=
    (sSeq (sSet 1 (mLst mNil))
    (sSeq (sSet 2 (mOp dIx (mVar 0) (mK (.int 2))))
    (sSeq (sFor (mRng bRng1 (mCons (mOp dIx (mVar 0) (mK (.int 0))) mNil)) (gN 3)
    (sFor (mRng bRng1 (mCons (mOp dIx (mVar 0) (mK (.int 1))) mNil)) (gN 4)
    (sSeq (sSet 5 (mOp dMul (mVar 3) (mVar 2)))
    (sSeq (sSet 6 (mOp dMul (mVar 4) (mVar 2)))
    (sIf (mTst (mEq (mOp dMod (mOp dAdd (mVar 3) (mVar 4)) (mK (.int 2))) (mK (.int 0))))
    (sSeq (sApp 1 (mTup (mCons (mVar 5) (mCons (mVar 6) (mCons (mOp dAdd (mVar 5) (mVar 2)) (mCons (mOp dAdd (mVar 6) (mVar 2)) (mCons (mOp dAdd (mVar 5) (mVar 2)) (mCons (mVar 6) mNil))))))))
    (sApp 1 (mTup (mCons (mOp dAdd (mVar 5) (mVar 2)) (mCons (mOp dAdd (mVar 6) (mVar 2)) (mCons (mVar 5) (mCons (mVar 6) (mCons (mVar 5) (mCons (mOp dAdd (mVar 6) (mVar 2)) mNil)))))))))
    (sSeq (sApp 1 (mTup (mCons (mOp dAdd (mVar 5) (mVar 2)) (mCons (mVar 6) (mCons (mVar 5) (mCons (mOp dAdd (mVar 6) (mVar 2)) (mCons (mOp dAdd (mVar 5) (mVar 2)) (mCons (mOp dAdd (mVar 6) (mVar 2)) mNil))))))))
    (sApp 1 (mTup (mCons (mVar 5) (mCons (mOp dAdd (mVar 6) (mVar 2)) (mCons (mOp dAdd (mVar 5) (mVar 2)) (mCons (mVar 6) (mCons (mVar 5) (mCons (mVar 6) mNil))))))))))))))
    (sRet (mMov 1)))))
def f_lw_roots:List D → R D:=runF [.fr] .ol 7 m_lw_roots
theorem f_lw_roots_eq:f_lw_roots = runF [.fr] .ol 7 m_lw_roots:=rfl
def m_lw_middle:MS:=
    (sSeq (sIf (mOr (mTst (mEq (mOp dMod (mOp dAdd (mOp dIx (mVar 0) (mK (.int 0))) (mOp dIx (mVar 0) (mK (.int 2)))) (mK (.int 2))) (mK (.int 1)))) (mTst (mEq (mOp dMod (mOp dAdd (mOp dIx (mVar 0) (mK (.int 1))) (mOp dIx (mVar 0) (mK (.int 3)))) (mK (.int 2))) (mK (.int 1)))))
    (sRet (mK .non))
    sNil)
    (sRet (mTup (mCons (mOp dDiv (mOp dAdd (mOp dIx (mVar 0) (mK (.int 0))) (mOp dIx (mVar 0) (mK (.int 2)))) (mK (.int 2))) (mCons (mOp dDiv (mOp dAdd (mOp dIx (mVar 0) (mK (.int 1))) (mOp dIx (mVar 0) (mK (.int 3)))) (mK (.int 2))) mNil)))))
def f_lw_middle:List D → R D:=runF [.fr] .fr 1 m_lw_middle
theorem f_lw_middle_eq:f_lw_middle = runF [.fr] .fr 1 m_lw_middle:=rfl
def m_lw_halves:MS:=
    (sSeq (sSet 1 (mCallF f_lw_middle [none] [] (mCons (mVar 0) mNil)))
    (sSeq (sSet 2 (mTup (mCons (mOp dIx (mVar 0) (mK (.int 0))) (mCons (mOp dIx (mVar 0) (mK (.int 1))) (mCons (mOp dIx (mVar 0) (mK (.int 4))) (mCons (mOp dIx (mVar 0) (mK (.int 5))) (mCons (mOp dIx (mVar 1) (mK (.int 0))) (mCons (mOp dIx (mVar 1) (mK (.int 1))) mNil))))))))
    (sSeq (sSet 3 (mTup (mCons (mOp dIx (mVar 0) (mK (.int 4))) (mCons (mOp dIx (mVar 0) (mK (.int 5))) (mCons (mOp dIx (mVar 0) (mK (.int 2))) (mCons (mOp dIx (mVar 0) (mK (.int 3))) (mCons (mOp dIx (mVar 1) (mK (.int 0))) (mCons (mOp dIx (mVar 1) (mK (.int 1))) mNil))))))))
    (sRet (mLst (mCons (mVar 2) (mCons (mVar 3) mNil)))))))
def f_lw_halves:List D → R D:=runF [.fr] .ol 4 m_lw_halves
theorem f_lw_halves_eq:f_lw_halves = runF [.fr] .ol 4 m_lw_halves:=rfl
def m_lw_corners_of:MS:=
    (sRet (mLst (mCons (mTup (mCons (mOp dIx (mVar 0) (mK (.int 0))) (mCons (mOp dIx (mVar 0) (mK (.int 1))) mNil))) (mCons (mTup (mCons (mOp dIx (mVar 0) (mK (.int 2))) (mCons (mOp dIx (mVar 0) (mK (.int 3))) mNil))) (mCons (mTup (mCons (mOp dIx (mVar 0) (mK (.int 4))) (mCons (mOp dIx (mVar 0) (mK (.int 5))) mNil))) mNil)))))
theorem ex_lw_corners_of:∃ f:List D → R D,f = runF [.fr] .ol 1 m_lw_corners_of:=⟨_,rfl⟩
noncomputable def f_lw_corners_of:List D → R D:=Classical.choose ex_lw_corners_of
theorem f_lw_corners_of_eq:f_lw_corners_of = runF [.fr] .ol 1 m_lw_corners_of:=Classical.choose_spec ex_lw_corners_of
def fu_lw_low_1:Env → Nat:=fuI 3
def m_lw_low_6:MS:=
    (sSet 3 (mVar 4))
def m_lw_low_5:MS:=
    (sSeq (sSet 2 (mVar 3))
    m_lw_low_6)
def m_lw_low_4:MS:=
    (sSeq (sSet 4 (mOp dMod (mVar 2) (mVar 3)))
    m_lw_low_5)
def m_lw_low_8:MS:=
    (sSet 2 (mOp dSub (mK (.int 0)) (mVar 2)))
def m_lw_low_9:MS:=
    (sRet (mTup (mCons (mOp dDivS (mVar 0) (mVar 2)) (mCons (mOp dDivS (mVar 1) (mVar 2)) mNil))))
def m_lw_low_7:MS:=
    (sSeq (sIf (mTst (mOp dLt (mVar 1) (mK (.int 0))))
    m_lw_low_8
    sNil)
    m_lw_low_9)
def m_lw_low_3:MS:=
    (sSeq (sWhile fu_lw_low_1 (mTst (mOp dGt (mVar 3) (mK (.int 0))))
    m_lw_low_4)
    m_lw_low_7)
def m_lw_low_2:MS:=
    (sSeq (sSet 3 (mCall bAbs (mCons (mVar 1) mNil)))
    m_lw_low_3)
def m_lw_low:MS:=
    (sSeq (sSet 2 (mCall bAbs (mCons (mVar 0) mNil)))
    m_lw_low_2)
theorem ex_lw_low:∃ f:List D → R D,f = runF [.fr,.fr] .fr 5 m_lw_low:=⟨_,rfl⟩
noncomputable def f_lw_low:List D → R D:=Classical.choose ex_lw_low
theorem f_lw_low_eq:f_lw_low = runF [.fr,.fr] .fr 5 m_lw_low:=Classical.choose_spec ex_lw_low
def m_lw_tolerance_3:MS:=
    (sRet (mTup (mCons (mK (.int 0)) (mCons (mK (.int 1)) mNil))))
def m_lw_tolerance_5:MS:=
    (sRet (mTup (mCons (mCallF drawF [some 0,none] [] (mOwnA 0 (mCons (mK (.int 6)) mNil))) (mCons (mK (.int 1)) mNil))))
def m_lw_tolerance_7:MS:=
    (sRet (mCallF f_lw_low [none,none] [] (mCons (mCallF drawF [some 0,none] [] (mOwnA 0 (mCons (mK (.int 40)) mNil))) (mCons (mOp dAdd (mK (.int 1)) (mCallF drawF [some 0,none] [] (mOwnA 0 (mCons (mK (.int 8)) mNil)))) mNil))))
def m_lw_tolerance_8:MS:=
    (sRet (mTup (mCons (mCallF drawF [some 0,none] [] (mOwnA 0 (mCons (mK (.int 1500)) mNil))) (mCons (mK (.int 1)) mNil))))
def m_lw_tolerance_6:MS:=
    (sSeq (sIf (mTst (mEq (mVar 1) (mK (.int 2))))
    m_lw_tolerance_7
    sNil)
    m_lw_tolerance_8)
def m_lw_tolerance_4:MS:=
    (sSeq (sIf (mTst (mEq (mVar 1) (mK (.int 1))))
    m_lw_tolerance_5
    sNil)
    m_lw_tolerance_6)
def m_lw_tolerance_2:MS:=
    (sSeq (sIf (mTst (mEq (mVar 1) (mK (.int 0))))
    m_lw_tolerance_3
    sNil)
    m_lw_tolerance_4)
def m_lw_tolerance:MS:=
    (sSeq (sSet 1 (mCallF drawF [some 0,none] [] (mOwnA 0 (mCons (mK (.int 5)) mNil))))
    m_lw_tolerance_2)
theorem ex_lw_tolerance:∃ f:List D → R D,f = runF [.bag] .fr 2 m_lw_tolerance:=⟨_,rfl⟩
noncomputable def f_lw_tolerance:List D → R D:=Classical.choose ex_lw_tolerance
theorem f_lw_tolerance_eq:f_lw_tolerance = runF [.bag] .fr 2 m_lw_tolerance:=Classical.choose_spec ex_lw_tolerance
def m_lw_sight_3:MS:=
    (sSet 2 (mTup (mCons (mOp dSub (mCallF drawF [some 0,none] [] (mOwnA 0 (mCons (mK (.int 40)) mNil))) (mK (.int 12))) (mCons (mOp dSub (mCallF drawF [some 0,none] [] (mOwnA 0 (mCons (mK (.int 40)) mNil))) (mK (.int 12))) mNil))))
def m_lw_sight_7:MS:=
    (sAppX 3 (mTup (mCons (mOp dIx (mVar 5) (mK (.int 0))) (mCons (mOp dIx (mVar 5) (mK (.int 1))) (mCons (mOp dIx (mVar 5) (mK (.int 2))) (mCons (mOp dIx (mVar 5) (mK (.int 3))) (mCons (mCallF f_lw_tolerance [some 0] [] (mOwnA 0 mNil)) mNil)))))))
def m_lw_sight_6:MS:=
    (sSeq (sSet 5 (mTup (mCons (mOp dSub (mCallF drawF [some 0,none] [] (mOwnA 0 (mCons (mK (.int 13)) mNil))) (mK (.int 2))) (mCons (mOp dSub (mCallF drawF [some 0,none] [] (mOwnA 0 (mCons (mK (.int 13)) mNil))) (mK (.int 2))) (mCons (mOp dSub (mCallF drawF [some 0,none] [] (mOwnA 0 (mCons (mK (.int 13)) mNil))) (mK (.int 2))) (mCons (mOp dSub (mCallF drawF [some 0,none] [] (mOwnA 0 (mCons (mK (.int 13)) mNil))) (mK (.int 2))) mNil))))))
    m_lw_sight_7)
def m_lw_sight_8:MS:=
    (sRet (mTup (mCons (mCallF f_lw_tolerance [some 0] [] (mOwnA 0 mNil)) (mCons (mVar 2) (mCons (mVarX 3) mNil)))))
def m_lw_sight_5:MS:=
    (sSeq (sFor (mRng bRng1 (mCons (mOp dIx (mLst (mCons (mK (.int 0)) (mCons (mK (.int 0)) (mCons (mK (.int 1)) (mCons (mK (.int 2)) (mCons (mK (.int 3)) mNil)))))) (mCallF drawF [some 0,none] [] (mOwnA 0 (mCons (mK (.int 5)) mNil)))) mNil)) (gN 4)
    m_lw_sight_6)
    m_lw_sight_8)
def m_lw_sight_4:MS:=
    (sSeq (sSetXO 3 (mLst mNil))
    m_lw_sight_5)
def m_lw_sight_2:MS:=
    (sSeq (sIf (mTst (mEq (mCallF drawF [some 0,none] [] (mOwnA 0 (mCons (mK (.int 3)) mNil))) (mK (.int 1))))
    m_lw_sight_3
    sNil)
    m_lw_sight_4)
def m_lw_sight:MS:=
    (sSeq (sSet 2 (mK .non))
    m_lw_sight_2)
theorem ex_lw_sight:∃ f:List D → R D,f = runF [.bag,.fr] .fr 6 m_lw_sight:=⟨_,rfl⟩
noncomputable def f_lw_sight:List D → R D:=Classical.choose ex_lw_sight
theorem f_lw_sight_eq:f_lw_sight = runF [.bag,.fr] .fr 6 m_lw_sight:=Classical.choose_spec ex_lw_sight
def m_lw_limit_9:MS:=
    (sSet 2 (mOp dIx (mVar 3) (mK (.int 4))))
def m_lw_limit_8:MS:=
    (sIf (mOr (mTst (mIsN (fun k=>k) (mVar 2))) (mTst (mOp dLt (mOp dMul (mOp dIx (mOp dIx (mVar 3) (mK (.int 4))) (mK (.int 0))) (mOp dIx (mVar 2) (mK (.int 1)))) (mOp dMul (mOp dIx (mVar 2) (mK (.int 0))) (mOp dIx (mOp dIx (mVar 3) (mK (.int 4))) (mK (.int 1)))))))
    m_lw_limit_9
    sNil)
def m_lw_limit_7:MS:=
    (sIf (mAnd (mTru (mVar 4)) (mTru (mVar 5)))
    m_lw_limit_8
    sNil)
def m_lw_limit_6:MS:=
    (sSeq (sSet 5 (mAndV (mVar 5) (mOp dLe (mCall (bPick2 mn2) (mCons (mOp dIx (mVar 3) (mK (.int 1))) (mCons (mOp dIx (mVar 3) (mK (.int 3))) mNil))) (mCall (bPick3 nuMax3) (mCons (mOp dIx (mVar 1) (mK (.int 1))) (mCons (mOp dIx (mVar 1) (mK (.int 3))) (mCons (mOp dIx (mVar 1) (mK (.int 5))) mNil)))))))
    m_lw_limit_7)
def m_lw_limit_5:MS:=
    (sSeq (sSet 5 (mOp dGe (mCall (bPick2 mx2) (mCons (mOp dIx (mVar 3) (mK (.int 1))) (mCons (mOp dIx (mVar 3) (mK (.int 3))) mNil))) (mCall (bPick3 nuMin3) (mCons (mOp dIx (mVar 1) (mK (.int 1))) (mCons (mOp dIx (mVar 1) (mK (.int 3))) (mCons (mOp dIx (mVar 1) (mK (.int 5))) mNil))))))
    m_lw_limit_6)
def m_lw_limit_4:MS:=
    (sSeq (sSet 4 (mAndV (mVar 4) (mOp dLe (mCall (bPick2 mn2) (mCons (mOp dIx (mVar 3) (mK (.int 0))) (mCons (mOp dIx (mVar 3) (mK (.int 2))) mNil))) (mCall (bPick3 nuMax3) (mCons (mOp dIx (mVar 1) (mK (.int 0))) (mCons (mOp dIx (mVar 1) (mK (.int 2))) (mCons (mOp dIx (mVar 1) (mK (.int 4))) mNil)))))))
    m_lw_limit_5)
def m_lw_limit_3:MS:=
    (sSeq (sSet 4 (mOp dGe (mCall (bPick2 mx2) (mCons (mOp dIx (mVar 3) (mK (.int 0))) (mCons (mOp dIx (mVar 3) (mK (.int 2))) mNil))) (mCall (bPick3 nuMin3) (mCons (mOp dIx (mVar 1) (mK (.int 0))) (mCons (mOp dIx (mVar 1) (mK (.int 2))) (mCons (mOp dIx (mVar 1) (mK (.int 4))) mNil))))))
    m_lw_limit_4)
def m_lw_limit_11:MS:=
    (sRet (mOp dIx (mVar 0) (mK (.int 0))))
def m_lw_limit_12:MS:=
    (sRet (mVar 2))
def m_lw_limit_10:MS:=
    (sSeq (sIf (mTst (mIsN (fun k=>k) (mVar 2)))
    m_lw_limit_11
    sNil)
    m_lw_limit_12)
def m_lw_limit_2:MS:=
    (sSeq (sFor (mSeqI (mOp dIx (mVar 0) (mK (.int 2)))) (gN 3)
    m_lw_limit_3)
    m_lw_limit_10)
def m_lw_limit:MS:=
    (sSeq (sSet 2 (mK .non))
    m_lw_limit_2)
theorem ex_lw_limit:∃ f:List D → R D,f = runF [.fr,.fr] .fr 6 m_lw_limit:=⟨_,rfl⟩
noncomputable def f_lw_limit:List D → R D:=Classical.choose ex_lw_limit
theorem f_lw_limit_eq:f_lw_limit = runF [.fr,.fr] .fr 6 m_lw_limit:=Classical.choose_spec ex_lw_limit
def m_lw_far_2:MS:=
    (sRet (mK (.int 1)))
def m_lw_far_4:MS:=
    (sRet (mOp dAdd (mK (.int 1)) (mCall (bBest min) (mCons (mComp (mSeqI (mCallF f_lw_corners_of [none] [] (mCons (mVar 1) mNil))) (gN 4) mYes (mOp dAdd (mOp dMul (mOp dSub (mOp dIx (mVar 4) (mK (.int 0))) (mVar 2)) (mOp dSub (mOp dIx (mVar 4) (mK (.int 0))) (mVar 2))) (mOp dMul (mOp dSub (mOp dIx (mVar 4) (mK (.int 1))) (mVar 3)) (mOp dSub (mOp dIx (mVar 4) (mK (.int 1))) (mVar 3)))) [4]) mNil))))
def m_lw_far_3:MS:=
    (sSeq (sAsg (gT 2 (gC (gN 2) (gC (gN 3) gE))) (mOp dIx (mVar 0) (mK (.int 1))))
    m_lw_far_4)
def m_lw_far:MS:=
    (sSeq (sIf (mTst (mIsN (fun k=>k) (mOp dIx (mVar 0) (mK (.int 1)))))
    m_lw_far_2
    sNil)
    m_lw_far_3)
theorem ex_lw_far:∃ f:List D → R D,f = runF [.fr,.fr] .fr 5 m_lw_far:=⟨_,rfl⟩
noncomputable def f_lw_far:List D → R D:=Classical.choose ex_lw_far
theorem f_lw_far_eq:f_lw_far = runF [.fr,.fr] .fr 5 m_lw_far:=Classical.choose_spec ex_lw_far
def m_lw_shape_5:MS:=
    (sSet 3 (mOp dIx (mCallF f_lw_halves [none] [] (mCons (mVar 3) mNil)) (mCallF drawF [some 0,none] [] (mOwnA 0 (mCons (mK (.int 2)) mNil)))))
def m_lw_shape_4:MS:=
    (sIf (mTst (mIsN (fun k=>!k) (mCallF f_lw_middle [none] [] (mCons (mVar 3) mNil))))
    m_lw_shape_5
    sNil)
def m_lw_shape_6:MS:=
    (sRet (mVar 3))
def m_lw_shape_3:MS:=
    (sSeq (sFor (mRng bRng1 (mCons (mCallF drawF [some 0,none] [] (mOwnA 0 (mCons (mK (.int 8)) mNil))) mNil)) (gN 4)
    m_lw_shape_4)
    m_lw_shape_6)
def m_lw_shape_2:MS:=
    (sSeq (sSet 3 (mOp dIx (mVar 2) (mCallF drawF [some 0,none] [] (mOwnA 0 (mCons (mCall bLen (mCons (mVar 2) mNil)) mNil)))))
    m_lw_shape_3)
def m_lw_shape:MS:=
    (sSeq (sSet 2 (mCallF f_lw_roots [none] [] (mCons (mVar 1) mNil)))
    m_lw_shape_2)
theorem ex_lw_shape:∃ f:List D → R D,f = runF [.bag,.fr] .fr 5 m_lw_shape:=⟨_,rfl⟩
noncomputable def f_lw_shape:List D → R D:=Classical.choose ex_lw_shape
theorem f_lw_shape_eq:f_lw_shape = runF [.bag,.fr] .fr 5 m_lw_shape:=Classical.choose_spec ex_lw_shape
def m_View_init_3:MS:=
    (sFldO 0 "boxes" (mComp (mSeqE (mVar 3)) (gN 4) mYes (mCallF f_as_box [none] [] (mCons (mVar 4) mNil)) [4]))
def m_View_init_2:MS:=
    (sSeq (sFldO 0 "eye" (mVar 2))
    m_View_init_3)
def m_View_init:MS:=
    (sSeq (sFldO 0 "tolerance" (mCallF f_as_share [none] [] (mCons (mVar 1) mNil)))
    m_View_init_2)
theorem ex_View_init:∃ f:List D → R D,f = runF [.ob "View" [],.fr,.fr,.fr] .fr 5 m_View_init:=⟨_,rfl⟩
noncomputable def f_View_init:List D → R D:=Classical.choose ex_View_init
theorem f_View_init_eq:f_View_init = runF [.ob "View" [],.fr,.fr,.fr] .fr 5 m_View_init:=Classical.choose_spec ex_View_init
def m_lw_view_3:MS:=
    (sSet 2 (mOp dIx (mVar 2) (mK (.int 0))))
def m_lw_view_5:MS:=
    (sRet (mMake "View" f_View_init [.non,.obj "()" [] [.non]] (mCons (mVar 2) mNil)))
def m_lw_view_7:MS:=
    (sRet (mMakeN "View" f_View_init (fun us ws:List D=>(us.drop 0).take 1 ++ ([.non] : List D) ++ (ws.drop 0).take 1) (mCons (mVar 2) mNil) (mCons (mNewL dList (mVar 4)) mNil)))
def m_lw_view_9:MS:=
    (sRet (mMakeN "View" f_View_init (fun us ws:List D=>(us.drop 0).take 1 ++ (ws.drop 0).take 1 ++ ([.obj "()" [] [.non]] : List D)) (mCons (mVar 2) mNil) (mCons (mVar 3) mNil)))
def m_lw_view_10:MS:=
    (sRet (mMakeN "View" f_View_init (fun us ws:List D=>(us.drop 0).take 1 ++ (ws.drop 1).take 1 ++ (ws.drop 0).take 1) (mCons (mVar 2) mNil) (mCons (mTupOf (mVar 4)) (mCons (mVar 3) mNil))))
def m_lw_view_8:MS:=
    (sSeq (sIf (mTst (mEq (mCall bLen (mCons (mVar 4) mNil)) (mK (.int 0))))
    m_lw_view_9
    sNil)
    m_lw_view_10)
def m_lw_view_6:MS:=
    (sSeq (sIf (mTst (mIsN (fun k=>k) (mVar 3)))
    m_lw_view_7
    sNil)
    m_lw_view_8)
def m_lw_view_4:MS:=
    (sSeq (sIf (mAnd (mTst (mIsN (fun k=>k) (mVar 3))) (mTst (mEq (mCall bLen (mCons (mVar 4) mNil)) (mK (.int 0)))))
    m_lw_view_5
    sNil)
    m_lw_view_6)
def m_lw_view_2:MS:=
    (sSeq (sIf (mAnd (mTst (mEq (mOp dIx (mVar 2) (mK (.int 1))) (mK (.int 1)))) (mTst (mEq (mCallF drawF [some 0,none] [] (mOwnA 0 (mCons (mK (.int 2)) mNil))) (mK (.int 0)))))
    m_lw_view_3
    sNil)
    m_lw_view_4)
def m_lw_view:MS:=
    (sSeq (sAsg (gT 3 (gC (gN 2) (gC (gN 3) (gC (gN 4) gE)))) (mVar 1))
    m_lw_view_2)
theorem ex_lw_view:∃ f:List D → R D,f = runF [.bag,.fr] .fr 5 m_lw_view:=⟨_,rfl⟩
noncomputable def f_lw_view:List D → R D:=Classical.choose ex_lw_view
theorem f_lw_view_eq:f_lw_view = runF [.bag,.fr] .fr 5 m_lw_view:=Classical.choose_spec ex_lw_view
def m_View_limit_4:MS:=
    (sSet 2 (mOp dIx (mVar 3) (mK (.int 4))))
def m_View_limit_3:MS:=
    (sIf (mAnd (mTru (mCallF f_touches [none,none] [] (mCons (mVar 3) (mCons (mVar 1) mNil)))) (mOr (mTst (mIsN (fun k=>k) (mVar 2))) (mTru (mCallF f_less [none,none] [] (mCons (mOp dIx (mVar 3) (mK (.int 4))) (mCons (mVar 2) mNil))))))
    m_View_limit_4
    sNil)
def m_View_limit_5:MS:=
    (sRet (mIf (mTst (mIsN (fun k=>k) (mVar 2))) (mFld "View" "tolerance" (mVar 0)) (mVar 2)))
def m_View_limit_2:MS:=
    (sSeq (sFor (mSeqI (mFld "View" "boxes" (mVar 0))) (gN 3)
    m_View_limit_3)
    m_View_limit_5)
def m_View_limit:MS:=
    (sSeq (sSet 2 (mK .non))
    m_View_limit_2)
theorem ex_View_limit:∃ f:List D → R D,f = runF [.fr,.fr] .fr 4 m_View_limit:=⟨_,rfl⟩
noncomputable def f_View_limit:List D → R D:=Classical.choose ex_View_limit
theorem f_View_limit_eq:f_View_limit = runF [.fr,.fr] .fr 4 m_View_limit:=Classical.choose_spec ex_View_limit
def m_View_far_2:MS:=
    (sRet (mK (.int 1)))
def m_View_far_4:MS:=
    (sRet (mOp dAdd (mK (.int 1)) (mCall (bBest min) (mCons (mComp (mSeqI (mTup (mCons (mK (.int 0)) (mCons (mK (.int 2)) (mCons (mK (.int 4)) mNil))))) (gN 4) mYes (mOp dAdd (mOp dPow (mOp dSub (mOp dIx (mVar 1) (mVar 4)) (mVar 2)) (mK (.int 2))) (mOp dPow (mOp dSub (mOp dIx (mVar 1) (mOp dAdd (mVar 4) (mK (.int 1)))) (mVar 3)) (mK (.int 2)))) [4]) mNil))))
def m_View_far_3:MS:=
    (sSeq (sAsg (gT 2 (gC (gN 2) (gC (gN 3) gE))) (mFld "View" "eye" (mVar 0)))
    m_View_far_4)
def m_View_far:MS:=
    (sSeq (sIf (mTst (mIsN (fun k=>k) (mFld "View" "eye" (mVar 0))))
    m_View_far_2
    sNil)
    m_View_far_3)
theorem ex_View_far:∃ f:List D → R D,f = runF [.fr,.fr] .fr 5 m_View_far:=⟨_,rfl⟩
noncomputable def f_View_far:List D → R D:=Classical.choose ex_View_far
theorem f_View_far_eq:f_View_far = runF [.fr,.fr] .fr 5 m_View_far:=Classical.choose_spec ex_View_far
def m_lw_holds_4:MS:=
    (sSet 3 (mAndV (mVar 3) (mCallF (f_lw_same 8) [none,none] [] (mCons (mMeth "View" "far" f_View_far [] (mVar 0) (mCons (mVar 4) mNil)) (mCons (mCallF f_lw_far [none,none] [] (mCons (mVar 1) (mCons (mVar 4) mNil))) mNil)))))
def m_lw_holds_3:MS:=
    (sSeq (sSet 3 (mAndV (mVar 3) (mCallF (f_lw_same 8) [none,none] [] (mCons (mMeth "View" "limit" f_View_limit [] (mVar 0) (mCons (mVar 4) mNil)) (mCons (mCallF f_lw_limit [none,none] [] (mCons (mVar 1) (mCons (mVar 4) mNil))) mNil)))))
    m_lw_holds_4)
def m_lw_holds_5:MS:=
    (sRet (mVar 3))
def m_lw_holds_2:MS:=
    (sSeq (sFor (mSeqI (mVar 2)) (gN 4)
    m_lw_holds_3)
    m_lw_holds_5)
def m_lw_holds:MS:=
    (sSeq (sSet 3 (mAndV (mCallF (f_lw_same 8) [none,none] [] (mCons (mFld "View" "tolerance" (mVar 0)) (mCons (mOp dIx (mVar 1) (mK (.int 0))) mNil))) (mCallF (f_lw_same 8) [none,none] [] (mCons (mFld "View" "eye" (mVar 0)) (mCons (mOp dIx (mVar 1) (mK (.int 1))) mNil)))))
    m_lw_holds_2)
theorem ex_lw_holds:∃ f:List D → R D,f = runF [.fr,.fr,.fr] .fr 5 m_lw_holds:=⟨_,rfl⟩
noncomputable def f_lw_holds:List D → R D:=Classical.choose ex_lw_holds
theorem f_lw_holds_eq:f_lw_holds = runF [.fr,.fr,.fr] .fr 5 m_lw_holds:=Classical.choose_spec ex_lw_holds
def m_View_init__o_3:MS:=
    (sFldO 0 "boxes" (mLend [.ob "View" [],.fr,.fr,.xl,.fr] 3 .xl .ol (mComp (mSeqE (mVar 3)) (gN 4) mYes (mCallF f_as_box [none] [] (mCons (mVar 4) mNil)) [4])))
def m_View_init__o_2:MS:=
    (sSeq (sFldO 0 "eye" (mVar 2))
    m_View_init__o_3)
def m_View_init__o:MS:=
    (sSeq (sFldO 0 "tolerance" (mCallF f_as_share [none] [] (mCons (mVar 1) mNil)))
    m_View_init__o_2)
theorem ex_View_init__o:∃ f:List D → R D,f = runF [.ob "View" [],.fr,.fr,.xl] .fr 5 m_View_init__o:=⟨_,rfl⟩
noncomputable def f_View_init__o:List D → R D:=Classical.choose ex_View_init__o
theorem f_View_init__o_eq:f_View_init__o = runF [.ob "View" [],.fr,.fr,.xl] .fr 5 m_View_init__o:=Classical.choose_spec ex_View_init__o
def m_law_19:MS:=
    (sRet (mAndV (mVar 6) (mAndV (mCallF (f_lw_same 8) [none,none] [] (mCons (mMeth "View" "limit" f_View_limit [] (mVar 10) (mCons (mOp dIx (mVar 4) (mK (.int 0))) mNil)) (mCons (mTup (mCons (mK (.int 3)) (mCons (mK (.int 1)) mNil))) mNil))) (mCallF (f_lw_same 8) [none,none] [] (mCons (mFld "View" "tolerance" (mVar 10)) (mCons (mTup (mCons (mK (.int 7)) (mCons (mK (.int 1)) mNil))) mNil))))))
def m_law_18:MS:=
    (sSeq (sSet 10 (mMakeN "View" f_View_init (fun us ws:List D=>(us.drop 0).take 1 ++ ([.non] : List D) ++ (ws.drop 0).take 1) (mCons (mK (.int 7)) mNil) (mCons (mLst (mCons (mTup (mCons (mK (.int 0)) (mCons (mK (.int 0)) (mCons (mK (.int 99)) (mCons (mK (.int 99)) (mCons (mK (.int 3)) mNil)))))) mNil)) mNil)))
    m_law_19)
def m_law_17:MS:=
    (sSeq (sSet 6 (mAndV (mVar 6) (mCallF f_lw_holds [none,none,none] [] (mCons (mVar 8) (mCons (mVar 3) (mCons (mVar 4) mNil))))))
    m_law_18)
def m_law_16:MS:=
    (sSeq (sSet 8 (mMakeN "View" f_View_init (fun us ws:List D=>(us.drop 0).take 1 ++ (ws.drop 1).take 1 ++ (ws.drop 0).take 1) (mCons (mOp dIx (mVar 3) (mK (.int 0))) mNil) (mCons (mVar 9) (mCons (mOp dIx (mVar 3) (mK (.int 1))) mNil))))
    m_law_17)
def m_law_15:MS:=
    (sSeq (sSet 3 (mTup (mCons (mOp dIx (mVar 3) (mK (.int 0))) (mCons (mOp dIx (mVar 3) (mK (.int 1))) (mCons (mVar 9) mNil)))))
    m_law_16)
def m_law_14:MS:=
    (sSeq (sSet 9 (mCat (mVar 9) (mComp (mRng bRng1 (mCons (mK (.int 8)) mNil)) (gN 5) mYes (mTup (mCons (mOp dSub (mVar 5) (mK (.int 1))) (mCons (mOp dSub (mVar 5) (mK (.int 1))) (mCons (mVar 5) (mCons (mVar 5) (mCons (mTup (mCons (mOp dSub (mK (.int 9)) (mVar 5)) (mCons (mK (.int 1)) mNil))) mNil)))))) [5])))
    m_law_15)
def m_law_13:MS:=
    (sSeq (sSet 9 (mSumL (mCons (mVar 9) (mCons (mLst mNil) mNil))))
    m_law_14)
def m_law_12:MS:=
    (sSeq (sSet 9 (mComp (mRng bRng1 (mCons (mK (.int 5)) mNil)) (gN 5) mYes (mOp dIx (mCallF f_lw_sight [some 1,none] [] (mOwnA 1 (mCons (mVar 2) mNil))) (mK (.int 2))) [5]))
    m_law_13)
def m_law_11:MS:=
    (sSeq (sSet 6 (mAndV (mVar 6) (mCallF f_lw_holds [none,none,none] [] (mCons (mVar 8) (mCons (mVar 3) (mCons (mVar 4) mNil))))))
    m_law_12)
def m_law_10:MS:=
    (sSeq (sRevX 7)
    m_law_11)
def m_law_9:MS:=
    (sSeq (sAppX 7 (mTup (mCons (mOp dSub (mK (.int 0)) (mK (.int 9))) (mCons (mOp dSub (mK (.int 0)) (mK (.int 9))) (mCons (mK (.int 99)) (mCons (mK (.int 99)) (mCons (mTup (mCons (mK (.int 0)) (mCons (mK (.int 1)) mNil))) mNil)))))))
    m_law_10)
def m_law_8:MS:=
    (sSeq (sSet 6 (mAndV (mVar 6) (mLend [.fr,.bag,.fr,.fr,.fr,.fr,.fr,.xl,.fr,.fr,.fr] 7 .xl .fr (mEq (mVar 7) (mOp dIx (mVar 3) (mK (.int 2)))))))
    m_law_9)
def m_law_7:MS:=
    (sSeq (sSet 8 (mMakeNO "View" f_View_init__o (fun us ws:List D=>(us.drop 0).take 1 ++ (ws.drop 0).take 1) 7 2 (mCons (mOp dIx (mVar 3) (mK (.int 0))) mNil) (mCons (mOp dIx (mVar 3) (mK (.int 1))) mNil)))
    m_law_8)
def m_law_6:MS:=
    (sSeq (sSetXO 7 (mNewL dList (mOp dIx (mVar 3) (mK (.int 2)))))
    m_law_7)
def m_law_5:MS:=
    (sSeq (sSet 6 (mCallF f_lw_holds [none,none,none] [] (mCons (mCallF f_lw_view [some 1,none] [] (mOwnA 1 (mCons (mVar 3) mNil))) (mCons (mVar 3) (mCons (mVar 4) mNil)))))
    m_law_6)
def m_law_4:MS:=
    (sSeq (sSet 4 (mComp (mRng bRng1 (mCons (mK (.int 6)) mNil)) (gN 5) mYes (mCallF f_lw_shape [some 1,none] [] (mOwnA 1 (mCons (mVar 2) mNil))) [5]))
    m_law_5)
def m_law_3:MS:=
    (sSeq (sSet 3 (mCallF f_lw_sight [some 1,none] [] (mOwnA 1 (mCons (mVar 2) mNil))))
    m_law_4)
def m_law:MS:=
    (sSeq (sSet 2 (mCallF f_lw_plan [some 1] [] (mOwnA 1 mNil)))
    m_law_3)
end
end Bk
namespace Bk
open PySem L2
variable [Cls]
theorem ix_mem {L:List D} {r:Int} (h0:0 ≤ r) (h1:r < (L.length:Int)) : ∃ d ∈ L,dIx (.lst L) (.int r) = some d:=by
  have hr:r.toNat < L.length:=by omega
  refine ⟨L[r.toNat],List.getElem_mem hr,?_⟩
  show atI L r = _
  unfold atI ixN
  rw [if_pos h0,if_pos h1]
  simp [hr]
theorem wh_go {c:MB} {b:MS} {n:Nat} {s s2:Env} (h:c s = .ok true s) (hb:b s = .nx s2) : whileM c b (n + 1) s = whileM c b n s2:=by
  show (c s).so _ = _
  rw [h]
  show (match b s with | .nx s2=>whileM c b n s2 | .ct s2=>whileM c b n s2 | .bk s2=>.nx s2 | .rt d s2=>.rt d s2 | .err e s2=>.err e s2 | .stuck=>.stuck) = _
  rw [hb]
theorem wh_stop {c:MB} {b:MS} {n:Nat} {s:Env} (h:c s = .ok false s) : whileM c b (n + 1) s = .nx s:=by
  unfold whileM
  rw [h]
  rfl
def sm:Nat → D → Bool
  | 0,_=>false
  | n + 1,.tup ds=>ds.all (sm n) && decide (ds.length < 16000000)
  | n + 1,.lst ds=>ds.all (sm n) && decide (ds.length < 16000000)
  | _,.dct _ _=>false
  | _,.obj _ _ _=>false
  | _,.rcd _ _=>false
  | _,.ptr _=>false
  | _,.str x=>PyData.strOk x
  | _,_=>true
theorem whole_int (i:Int) : f_lw_whole [.int i] = .ok (.bl true) [none]:=rfl
theorem loop_same {rec:List D → R D} {ds:List D} {x:D} (hx:∀ i:Int,dIx x (.int i) = atI ds i) (h:∀ d ∈ ds,rec [d,d] = .ok (.bl true) [none,none]) : ∀ (k lo:Nat) (o:Option D),lo + k = ds.length →
    ∃ o',forM (gN 2) (sIf (mNot (mTru (mCallF rec [none,none] [] (mCons (mOp dIx (mVar 0) (mVar 2)) (mCons (mOp dIx (mVar 1) (mVar 2)) mNil))))) (sRet (mK (.bl false))) sNil) (rng lo k) [some x,some x,o] = .nx [some x,some x,o']
  | 0,lo,o,_=>⟨o,rfl⟩
  | k + 1,lo,o,hk=>by
    have hlo:lo < ds.length:=by omega
    have e:dIx x (.int (lo:Int)) = some ds[lo]:=by
      rw [hx]
      unfold atI ixN
      rw [if_pos (by omega),if_pos (by omega)]
      simp
    have hr:=h ds[lo] (List.getElem_mem hlo)
    obtain ⟨o',ih⟩:=loop_same hx h k (lo + 1) (some (.int lo)) (by omega)
    refine ⟨o',?_⟩
    have c:((lo + 1:Nat) : Int) = (lo:Int) + 1:=by omega
    rw [c] at ih
    show forM _ _ (D.int lo :: rng (lo + 1) k) _ = _
    unfold forM
    simp [sSeq,sSet,sRet,sRetN,sExp,sIf,sNil,sAsg,sPar,mVar,mK,mOp,mUn,mTst_e,tstK,mAnd,mOr,mNot,mAndV_e,andK,mOrV_e,orK,mNotV_e,notK,mIf,mEq,mNe,dEq_int,dEq_bl,mIsN,D.isNon,mCons,mNil,mTup,mLst,mMov,mCall,bLen,bAbs,mIsi,isT,D.isDct,mCallF_e,callK,callO,callR,fill,puts,mOwnA,gN,gT,gC,gE,SO.opt,dAdd,dSub,dLt,dLe,dGt,dGe,dNeg,mChain_e,chK,mTru,dTru,mSeqI,mRng,msk,ix2_0,ix2_1,ix3_0,ix3_1,ix3_2,mDNew,mMov,SO.opt,e,hr]
    exact ih
theorem rg_nat {n:Nat} (h:n < 16000000) : bRng1 [.int (n:Int)] = some (rng 0 n):=by
  rw [rng_z (j:=(n:Int)),Int.toNat_natCast]
  unfold rg
  have h1:(n:Int) < 16000000:=by omega
  have h2:(0:Int) ≤ n:=by omega
  generalize (n:Int) = z at h1 h2
  exact decide_eq_true ⟨by decide,by decide,Int.le_trans (by decide) h2,Int.lt_trans h1 (by decide)⟩
theorem isT_seq {d:D} {ds:List D} (hd:d = .tup ds ∨ d = .lst ds) : (d.isDct = false ∧ d.isNon = false) ∧ (isT .bool d = false ∧ isT .int d = false ∧ isT .str d = false) ∧ bLen [d] = some (.int ds.length):=by
  rcases hd with rfl | rfl
  · exact ⟨⟨rfl,rfl⟩,⟨rfl,rfl,rfl⟩,rfl⟩
  · exact ⟨⟨rfl,rfl⟩,⟨rfl,rfl,rfl⟩,rfl⟩
theorem t_is (t:Tn) (i:Nat) (d:D) (s:Env) (hs:s[i]? = some (some d)) (h:d.isDct = false) : mTru (mIsi t (mVar i)) s = .ok (isT t d) s:=by
  simp [mTru,mIsi,mVar,hs,h,dTru]
theorem t_len (d:D) (n:Nat) (s:Env) (h0:s[0]? = some (some d)) (h1:s[1]? = some (some d)) (h:bLen [d] = some (.int n)) : mTst (mNe (mCall bLen (mCons (mVar 0) mNil)) (mCall bLen (mCons (mVar 1) mNil))) s = .ok false s:=by
  have h9:dEq (.int (n:Int)) (.int (n:Int)) = some true:=by rw [dEq_int,beq_self_eq_true]
  simp [mTst_e,tstK,mNe,mCall,mCons,mNil,mVar,h0,h1,h,h9]
theorem t_non (d:D) (s:Env) (h1:s[1]? = some (some d)) (h:d.isNon = false) : mTst (mIsN (fun k=>k) (mVar 1)) s = .ok false s:=by
  simp [mTst_e,tstK,mIsN,mVar,h1,h]
theorem t_both (t:Tn) (d:D) (s:Env) (h0:s[0]? = some (some d)) (h1:s[1]? = some (some d)) (h:d.isDct = false) : mAnd (mTru (mIsi t (mVar 1))) (mNot (mTru (mIsi t (mVar 0)))) s = .ok false s:=by
  have e1:=t_is t 1 d s h1 h
  have e0:=t_is t 0 d s h0 h
  unfold mAnd mNot
  rw [e1,R.bind_ok]
  cases h7:isT t d with
  | false=>rfl
  | true=>
    rw [e0,h7]
    rfl
theorem s_no {c:MB} {a b:MS} {s:Env} (h:c s = .ok false s) : sIf c a b s = b s:=by
  unfold sIf
  rw [h]
  rfl
theorem s_sk {c:MB} {a b:MS} {s:Env} (h:c s = .ok false s) : sSeq (sIf c a sNil) b s = b s:=by
  unfold sSeq
  rw [s_no h]
  rfl
theorem b_ei {f:List D → Option (List D)} {d:D} {ds:List D} (h6:bLen [d] = some (.int ds.length)) (hrg:f [.int (ds.length:Int)] = some (rng 0 ds.length)) : mRng f (mCons (mCall bLen (mCons (mVar 1) mNil)) mNil) [some d,some d,none] = .ok (rng 0 ds.length) [some d,some d,none]:=by
  simp [mRng,mCall,mCons,mNil,mVar,h6,hrg]
theorem b_for {mi:MA} {g:MG} {b:MS} {s s':Env} {ds:List D} {r:MS} (h1:mi s = .ok ds s) (h2:forM g b ds s = .nx s') : sSeq (sFor mi g b) r s = r s':=by
  unfold sSeq sFor
  rw [h1,R.so_ok,h2]
  rfl
theorem b_e {rec:List D → R D} {d:D} {ds:List D} {o':Option D} (lp:forM (gN 2) (sIf (mNot (mTru (mCallF rec [none,none] [] (mCons (mOp dIx (mVar 0) (mVar 2)) (mCons (mOp dIx (mVar 1) (mVar 2)) mNil))))) (sRet (mK (.bl false))) sNil) (rng 0 ds.length) [some d,some d,none] = .nx [some d,some d,o'])
    (h1:d.isDct = false) (h2:d.isNon = false) (h3:isT .bool d = false) (h4:isT .int d = false) (h5:isT .str d = false) (h6:bLen [d] = some (.int ds.length)) (hrg:bRng1 [.int (ds.length:Int)] = some (rng 0 ds.length)) : m_lw_same rec [some d,some d,none] = .rt (.bl true) [some d,some d,o']:=by
  unfold m_lw_same
  rw [s_sk (t_non d _ rfl h2),s_sk ((t_is .bool 1 d _ rfl h1).trans (by rw [h3])),s_sk ((t_is .int 1 d _ rfl h1).trans (by rw [h4])),s_sk ((t_is .str 1 d _ rfl h1).trans (by rw [h5]))]
  rw [s_sk (t_both .tuple d _ rfl rfl h1),s_sk (t_both .list d _ rfl rfl h1)]
  rw [s_sk (t_len d _ _ rfl rfl h6)]
  rw [b_for (b_ei h6 hrg) lp]
  rfl
theorem same_body {rec:List D → R D} {d:D} {ds:List D} {o':Option D} (lp:forM (gN 2) (sIf (mNot (mTru (mCallF rec [none,none] [] (mCons (mOp dIx (mVar 0) (mVar 2)) (mCons (mOp dIx (mVar 1) (mVar 2)) mNil))))) (sRet (mK (.bl false))) sNil) (rng 0 ds.length) [some d,some d,none] = .nx [some d,some d,o'])
    (h1:d.isDct = false) (h2:d.isNon = false) (h3:isT .bool d = false) (h4:isT .int d = false) (h5:isT .str d = false) (h6:bLen [d] = some (.int ds.length)) (hrg:bRng1 [.int (ds.length:Int)] = some (rng 0 ds.length)) : runF [.fr,.fr] .fr 3 (m_lw_same rec) [d,d] = .ok (.bl true) [none,none]:=by
  have e:=b_e lp h1 h2 h3 h4 h5 h6 hrg
  have ee:[d,d].map some ++ List.replicate (3 - [d,d].length) none = [some d,some d,none]:=rfl
  unfold runF
  rw [ee,e]
  rfl
theorem same_seq {n:Nat} {d:D} {ds:List D} (hd:d = .tup ds ∨ d = .lst ds) (h:∀ x ∈ ds,f_lw_same n [x,x] = .ok (.bl true) [none,none]) (hl:ds.length < 16000000) : f_lw_same (n + 1) [d,d] = .ok (.bl true) [none,none]:=by
  have hdl:=isT_seq hd
  obtain ⟨o',lp⟩:=loop_same (rec:=f_lw_same n) (ds:=ds) (x:=d) (fun i=>by rcases hd with rfl | rfl <;> rfl) h ds.length 0 none (Nat.zero_add _)
  exact same_body lp hdl.1.1 hdl.1.2 hdl.2.1.1 hdl.2.1.2.1 hdl.2.1.2.2 hdl.2.2 (rg_nat hl)
theorem same_refl (n:Nat) : ∀ d:D,sm n d = true → f_lw_same n [d,d] = .ok (.bl true) [none,none]:=by
  induction n with
  | zero=>intro d h; cases h
  | succ n ih=>
    intro d h
    cases d with
    | tup ds=>
      have h2:(∀ x ∈ ds,sm n x = true) ∧ ds.length < 16000000:=by simpa [sm] using h
      exact same_seq (.inl rfl) (fun x hx=>ih x (h2.1 x hx)) h2.2
    | lst ds=>
      have h2:(∀ x ∈ ds,sm n x = true) ∧ ds.length < 16000000:=by simpa [sm] using h
      exact same_seq (.inr rfl) (fun x hx=>ih x (h2.1 x hx)) h2.2
    | dct a b=>cases h
    | obj a b c=>cases h
    | rcd a b=>cases h
    | ptr a=>cases h
    | non=>rfl
    | int i=>
      show runF _ _ _ (m_lw_same (f_lw_same n)) _ = _
      unfold runF m_lw_same
      simp [sSeq,sSet,sRet,sRetN,sExp,sIf,sNil,sAsg,sPar,mVar,mK,mOp,mUn,mTst_e,tstK,mAnd,mOr,mNot,mAndV_e,andK,mOrV_e,orK,mNotV_e,notK,mIf,mEq,mNe,dEq_int,dEq_bl,mIsN,D.isNon,mCons,mNil,mTup,mLst,mMov,mCall,bLen,bAbs,mIsi,isT,D.isDct,mCallF_e,callK,callO,callR,fill,puts,mOwnA,gN,gT,gC,gE,SO.opt,dAdd,dSub,dLt,dLe,dGt,dGe,dNeg,mChain_e,chK,mTru,dTru,mSeqI,mRng,msk,ix2_0,ix2_1,ix3_0,ix3_1,ix3_2,mDNew,mMov,SO.opt,whole_int]
    | bl i=>
      show runF _ _ _ (m_lw_same (f_lw_same n)) _ = _
      unfold runF m_lw_same
      simp [sSeq,sSet,sRet,sRetN,sExp,sIf,sNil,sAsg,sPar,mVar,mK,mOp,mUn,mTst_e,tstK,mAnd,mOr,mNot,mAndV_e,andK,mOrV_e,orK,mNotV_e,notK,mIf,mEq,mNe,dEq_int,dEq_bl,mIsN,D.isNon,mCons,mNil,mTup,mLst,mMov,mCall,bLen,bAbs,mIsi,isT,D.isDct,mCallF_e,callK,callO,callR,fill,puts,mOwnA,gN,gT,gC,gE,SO.opt,dAdd,dSub,dLt,dLe,dGt,dGe,dNeg,mChain_e,chK,mTru,dTru,mSeqI,mRng,msk,ix2_0,ix2_1,ix3_0,ix3_1,ix3_2,mDNew,mMov,SO.opt]
    | str x=>
      have e:dEq (.str x) (.str x) = some true:=by
        have hs:PyData.strOk x = true:=h
        have h1:D.flat 60 (.str x) = true:=by simpa [D.flat] using hs
        unfold dEq
        rw [h1]
        simp [D.eq]
      show runF _ _ _ (m_lw_same (f_lw_same n)) _ = _
      unfold runF m_lw_same
      simp [sSeq,sSet,sRet,sRetN,sExp,sIf,sNil,sAsg,sPar,mVar,mK,mOp,mUn,mTst_e,tstK,mAnd,mOr,mNot,mAndV_e,andK,mOrV_e,orK,mNotV_e,notK,mIf,mEq,mNe,dEq_int,dEq_bl,mIsN,D.isNon,mCons,mNil,mTup,mLst,mMov,mCall,bLen,bAbs,mIsi,isT,D.isDct,mCallF_e,callK,callO,callR,fill,puts,mOwnA,gN,gT,gC,gE,SO.opt,dAdd,dSub,dLt,dLe,dGt,dGe,dNeg,mChain_e,chK,mTru,dTru,mSeqI,mRng,msk,ix2_0,ix2_1,ix3_0,ix3_1,ix3_2,mDNew,mMov,SO.opt,e]
def menu:List (Int × Int × Int):=[(1,1,2),(1,1,4),(2,1,2),(1,2,2),(2,2,2),(1,1,4),(3,1,2),(1,3,2),(2,1,4),(1,2,4),(3,2,2),(1,1,8)]
structure Plan (w p s:Int) : Prop where
  w:1 ≤ w ∧ w ≤ 3
  p:1 ≤ p ∧ p ≤ 3
  s:s = 2 ∨ s = 4 ∨ s = 8
abbrev pl (w p s:Int) : D:=.tup [.int w,.int p,.int s]
theorem menu_plan {w p s:Int} (h:(w,p,s) ∈ menu) : Plan w p s:=by
  have q:(menu.all fun z=>decide (1 ≤ z.1) && decide (z.1 ≤ 3) && (decide (1 ≤ z.2.1) && decide (z.2.1 ≤ 3)) && (z.2.2 == 2 || z.2.2 == 4 || z.2.2 == 8)) = true:=by decide
  have q:=List.all_eq_true.mp q _ h
  simp only [Bool.and_eq_true,Bool.or_eq_true,decide_eq_true_eq,beq_iff_eq] at q
  obtain ⟨⟨⟨a,b⟩,c,d⟩,e⟩:=q
  exact ⟨⟨a,b⟩,⟨c,d⟩,by omega⟩
theorem draw_lt {b:D} {n:Int} (hb:IsBag b) (h:0 < n) (h2:n < 18446744073709551616) : ∃ (r:Int) (b':D),drawF [b,.int n] = .ok (.int r) [some b',none] ∧ 0 ≤ r ∧ r < n ∧ IsBag b':=draw_any hb h (log_sm h h2)
theorem lw_plan_ev {b:D} (hb:IsBag b) : ∃ w p s b',f_lw_plan [b] = .ok (pl w p s) [some b'] ∧ (w,p,s) ∈ menu ∧ Plan w p s ∧ IsBag b':=by
  obtain ⟨r,b1,e1,r0,r1,hb1⟩:=draw_lt (n:=12) hb (by decide) (by decide)
  have em:∃ z ∈ menu,dIx (.lst (menu.map fun z=>pl z.1 z.2.1 z.2.2)) (.int r) = some (pl z.1 z.2.1 z.2.2):=by
    have hr:r.toNat < menu.length:=by
      have:menu.length = 12:=rfl
      omega
    refine ⟨menu[r.toNat],List.getElem_mem hr,?_⟩
    show atI _ r = _
    unfold atI ixN
    have hl:(menu.map fun z=>pl z.1 z.2.1 z.2.2).length = 12:=rfl
    rw [if_pos r0,if_pos (by rw [hl]; omega)]
    simp [hr]
  obtain ⟨⟨w,p,s⟩,hz,ez⟩:=em
  refine ⟨w,p,s,b1,?_,hz,menu_plan hz,hb1⟩
  refine run_eq f_lw_plan_eq (by conv=>lhs; simp) ?_
  have e2:sSet 1 (mCat (mVar 1) (mLst (mCons (mTup (mCons (mK (.int 3)) (mCons (mK (.int 1)) (mCons (mK (.int 2)) mNil)))) (mCons (mTup (mCons (mK (.int 1)) (mCons (mK (.int 3)) (mCons (mK (.int 2)) mNil)))) (mCons (mTup (mCons (mK (.int 2)) (mCons (mK (.int 1)) (mCons (mK (.int 4)) mNil)))) (mCons (mTup (mCons (mK (.int 1)) (mCons (mK (.int 2)) (mCons (mK (.int 4)) mNil)))) (mCons (mTup (mCons (mK (.int 3)) (mCons (mK (.int 2)) (mCons (mK (.int 2)) mNil)))) (mCons (mTup (mCons (mK (.int 1)) (mCons (mK (.int 1)) (mCons (mK (.int 8)) mNil)))) mNil))))))))
      [some b,some (.lst [pl 1 1 2,pl 1 1 4,pl 2 1 2,pl 1 2 2,pl 2 2 2,pl 1 1 4])] = .nx [some b,some (.lst (menu.map fun z=>pl z.1 z.2.1 z.2.2))]:=rfl
  refine nx_step rfl (show _ = SO.nx [some b,some (.lst [pl 1 1 2,pl 1 1 4,pl 2 1 2,pl 1 2 2,pl 2 2 2,pl 1 1 4])] from rfl) ?_
  refine nx_step rfl e2 ?_
  generalize (menu.map fun z=>pl z.1 z.2.1 z.2.2) = LM at *
  refine nx_is (by conv=>lhs; simp [sSeq,sSet,sRet,sRetN,sExp,sIf,sNil,sAsg,sPar,mVar,mK,mOp,mUn,mTst_e,tstK,mAnd,mOr,mNot,mAndV_e,andK,mOrV_e,orK,mNotV_e,notK,mIf,mEq,mNe,dEq_int,dEq_bl,mIsN,D.isNon,mCons,mNil,mTup,mLst,mMov,mCall,bLen,bAbs,mIsi,isT,D.isDct,mCallF_e,callK,callO,callR,fill,puts,mOwnA,gN,gT,gC,gE,SO.opt,dAdd,dSub,dLt,dLe,dGt,dGe,dNeg,mChain_e,chK,mTru,dTru,mSeqI,mRng,msk,ix2_0,ix2_1,ix3_0,ix3_1,ix3_2,mDNew,mMov,SO.opt,m_lw_plan_3,e1,ez]) ?_
  rfl
def pairs (l:List D) (m:List D) : List D:=l.flatMap fun x=>m.map fun y=>.tup [x,y]
def plc (w p s:Int) : List D:=pairs (rng 0 (w * s + 1).toNat) (rng 0 (p * s + 1).toNat)
theorem Plan.sm {w p s:Int} (h:Plan w p s) : 0 < s ∧ s ≤ 8 ∧ 0 < w * s ∧ w * s ≤ 24 ∧ 0 < p * s ∧ p * s ≤ 24:=by
  obtain ⟨h1,h2,h3⟩:=h
  rcases h3 with rfl | rfl | rfl <;> omega
theorem pairs_len (l m:List D) : (pairs l m).length = l.length * m.length:=by
  induction l with
  | nil=>simp [pairs]
  | cons a l ih=>
    unfold pairs at ih ⊢
    rw [List.flatMap_cons,List.length_append,ih,List.length_map,List.length_cons,Nat.add_mul,Nat.one_mul,Nat.add_comm]
theorem Plan.len {w p s:Int} (h:Plan w p s) : (plc w p s).length < 16000000:=by
  have k:=h.sm
  unfold plc
  rw [pairs_len,rng_len,rng_len]
  have h1:(w * s + 1).toNat ≤ 25:=by omega
  have h2:(p * s + 1).toNat ≤ 25:=by omega
  exact Nat.lt_of_le_of_lt (Nat.mul_le_mul h1 h2) (by decide)
def cor (s:Int) : D → Bool
  | .tup [.int x,.int y]=>x % s == 0 && y % s == 0
  | _=>false
abbrev pt (x y:Int) : D:=.tup [.int x,.int y]
/-- a cut of the plan -/
structure Cut (w p s x y:Int) : Prop where
  P:Plan w p s
  hx:0 ≤ x ∧ x ≤ w * s
  hy:0 ≤ y ∧ y ≤ p * s
  c:(x % s == 0 && y % s == 0) = false
theorem Cut.no {w p s x y:Int} (h:Cut w p s x y) : ¬(x % s = 0 ∧ y % s = 0):=fun z=>by
  have c:=h.c
  rw [z.1,z.2] at c
  cases c
def stp (x y:Int) : Int:=if x % 4 = 0 ∧ y % 4 = 0 then 4 else if x % 2 = 0 ∧ y % 2 = 0 then 2 else 1
/-- in the middle of a square -/
def cen (x y:Int) : Bool:=x / stp x y % 2 == 1 && y / stp x y % 2 == 1
abbrev I2:=Int × Int
def ups2 (x y:Int) : I2 × I2:=
  if cen x y = true then (if (x - stp x y + y - stp x y) / (2 * stp x y) % 2 = 0 then ((x - stp x y,y + stp x y),(x + stp x y,y - stp x y)) else ((x - stp x y,y - stp x y),(x + stp x y,y + stp x y)))
  else if x / stp x y % 2 = 1 then ((x,y - stp x y),(x,y + stp x y)) else ((x - stp x y,y),(x + stp x y,y))
abbrev ptP (a:I2) : D:=pt a.1 a.2
def inb (w p s:Int) : D → Bool
  | .tup [.int x,.int y]=>(decide (0 ≤ x) && decide (x ≤ w * s)) && (decide (0 ≤ y) && decide (y ≤ p * s))
  | _=>false
def upq (w p s:Int) (d:D) : Bool:=inb w p s d && !cor s d
theorem Cut.of {w p s x y:Int} (h:Plan w p s) (q:upq w p s (pt x y) = true) : Cut w p s x y:=by
  obtain ⟨q1,q2⟩:=Bool.and_eq_true_iff.mp q
  unfold inb at q1
  simp at q1
  exact ⟨h,⟨q1.1.1,q1.1.2⟩,⟨q1.2.1,q1.2.2⟩,(Bool.not_eq_true' _).mp q2⟩
theorem Cut.st {w p s x y:Int} (h:Cut w p s x y) : (s = 2 ∧ stp x y = 1) ∨ (s = 4 ∧ (stp x y = 1 ∨ stp x y = 2)) ∨ (s = 8 ∧ (stp x y = 1 ∨ stp x y = 2 ∨ stp x y = 4)):=by
  have q:=h.P.s
  have n:=h.no
  unfold stp
  rcases q with rfl | rfl | rfl
  · left
    refine ⟨rfl,?_⟩
    rw [if_neg (fun z=>n (by omega)),if_neg n]
  · right; left
    refine ⟨rfl,?_⟩
    rw [if_neg n]
    split <;> simp
  · right; right
    refine ⟨rfl,?_⟩
    split
    · simp
    · split <;> simp
theorem Cut.le {w p s x y:Int} (h:Cut w p s x y) : (0 ≤ x ∧ x ≤ 24) ∧ (0 ≤ y ∧ y ≤ 24):=by
  have k:=h.P.sm
  have a:=h.hx
  have b:=h.hy
  omega
theorem dEq_pt {a b c d:Int} : dEq (pt a b) (pt c d) = some (a == c && b == d):=by
  unfold dEq
  simp [D.flat,D.flats,D.eq,D.eqs]
theorem Cut.upq {w p s x y:Int} (h:Cut w p s x y) : Bk.upq w p s (pt x y) = true:=by
  refine Bool.and_eq_true_iff.mpr ⟨?_,(Bool.not_eq_true' _).mpr h.c⟩
  unfold inb
  simp [h.hx.1,h.hx.2,h.hy.1,h.hy.2]
structure Tr where
  a:Int
  b:Int
  c:Int
  d:Int
  e:Int
  f:Int
def Tr.D (t:Tr) : Bk.D:=.tup [.int t.a,.int t.b,.int t.c,.int t.d,.int t.e,.int t.f]
def odd (t:Tr) : Bool:=(t.a + t.c) % 2 == 1 || (t.b + t.d) % 2 == 1
def h1 (t:Tr) : Tr:=⟨t.a,t.b,t.e,t.f,(t.a + t.c) / 2,(t.b + t.d) / 2⟩
def h2 (t:Tr) : Tr:=⟨t.e,t.f,t.c,t.d,(t.a + t.c) / 2,(t.b + t.d) / 2⟩
def tree:Nat → Tr → List Tr
  | 0,_=>[]
  | n + 1,t=>t :: if odd t = true then [] else tree n (h1 t) ++ tree n (h2 t)
def fitT:Nat → Tr → Bool
  | 0,_=>false
  | n + 1,t=>odd t || (fitT n (h1 t) && fitT n (h2 t))
theorem tree_self {n:Nat} {t:Tr} (h:fitT n t = true) : t ∈ tree n t:=by
  cases n with
  | zero=>cases h
  | succ n=>exact List.mem_cons_self
/-- a tree's triangles have their halves in it -/
theorem tree_half:∀ {n:Nat} {r t:Tr},fitT n r = true → t ∈ tree n r → odd t = false → h1 t ∈ tree n r ∧ h2 t ∈ tree n r
  | 0,_,_,h,_,_=>by cases h
  | n + 1,r,t,h,ht,ho=>by
    have hf:(odd r || (fitT n (h1 r) && fitT n (h2 r))) = true:=h
    have ht:t ∈ r :: (if odd r = true then [] else tree n (h1 r) ++ tree n (h2 r)):=ht
    show h1 t ∈ r :: (if odd r = true then [] else tree n (h1 r) ++ tree n (h2 r)) ∧ h2 t ∈ r :: (if odd r = true then [] else tree n (h1 r) ++ tree n (h2 r))
    cases hr:odd r with
    | true=>
      rw [hr,if_pos rfl] at ht
      rw [List.mem_singleton.mp ht,hr] at ho
      cases ho
    | false=>
      rw [hr,if_neg (by decide)] at ht
      rw [if_neg (by decide)]
      rw [hr,Bool.false_or,Bool.and_eq_true] at hf
      rcases List.mem_cons.mp ht with e | ht
      · rw [e]
        exact ⟨List.mem_cons_of_mem _ (List.mem_append_left _ (tree_self hf.1)),List.mem_cons_of_mem _ (List.mem_append_right _ (tree_self hf.2))⟩
      · rcases List.mem_append.mp ht with ht | ht
        · obtain ⟨q1,q2⟩:=tree_half hf.1 ht ho
          exact ⟨List.mem_cons_of_mem _ (List.mem_append_left _ q1),List.mem_cons_of_mem _ (List.mem_append_left _ q2)⟩
        · obtain ⟨q1,q2⟩:=tree_half hf.2 ht ho
          exact ⟨List.mem_cons_of_mem _ (List.mem_append_right _ q1),List.mem_cons_of_mem _ (List.mem_append_right _ q2)⟩
theorem ix6_0 {a b c d e f:D} : dIx (.tup [a,b,c,d,e,f]) (.int 0) = some a:=rfl
theorem ix6_1 {a b c d e f:D} : dIx (.tup [a,b,c,d,e,f]) (.int 1) = some b:=rfl
theorem ix6_2 {a b c d e f:D} : dIx (.tup [a,b,c,d,e,f]) (.int 2) = some c:=rfl
theorem ix6_3 {a b c d e f:D} : dIx (.tup [a,b,c,d,e,f]) (.int 3) = some d:=rfl
theorem ix6_4 {a b c d e f:D} : dIx (.tup [a,b,c,d,e,f]) (.int 4) = some e:=rfl
theorem ix6_5 {a b c d e f:D} : dIx (.tup [a,b,c,d,e,f]) (.int 5) = some f:=rfl
def mid (t:Tr) : D:=if odd t = true then .non else .tup [.int ((t.a + t.c) / 2),.int ((t.b + t.d) / 2)]
/-- the roots of a plan -/
def rts2 (i j s:Int) : List Tr:=if (i + j) % 2 == 0 then [⟨i * s,j * s,i * s + s,j * s + s,i * s + s,j * s⟩,⟨i * s + s,j * s + s,i * s,j * s,i * s,j * s + s⟩]
  else [⟨i * s + s,j * s,i * s,j * s + s,i * s + s,j * s + s⟩,⟨i * s,j * s + s,i * s + s,j * s,i * s,j * s⟩]
def rts (w p s:Int) : List Tr:=(List.range w.toNat).flatMap fun (i:Nat)=>(List.range p.toNat).flatMap fun (j:Nat)=>rts2 (i:Int) (j:Int) s
def shp (w p s:Int) : List Tr:=(rts w p s).flatMap (tree 8)
def plans:List (Int × Int × Int):=[(1,1,2),(1,1,4),(1,1,8),(1,2,2),(1,2,4),(1,2,8),(1,3,2),(1,3,4),(1,3,8),(2,1,2),(2,1,4),(2,1,8),(2,2,2),(2,2,4),(2,2,8),(2,3,2),(2,3,4),(2,3,8),
  (3,1,2),(3,1,4),(3,1,8),(3,2,2),(3,2,4),(3,2,8),(3,3,2),(3,3,4),(3,3,8)]
theorem Plan.mem {w p s:Int} (q:Plan w p s) : (w,p,s) ∈ plans:=by
  obtain ⟨hw,hp,hs⟩:=q
  have hw:w = 1 ∨ w = 2 ∨ w = 3:=by omega
  have hp:p = 1 ∨ p = 2 ∨ p = 3:=by omega
  rcases hw with rfl | rfl | rfl <;> rcases hp with rfl | rfl | rfl <;> rcases hs with rfl | rfl | rfl <;> decide
/-- what the kernel has found for all plans -/
theorem by_plans {f:Int → Int → Int → Bool} (h:(plans.all fun z=>f z.1 z.2.1 z.2.2) = true) {w p s:Int} (q:Plan w p s) : f w p s = true:=List.all_eq_true.mp h _ q.mem
theorem rts_fit {w p s:Int} (h:Plan w p s) : (∀ t ∈ rts w p s,fitT 8 t = true) ∧ 0 < (rts w p s).length ∧ (rts w p s).length ≤ 18:=by
  have q:=by_plans (f:=fun w p s=>(rts w p s).all (fitT 8) && (decide (0 < (rts w p s).length) && decide ((rts w p s).length ≤ 18))) (by decide +kernel) h
  simp only [Bool.and_eq_true,decide_eq_true_eq,List.all_eq_true] at q
  exact ⟨q.1,q.2.1,q.2.2⟩
theorem shp_half {w p s:Int} (h:Plan w p s) {t:Tr} (ht:t ∈ shp w p s) (ho:odd t = false) : h1 t ∈ shp w p s ∧ h2 t ∈ shp w p s:=by
  unfold shp at ht ⊢
  obtain ⟨r,hr,ht⟩:=List.mem_flatMap.mp ht
  obtain ⟨q1,q2⟩:=tree_half ((rts_fit h).1 r hr) ht ho
  exact ⟨List.mem_flatMap.mpr ⟨r,hr,q1⟩,List.mem_flatMap.mpr ⟨r,hr,q2⟩⟩
theorem shp_root {w p s:Int} (h:Plan w p s) {t:Tr} (ht:t ∈ rts w p s) : t ∈ shp w p s:=List.mem_flatMap.mpr ⟨t,ht,tree_self ((rts_fit h).1 t ht)⟩
theorem lw_middle_ev (t:Tr) : f_lw_middle [t.D] = .ok (mid t) [none]:=by
  have m:=fun i=>dMod_p (i:=i) (j:=2) (by decide)
  have v:=fun i=>dDiv_p (i:=i) (j:=2) (by decide) (by decide)
  show runF _ _ _ m_lw_middle _ = _
  unfold runF m_lw_middle mid odd Tr.D
  cases q1:(t.a + t.c) % 2 == 1 <;> cases q2:(t.b + t.d) % 2 == 1 <;> simp [sSeq,sSet,sRet,sRetN,sExp,sIf,sNil,sAsg,sPar,mVar,mK,mOp,mUn,mTst_e,tstK,mAnd,mOr,mNot,mAndV_e,andK,mOrV_e,orK,mNotV_e,notK,mIf,mEq,mNe,dEq_int,dEq_bl,mIsN,D.isNon,mCons,mNil,mTup,mLst,mMov,mCall,bLen,bAbs,mIsi,isT,D.isDct,mCallF_e,callK,callO,callR,fill,puts,mOwnA,gN,gT,gC,gE,SO.opt,dAdd,dSub,dLt,dLe,dGt,dGe,dNeg,mChain_e,chK,mTru,dTru,mSeqI,mRng,msk,ix2_0,ix2_1,ix3_0,ix3_1,ix3_2,mDNew,mMov,SO.opt,ix6_0,ix6_1,ix6_2,ix6_3,m,v,q1,q2]
theorem lw_halves_ev (t:Tr) (h:odd t = false) : f_lw_halves [t.D] = .ok (.lst [(h1 t).D,(h2 t).D]) [none]:=by
  have e:=lw_middle_ev t
  unfold mid at e
  rw [h,if_neg (by decide)] at e
  show runF _ _ _ m_lw_halves _ = _
  unfold runF m_lw_halves
  unfold Tr.D at e ⊢
  simp [sSeq,sSet,sRet,sRetN,sExp,sIf,sNil,sAsg,sPar,mVar,mK,mOp,mUn,mTst_e,tstK,mAnd,mOr,mNot,mAndV_e,andK,mOrV_e,orK,mNotV_e,notK,mIf,mEq,mNe,dEq_int,dEq_bl,mIsN,D.isNon,mCons,mNil,mTup,mLst,mMov,mCall,bLen,bAbs,mIsi,isT,D.isDct,mCallF_e,callK,callO,callR,fill,puts,mOwnA,gN,gT,gC,gE,SO.opt,dAdd,dSub,dLt,dLe,dGt,dGe,dNeg,mChain_e,chK,mTru,dTru,mSeqI,mRng,msk,ix2_0,ix2_1,ix3_0,ix3_1,ix3_2,mDNew,mMov,SO.opt,e,h1,h2,ix6_0,ix6_1,ix6_2,ix6_3,ix6_4,ix6_5]
theorem lw_roots_ev {w p s:Int} (h:Plan w p s) : f_lw_roots [pl w p s] = .ok (.lst ((rts w p s).map Tr.D)) [none]:=by
  have q:=by_plans (f:=fun w p s=>match okV 1 (f_lw_roots [pl w p s]) with | some d=>D.beq d (.lst ((rts w p s).map Tr.D)) | none=>false) (by decide +kernel) h
  split at q
  · rename_i d e
    rw [okV_eq e,D.beq_eq _ _ q]
    rfl
  · cases q
theorem two_ix {T1 T2:D} {r:Int} (h0:0 ≤ r) (h1:r < 2) : ∃ d,dIx (.lst [T1,T2]) (.int r) = some d ∧ (d = T1 ∨ d = T2):=by
  have:r = 0 ∨ r = 1:=by omega
  rcases this with rfl | rfl
  · exact ⟨T1,rfl,.inl rfl⟩
  · exact ⟨T2,rfl,.inr rfl⟩
theorem rng_s {k:Int} (h0:0 ≤ k) (h1:k < 16000000) : bRng1 [.int k] = some (rng 0 k.toNat):=rng_z (by
  unfold rg
  exact decide_eq_true ⟨by decide,by decide,by omega,by omega⟩)
theorem lw_shape_ev {w p s:Int} {b:D} (h:Plan w p s) (hb:IsBag b) : ∃ (t:Tr) (b':D),t ∈ shp w p s ∧ f_lw_shape [b,pl w p s] = .ok t.D [some b',none] ∧ IsBag b':=by
  have re:=lw_roots_ev h
  have hl:=(rts_fit h).2
  obtain ⟨r,b1,e1,r0,r1,hb1⟩:=draw_any (many:=(((rts w p s).map Tr.D).length:Int)) hb (by rw [List.length_map]; omega) (log_sm (by rw [List.length_map]; omega) (by rw [List.length_map]; omega))
  obtain ⟨d,hm,ed⟩:=ix_mem r0 r1
  obtain ⟨t0,ht0,rfl⟩:=List.mem_map.mp hm
  obtain ⟨k,b2,e2,k0,k1,hb2⟩:=draw_any (many:=8) hb1 (by decide) (by decide)
  have rk:=rng_s (k:=k) k0 (by omega)
  refine run_go f_lw_shape_eq (Q:=fun r=>∃ (t:Tr) (b':D),t ∈ shp w p s ∧ r = .ok t.D [some b',none] ∧ IsBag b') (by conv=>lhs; simp) ?_
  have ht:=shp_root h ht0
  generalize pl w p s = PL at *
  generalize (rts w p s).map Tr.D = L at *
  refine nx_step rfl (by conv=>lhs; simp [sSeq,sSet,sRet,sRetN,sExp,sIf,sNil,sAsg,sPar,mVar,mK,mOp,mUn,mTst_e,tstK,mAnd,mOr,mNot,mAndV_e,andK,mOrV_e,orK,mNotV_e,notK,mIf,mEq,mNe,dEq_int,dEq_bl,mIsN,D.isNon,mCons,mNil,mTup,mLst,mMov,mCall,bLen,bAbs,mIsi,isT,D.isDct,mCallF_e,callK,callO,callR,fill,puts,mOwnA,gN,gT,gC,gE,SO.opt,dAdd,dSub,dLt,dLe,dGt,dGe,dNeg,mChain_e,chK,mTru,dTru,mSeqI,mRng,msk,ix2_0,ix2_1,ix3_0,ix3_1,ix3_2,mDNew,mMov,SO.opt,re]) ?_
  refine nx_step rfl (by conv=>lhs; simp [sSeq,sSet,sRet,sRetN,sExp,sIf,sNil,sAsg,sPar,mVar,mK,mOp,mUn,mTst_e,tstK,mAnd,mOr,mNot,mAndV_e,andK,mOrV_e,orK,mNotV_e,notK,mIf,mEq,mNe,dEq_int,dEq_bl,mIsN,D.isNon,mCons,mNil,mTup,mLst,mMov,mCall,bLen,bAbs,mIsi,isT,D.isDct,mCallF_e,callK,callO,callR,fill,puts,mOwnA,gN,gT,gC,gE,SO.opt,dAdd,dSub,dLt,dLe,dGt,dGe,dNeg,mChain_e,chK,mTru,dTru,mSeqI,mRng,msk,ix2_0,ix2_1,ix3_0,ix3_1,ix3_2,mDNew,mMov,SO.opt,e1,ed]) ?_
  refine for_step (fun _ st=>∃ b3 t o,IsBag b3 ∧ t ∈ shp w p s ∧ st = [some b3,some PL,some (.lst L),some (Tr.D t),o]) rfl (by conv=>lhs; simp [sSeq,sSet,sRet,sRetN,sExp,sIf,sNil,sAsg,sPar,mVar,mK,mOp,mUn,mTst_e,tstK,mAnd,mOr,mNot,mAndV_e,andK,mOrV_e,orK,mNotV_e,notK,mIf,mEq,mNe,dEq_int,dEq_bl,mIsN,D.isNon,mCons,mNil,mTup,mLst,mMov,mCall,bLen,bAbs,mIsi,isT,D.isDct,mCallF_e,callK,callO,callR,fill,puts,mOwnA,gN,gT,gC,gE,SO.opt,dAdd,dSub,dLt,dLe,dGt,dGe,dNeg,mChain_e,chK,mTru,dTru,mSeqI,mRng,msk,ix2_0,ix2_1,ix3_0,ix3_1,ix3_2,mDNew,mMov,SO.opt,e2,rk]) ⟨b2,t0,none,hb2,ht,rfl⟩ (fun d rest st ⟨b3,t,o,hb3,ht3,es⟩=>?_) fun st ⟨b3,t,o,hb3,ht3,es⟩=>?_
  · subst es
    refine ⟨_,rfl,?_⟩
    have me:=lw_middle_ev t
    unfold mid at me
    cases ho:odd t with
    | true=>
      rw [ho,if_pos rfl] at me
      refine nx_is (by conv=>lhs; simp [sSeq,sSet,sRet,sRetN,sExp,sIf,sNil,sAsg,sPar,mVar,mK,mOp,mUn,mTst_e,tstK,mAnd,mOr,mNot,mAndV_e,andK,mOrV_e,orK,mNotV_e,notK,mIf,mEq,mNe,dEq_int,dEq_bl,mIsN,D.isNon,mCons,mNil,mTup,mLst,mMov,mCall,bLen,bAbs,mIsi,isT,D.isDct,mCallF_e,callK,callO,callR,fill,puts,mOwnA,gN,gT,gC,gE,SO.opt,dAdd,dSub,dLt,dLe,dGt,dGe,dNeg,mChain_e,chK,mTru,dTru,mSeqI,mRng,msk,ix2_0,ix2_1,ix3_0,ix3_1,ix3_2,mDNew,mMov,SO.opt,m_lw_shape_4,me]) ?_
      exact ⟨b3,t,_,hb3,ht3,rfl⟩
    | false=>
      rw [ho,if_neg (by decide)] at me
      have hv:=lw_halves_ev t ho
      obtain ⟨q,b4,e4,q0,q1,hb4⟩:=draw_any (many:=2) hb3 (by decide) (by decide)
      obtain ⟨d,ei,hd2⟩:=two_ix (T1:=(h1 t).D) (T2:=(h2 t).D) q0 q1
      obtain ⟨y1,y2⟩:=shp_half h ht3 ho
      have hd3:∃ t2:Tr,t2 ∈ shp w p s ∧ d = t2.D:=by
        rcases hd2 with rfl | rfl
        · exact ⟨_,y1,rfl⟩
        · exact ⟨_,y2,rfl⟩
      obtain ⟨t2,ht2,rfl⟩:=hd3
      refine nx_is (by conv=>lhs; simp [sSeq,sSet,sRet,sRetN,sExp,sIf,sNil,sAsg,sPar,mVar,mK,mOp,mUn,mTst_e,tstK,mAnd,mOr,mNot,mAndV_e,andK,mOrV_e,orK,mNotV_e,notK,mIf,mEq,mNe,dEq_int,dEq_bl,mIsN,D.isNon,mCons,mNil,mTup,mLst,mMov,mCall,bLen,bAbs,mIsi,isT,D.isDct,mCallF_e,callK,callO,callR,fill,puts,mOwnA,gN,gT,gC,gE,SO.opt,dAdd,dSub,dLt,dLe,dGt,dGe,dNeg,mChain_e,chK,mTru,dTru,mSeqI,mRng,msk,ix2_0,ix2_1,ix3_0,ix3_1,ix3_2,mDNew,mMov,SO.opt,m_lw_shape_4,m_lw_shape_5,me,hv,e4,ei]) ?_
      exact ⟨b4,t2,_,hb4,ht2,rfl⟩
  · subst es
    refine nx_is (by conv=>lhs; simp [sSeq,sSet,sRet,sRetN,sExp,sIf,sNil,sAsg,sPar,mVar,mK,mOp,mUn,mTst_e,tstK,mAnd,mOr,mNot,mAndV_e,andK,mOrV_e,orK,mNotV_e,notK,mIf,mEq,mNe,dEq_int,dEq_bl,mIsN,D.isNon,mCons,mNil,mTup,mLst,mMov,mCall,bLen,bAbs,mIsi,isT,D.isDct,mCallF_e,callK,callO,callR,fill,puts,mOwnA,gN,gT,gC,gE,SO.opt,dAdd,dSub,dLt,dLe,dGt,dGe,dNeg,mChain_e,chK,mTru,dTru,mSeqI,mRng,msk,ix2_0,ix2_1,ix3_0,ix3_1,ix3_2,mDNew,mMov,SO.opt,m_lw_shape_6]) ?_
    exact ⟨t,b3,ht3,rfl,hb3⟩
def kP (a:I2) : List Key:=[.inl a.1,.inl a.2]
theorem kDs_kP (a:I2) : kDs (kP a) = ptP a:=rfl
theorem kP_inj {a b:I2} (h:kP a = kP b) : a = b:=by
  unfold kP at h
  injection h with h1 h2
  injection h2 with h2 _
  exact Prod.ext (Sum.inl.inj h1) (Sum.inl.inj h2)
theorem kP_mem {L:List I2} {a:I2} : kP a ∈ L.map kP ↔ a ∈ L:=⟨fun h=>by
  obtain ⟨b,hb,e⟩:=List.mem_map.mp h
  rw [←kP_inj e]
  exact hb,fun h=>List.mem_map.mpr ⟨a,h,rfl⟩⟩
theorem memK_pt {L:List I2} {a:I2} : memK (L.map kP) (kP a) = decide (a ∈ L):=by
  by_cases h:a ∈ L
  · rw [memK_iff.mpr (kP_mem.mpr h),decide_eq_true h]
  · rw [decide_eq_false h]
    cases e:memK (L.map kP) (kP a) with
    | false=>rfl
    | true=>exact absurd (kP_mem.mp (memK_iff.mp e)) h
def leP (a b:I2) : Bool:=decide (a.1 < b.1 ∨ (a.1 = b.1 ∧ a.2 ≤ b.2))
def ltP2 (a b:I2) : Prop:=a.1 < b.1 ∨ (a.1 = b.1 ∧ a.2 < b.2)
theorem dSle_pt (a b:I2) : dSle (ptP a) (ptP b) = leP a b:=congrFun (congrFun (PySem.W.dataLe_ii (β:=I2) (fun a=>a.1) fun a=>a.2) a) b
theorem sort_pts (L:List I2) : (L.map ptP).mergeSort dSle = (L.mergeSort leP).map ptP:=(List.map_mergeSort fun a _ b _=>(dSle_pt a b).symm).symm
theorem alike_pt (a b:I2) : PySem.W.alike (ptP a).py (ptP b).py = true:=by
  show PySem.W.alike (.tuple [.int a.1,.int a.2]) (.tuple [.int b.1,.int b.2]) = true
  simp [PySem.W.alike,PySem.W.alikeAll]
theorem flats_ptP (L:List I2) : D.flats 60 (L.map ptP) = true:=by
  induction L with
  | nil=>rfl
  | cons a L ih=>
    show (D.flat 60 (ptP a) && D.flats 60 (L.map ptP)) = true
    rw [ih]
    rfl
theorem sortOk_pts (L:List I2) : sortOk (L.map ptP) = true:=by
  unfold sortOk
  rw [flats_ptP,Bool.true_and,Bool.and_eq_true,List.all_eq_true]
  refine ⟨fun d hd=>List.all_eq_true.mpr fun e he=>?_,?_⟩
  · obtain ⟨a,_,rfl⟩:=List.mem_map.mp hd
    obtain ⟨b,_,rfl⟩:=List.mem_map.mp he
    exact alike_pt a b
  · rw [Bool.or_eq_true]
    refine .inl (List.all_eq_true.mpr fun d hd=>?_)
    obtain ⟨a,_,rfl⟩:=List.mem_map.mp hd
    rfl
theorem dSorted_pts (L:List I2) : dSorted (.lst (L.map ptP)) = some ((L.mergeSort leP).map ptP):=by
  show (if sortOk (L.map ptP) = true then some ((L.map ptP).mergeSort dSle) else none) = _
  rw [if_pos (sortOk_pts L),sort_pts]
theorem ltP2_asym (a b:I2) (h1:ltP2 a b) (h2:ltP2 b a) : False:=by
  unfold ltP2 at *
  omega
def isCut (w p s:Int) (a:I2) : Prop:=Cut w p s a.1 a.2
def upI (w p s:Int) (a:I2) : List I2:=[(ups2 a.1 a.2).1,(ups2 a.1 a.2).2].filter fun b=>upq w p s (ptP b)
/-- how many of a list are not yet there -/
def left (L ks:List I2) : Nat:=(L.filter fun a=>decide (a ∉ ks)).length
theorem dInD_pt {ks:List I2} {vs:List D} {b:I2} : dInD (ptP b) (.dct (ks.map kP) vs) = some (decide (b ∈ ks)):=by
  show some (memK (ks.map kP) (kP b)) = _
  rw [memK_pt]
theorem flats_le {n:Nat} : ∀ L:List I2,D.flats (n + 1) (L.map ptP) = true
  | []=>rfl
  | a :: L=>by
    show (D.flat (n + 1) (ptP a) && D.flats (n + 1) (L.map ptP)) = true
    rw [flats_le L]
    rfl
theorem eq_ptP (a b:I2) : D.eq (ptP a) (ptP b) = decide (a = b):=by
  have h:D.eq (ptP a) (ptP b) = (a.1 == b.1 && a.2 == b.2):=by simp [ptP,D.eq,D.eqs]
  rw [h]
  apply Bool.eq_iff_iff.mpr
  rw [Bool.and_eq_true,decide_eq_true_iff]
  exact ⟨fun q=>Prod.ext (eq_of_beq q.1) (eq_of_beq q.2),fun q=>by subst q; simp⟩
theorem dIn_ptL (a:I2) (L:List I2) : dIn (ptP a) (.lst (L.map ptP)) = some (decide (a ∈ L)):=by
  have h1:D.flat 60 (ptP a) = true:=rfl
  have h2:D.flat 60 (.lst (L.map ptP)) = true:=flats_le (n:=58) L
  unfold dIn
  show (if (D.flat 60 (ptP a) && D.flat 60 (.lst (L.map ptP))) = true then _ else _) = _
  rw [h1,h2]
  show some _ = some _
  congr 1
  apply Bool.eq_iff_iff.mpr
  rw [List.any_eq_true,decide_eq_true_iff]
  constructor
  · rintro ⟨d,hd,e⟩
    obtain ⟨b,hb,rfl⟩:=List.mem_map.mp hd
    rw [eq_ptP,decide_eq_true_iff] at e
    rw [←e]
    exact hb
  · intro hb
    exact ⟨ptP a,List.mem_map.mpr ⟨a,hb,rfl⟩,by rw [eq_ptP,decide_eq_true rfl]⟩
theorem log_b {z:Int} {k:Nat} (hk:0 < k) (h:z.natAbs < 2 ^ k) : z.natAbs.log2 < k:=by
  rcases Nat.eq_zero_or_pos z.natAbs with e | e
  · rw [e]; exact hk
  · exact (Nat.log2_lt (by omega)).mpr h
theorem dMul_b {i j:Int} (h1:i.natAbs < 2 ^ 250) (h2:j.natAbs < 2 ^ 250) : dMul (.int i) (.int j) = some (.int (i * j)):=by
  refine if_pos ?_
  unfold mulOk
  have a:=log_b (by decide) h1
  have b:=log_b (by decide) h2
  rw [Bool.or_eq_true,Bool.or_eq_true]
  exact .inr (.inr (decide_eq_true (by omega)))
abbrev gc (a b:Int) : Int:=(Nat.gcd a.natAbs b.natAbs:Nat)
theorem abs_nat (a:Int) : (if a < 0 then -a else a) = (a.natAbs:Int):=by
  split <;> omega
theorem gc_pos {a b:Int} (hb:b ≠ 0) : 0 < gc a b:=by
  have:0 < Nat.gcd a.natAbs b.natAbs:=Nat.gcd_pos_of_pos_right _ (by omega)
  show 0 < ((Nat.gcd a.natAbs b.natAbs:Nat) : Int)
  omega
theorem gc_lt {a b:Int} (hb:b ≠ 0) : (gc a b).natAbs ≤ b.natAbs:=by
  have:Nat.gcd a.natAbs b.natAbs ≤ b.natAbs:=Nat.gcd_le_right _ (by omega)
  show ((Nat.gcd a.natAbs b.natAbs:Nat) : Int).natAbs ≤ _
  omega
theorem dDivS_b {i j:Int} (h:j ≠ 0) (h2:j.natAbs < 2 ^ 250) : dDivS (.int i) (.int j) = some (.int (i.fdiv j)):=
  if_pos ⟨h,Nat.lt_trans (log_b (by decide) h2) (by decide)⟩
def gs (a b:Int) : Int:=if b < 0 then 0 - gc a b else gc a b
theorem gs_ok {a b:Int} (hb:b ≠ 0) (hs:b.natAbs < 2 ^ 250) : gs a b ≠ 0 ∧ (gs a b).natAbs < 2 ^ 250:=by
  have h1:=gc_pos (a:=a) hb
  have h2:=gc_lt (a:=a) hb
  unfold gs
  split
  · exact ⟨by omega,by rw [Int.zero_sub,Int.natAbs_neg]; exact Nat.lt_of_le_of_lt h2 hs⟩
  · exact ⟨by omega,Nat.lt_of_le_of_lt h2 hs⟩
def shS (a b:Int) : D:=.tup [.int (a.fdiv (gs a b)),.int (b.fdiv (gs a b))]
theorem loop_low:∀ (n m k:Nat) (A B:D) (o:Option D),k < n → ∃ o',whileM (mTst (mOp dGt (mVar 3) (mK (.int 0)))) (sSeq (sSet 4 (mOp dMod (mVar 2) (mVar 3))) (sSeq (sSet 2 (mVar 3)) (sSet 3 (mVar 4)))) n [some A,some B,some (.int (m:Int)),some (.int (k:Int)),o] = .nx [some A,some B,some (.int (Nat.gcd m k:Nat)),some (.int 0),o']
  | 0,_,_,_,_,_,h=>by omega
  | n + 1,m,k,A,B,o,h=>by
    rcases Nat.eq_zero_or_pos k with rfl | hk
    · rw [Nat.gcd_zero_right]
      exact ⟨o,wh_stop (by simp [sSeq,sSet,sRet,sRetN,sExp,sIf,sNil,sAsg,sPar,mVar,mK,mOp,mUn,mTst_e,tstK,mAnd,mOr,mNot,mAndV_e,andK,mOrV_e,orK,mNotV_e,notK,mIf,mEq,mNe,dEq_int,dEq_bl,mIsN,D.isNon,mCons,mNil,mTup,mLst,mMov,mCall,bLen,bAbs,mIsi,isT,D.isDct,mCallF_e,callK,callO,callR,fill,puts,mOwnA,gN,gT,gC,gE,SO.opt,dAdd,dSub,dLt,dLe,dGt,dGe,dNeg,mChain_e,chK,mTru,dTru,mSeqI,mRng,msk,ix2_0,ix2_1,ix3_0,ix3_1,ix3_2,mDNew,mMov,SO.opt])⟩
    · have e:((m:Int) % (k:Int)) = ((m % k:Nat) : Int):=(Int.natCast_emod m k).symm
      have hm:m % k < k:=Nat.mod_lt m hk
      obtain ⟨o',ih⟩:=loop_low n k (m % k) A B (some (.int ((m % k:Nat) : Int))) (by omega)
      refine ⟨o',?_⟩
      have hd:=dMod_p (i:=(m:Int)) (j:=(k:Int)) (by omega)
      rw [e] at hd
      have hk0:0 < (k:Int):=by omega
      rw [wh_go (s2:=[some A,some B,some (.int (k:Int)),some (.int ((m % k:Nat) : Int)),some (.int ((m % k:Nat) : Int))]) (by
        generalize (m:Int) = M at *
        generalize (k:Int) = K at *
        simp [sSeq,sSet,sRet,sRetN,sExp,sIf,sNil,sAsg,sPar,mVar,mK,mOp,mUn,mTst_e,tstK,mAnd,mOr,mNot,mAndV_e,andK,mOrV_e,orK,mNotV_e,notK,mIf,mEq,mNe,dEq_int,dEq_bl,mIsN,D.isNon,mCons,mNil,mTup,mLst,mMov,mCall,bLen,bAbs,mIsi,isT,D.isDct,mCallF_e,callK,callO,callR,fill,puts,mOwnA,gN,gT,gC,gE,SO.opt,dAdd,dSub,dLt,dLe,dGt,dGe,dNeg,mChain_e,chK,mTru,dTru,mSeqI,mRng,msk,ix2_0,ix2_1,ix3_0,ix3_1,ix3_2,mDNew,mMov,SO.opt,hk0]) (by
        generalize ((m % k:Nat) : Int) = Q at *
        generalize (m:Int) = M at *
        generalize (k:Int) = K at *
        simp [sSeq,sSet,sRet,sRetN,sExp,sIf,sNil,sAsg,sPar,mVar,mK,mOp,mUn,mTst_e,tstK,mAnd,mOr,mNot,mAndV_e,andK,mOrV_e,orK,mNotV_e,notK,mIf,mEq,mNe,dEq_int,dEq_bl,mIsN,D.isNon,mCons,mNil,mTup,mLst,mMov,mCall,bLen,bAbs,mIsi,isT,D.isDct,mCallF_e,callK,callO,callR,fill,puts,mOwnA,gN,gT,gC,gE,SO.opt,dAdd,dSub,dLt,dLe,dGt,dGe,dNeg,mChain_e,chK,mTru,dTru,mSeqI,mRng,msk,ix2_0,ix2_1,ix3_0,ix3_1,ix3_2,mDNew,mMov,SO.opt,hd])]
      rw [ih,Nat.gcd_comm m k,Nat.gcd_rec k m,Nat.gcd_comm]
theorem low_ev {a b:Int} (hb:b ≠ 0) (hs:b.natAbs < 2 ^ 250) : f_lw_low [.int a,.int b] = .ok (shS a b) [none,none]:=by
  have ha:=abs_nat a
  have hb2:=abs_nat b
  have hg:=gs_ok (a:=a) hb hs
  have v:=fun i=>dDivS_b (i:=i) hg.1 hg.2
  obtain ⟨o',e⟩:=loop_low (((b.natAbs:Int).natAbs) + 1) a.natAbs b.natAbs (.int a) (.int b) none (by omega)
  have hw:sWhile fu_lw_low_1 (mTst (mOp dGt (mVar 3) (mK (.int 0)))) (sSeq (sSet 4 (mOp dMod (mVar 2) (mVar 3))) (sSeq (sSet 2 (mVar 3)) (sSet 3 (mVar 4)))) [some (.int a),some (.int b),some (.int (a.natAbs:Int)),some (.int (b.natAbs:Int)),none] = .nx [some (.int a),some (.int b),some (.int (gc a b)),some (.int 0),o']:=e
  refine run_eq f_lw_low_eq (by conv=>lhs; simp) ?_
  refine nx_step rfl (by conv=>lhs; simp [sSeq,sSet,sRet,sRetN,sExp,sIf,sNil,sAsg,sPar,mVar,mK,mOp,mUn,mTst_e,tstK,mAnd,mOr,mNot,mAndV_e,andK,mOrV_e,orK,mNotV_e,notK,mIf,mEq,mNe,dEq_int,dEq_bl,mIsN,D.isNon,mCons,mNil,mTup,mLst,mMov,mCall,bLen,bAbs,mIsi,isT,D.isDct,mCallF_e,callK,callO,callR,fill,puts,mOwnA,gN,gT,gC,gE,SO.opt,dAdd,dSub,dLt,dLe,dGt,dGe,dNeg,mChain_e,chK,mTru,dTru,mSeqI,mRng,msk,ix2_0,ix2_1,ix3_0,ix3_1,ix3_2,mDNew,mMov,SO.opt,ha]) ?_
  refine nx_step rfl (by conv=>lhs; simp [sSeq,sSet,sRet,sRetN,sExp,sIf,sNil,sAsg,sPar,mVar,mK,mOp,mUn,mTst_e,tstK,mAnd,mOr,mNot,mAndV_e,andK,mOrV_e,orK,mNotV_e,notK,mIf,mEq,mNe,dEq_int,dEq_bl,mIsN,D.isNon,mCons,mNil,mTup,mLst,mMov,mCall,bLen,bAbs,mIsi,isT,D.isDct,mCallF_e,callK,callO,callR,fill,puts,mOwnA,gN,gT,gC,gE,SO.opt,dAdd,dSub,dLt,dLe,dGt,dGe,dNeg,mChain_e,chK,mTru,dTru,mSeqI,mRng,msk,ix2_0,ix2_1,ix3_0,ix3_1,ix3_2,mDNew,mMov,SO.opt,hb2]) ?_
  refine nx_step rfl hw ?_
  refine nx_step rfl (s':=[some (.int a),some (.int b),some (.int (gs a b)),some (.int 0),o']) (by
    unfold gs
    generalize gc a b = g at *
    by_cases q:b < 0 <;> simp [sSeq,sSet,sRet,sRetN,sExp,sIf,sNil,sAsg,sPar,mVar,mK,mOp,mUn,mTst_e,tstK,mAnd,mOr,mNot,mAndV_e,andK,mOrV_e,orK,mNotV_e,notK,mIf,mEq,mNe,dEq_int,dEq_bl,mIsN,D.isNon,mCons,mNil,mTup,mLst,mMov,mCall,bLen,bAbs,mIsi,isT,D.isDct,mCallF_e,callK,callO,callR,fill,puts,mOwnA,gN,gT,gC,gE,SO.opt,dAdd,dSub,dLt,dLe,dGt,dGe,dNeg,mChain_e,chK,mTru,dTru,mSeqI,mRng,msk,ix2_0,ix2_1,ix3_0,ix3_1,ix3_2,mDNew,mMov,SO.opt,m_lw_low_6,m_lw_low_5,m_lw_low_4,m_lw_low_8,m_lw_low_9,m_lw_low_7,m_lw_low_3,m_lw_low_2,m_lw_low,q]) ?_
  unfold shS
  generalize gs a b = g at *
  refine nx_is (by conv=>lhs; simp [sSeq,sSet,sRet,sRetN,sExp,sIf,sNil,sAsg,sPar,mVar,mK,mOp,mUn,mTst_e,tstK,mAnd,mOr,mNot,mAndV_e,andK,mOrV_e,orK,mNotV_e,notK,mIf,mEq,mNe,dEq_int,dEq_bl,mIsN,D.isNon,mCons,mNil,mTup,mLst,mMov,mCall,bLen,bAbs,mIsi,isT,D.isDct,mCallF_e,callK,callO,callR,fill,puts,mOwnA,gN,gT,gC,gE,SO.opt,dAdd,dSub,dLt,dLe,dGt,dGe,dNeg,mChain_e,chK,mTru,dTru,mSeqI,mRng,msk,ix2_0,ix2_1,ix3_0,ix3_1,ix3_2,mDNew,mMov,SO.opt,m_lw_low_6,m_lw_low_5,m_lw_low_4,m_lw_low_8,m_lw_low_9,m_lw_low_7,m_lw_low_3,m_lw_low_2,m_lw_low,v]) ?_
  rfl
def Tr.small (t:Tr) : Prop:=(-100 ≤ t.a ∧ t.a ≤ 100) ∧ (-100 ≤ t.b ∧ t.b ≤ 100) ∧ (-100 ≤ t.c ∧ t.c ≤ 100) ∧ (-100 ≤ t.d ∧ t.d ≤ 100) ∧ (-100 ≤ t.e ∧ t.e ≤ 100) ∧ (-100 ≤ t.f ∧ t.f ≤ 100)
theorem corners_ev (t:Tr) : f_lw_corners_of [t.D] = .ok (.lst [pt t.a t.b,pt t.c t.d,pt t.e t.f]) [none]:=by
  refine run_eq f_lw_corners_of_eq (by conv=>lhs; simp) ?_
  rfl
def crs (a b c d e f:Int) : Int:=(c - a) * (f - b) - (e - a) * (d - b)
def sg (t:Tr) : Int:=if crs t.a t.b t.c t.d t.e t.f < 0 then -1 else 1
def v1 (t:Tr) (x y:Int) : Int:=sg t * crs x y t.c t.d t.e t.f
def v2 (t:Tr) (x y:Int) : Int:=sg t * crs t.a t.b x y t.e t.f
def v3 (t:Tr) (x y:Int) : Int:=sg t * crs t.a t.b t.c t.d x y
def xl (t:Tr) : Int:=min (min t.a t.c) t.e
/-- what halving keeps holds all through a tree -/
theorem tree_all {P:Tr → Prop} (hh:∀ t,P t → odd t = false → P (h1 t) ∧ P (h2 t)) : ∀ {n:Nat} {t u:Tr},P t → u ∈ tree n t → P u
  | 0,t,u,_,hu=>by
    unfold tree at hu
    cases hu
  | n + 1,t,u,ht,hu=>by
    unfold tree at hu
    rcases List.mem_cons.mp hu with rfl | hu
    · exact ht
    · cases ho:odd t with
      | true=>rw [ho] at hu; simp at hu
      | false=>
        rw [ho] at hu
        have hu:u ∈ tree n (h1 t) ++ tree n (h2 t):=by simpa using hu
        obtain ⟨a,b⟩:=hh t ht ho
        exact (List.mem_append.mp hu).elim (tree_all hh a) (tree_all hh b)
structure BoxT (W H:Int) (t:Tr) : Prop where
  a:0 ≤ t.a ∧ t.a ≤ W
  b:0 ≤ t.b ∧ t.b ≤ H
  c:0 ≤ t.c ∧ t.c ≤ W
  d:0 ≤ t.d ∧ t.d ≤ H
  e:0 ≤ t.e ∧ t.e ≤ W
  f:0 ≤ t.f ∧ t.f ≤ H
  cr:crs t.a t.b t.c t.d t.e t.f ≠ 0
theorem box_half {W H:Int} {t:Tr} (h:BoxT W H t) (ho:odd t = false) : BoxT W H (h1 t) ∧ BoxT W H (h2 t):=by
  obtain ⟨a,b,c,d,e,f,cr⟩:=h
  have ev:(t.a + t.c) % 2 = 0 ∧ (t.b + t.d) % 2 = 0:=by
    unfold odd at ho
    rw [Bool.or_eq_false_iff] at ho
    have h1:=ho.1
    have h2:=ho.2
    rw [beq_eq_false_iff_ne] at h1 h2
    omega
  have e1:2 * ((t.a + t.c) / 2) = t.a + t.c:=by omega
  have e2:2 * ((t.b + t.d) / 2) = t.b + t.d:=by omega
  have m1:0 ≤ (t.a + t.c) / 2 ∧ (t.a + t.c) / 2 ≤ W:=by omega
  have m2:0 ≤ (t.b + t.d) / 2 ∧ (t.b + t.d) / 2 ≤ H:=by omega
  refine ⟨⟨a,b,e,f,m1,m2,?_⟩,⟨e,f,c,d,m1,m2,?_⟩⟩
  · show crs t.a t.b t.e t.f ((t.a + t.c) / 2) ((t.b + t.d) / 2) ≠ 0
    generalize (t.a + t.c) / 2 = x at *
    generalize (t.b + t.d) / 2 = y at *
    intro z
    apply cr
    have k:2 * crs t.a t.b t.e t.f x y = -crs t.a t.b t.c t.d t.e t.f:=by
      unfold crs
      grind
    omega
  · show crs t.e t.f t.c t.d ((t.a + t.c) / 2) ((t.b + t.d) / 2) ≠ 0
    generalize (t.a + t.c) / 2 = x at *
    generalize (t.b + t.d) / 2 = y at *
    intro z
    apply cr
    have k:2 * crs t.e t.f t.c t.d x y = -crs t.a t.b t.c t.d t.e t.f:=by
      unfold crs
      grind
    omega
def boxB (w p s:Int) (t:Tr) : Bool:=([t.a,t.c,t.e].all fun z=>decide (0 ≤ z) && decide (z ≤ w * s)) && (([t.b,t.d,t.f].all fun z=>decide (0 ≤ z) && decide (z ≤ p * s)) && decide (crs t.a t.b t.c t.d t.e t.f ≠ 0))
theorem rts_box {w p s:Int} (h:Plan w p s) {t:Tr} (ht:t ∈ rts w p s) : BoxT (w * s) (p * s) t:=by
  have q:=by_plans (f:=fun w p s=>(rts w p s).all (boxB w p s)) (by decide +kernel) h
  have q:=List.all_eq_true.mp q t ht
  unfold boxB at q
  simp only [List.all_cons,List.all_nil,Bool.and_eq_true,decide_eq_true_eq,Bool.and_true] at q
  obtain ⟨⟨q1,q2,q3⟩,⟨q4,q5,q6⟩,q7⟩:=q
  exact ⟨q1,q4,q2,q5,q3,q6,q7⟩
theorem shp_box {w p s:Int} (h:Plan w p s) {t:Tr} (ht:t ∈ shp w p s) : BoxT (w * s) (p * s) t:=by
  obtain ⟨r,hr,hu⟩:=List.mem_flatMap.mp ht
  exact tree_all (P:=BoxT (w * s) (p * s)) (fun _=>box_half) (rts_box h hr) hu
theorem shp_small {w p s:Int} (h:Plan w p s) {t:Tr} (ht:t ∈ shp w p s) : t.small:=by
  obtain ⟨a,b,c,d,e,f,_⟩:=shp_box h ht
  have hs:=h.sm
  exact ⟨by omega,by omega,by omega,by omega,by omega,by omega⟩
def mdI (t:Tr) : I2:=((t.a + t.c) / 2,(t.b + t.d) / 2)
def hasM (C:List I2) (t:Tr) : Bool:=!odd t && decide (mdI t ∈ C)
def lvs (C:List I2) : Nat → Tr → List Tr
  | 0,t=>[t]
  | n + 1,t=>if hasM C t = true then lvs C n (h1 t) ++ lvs C n (h2 t) else [t]
/-- the triangles of the mesh of C -/
def mshT (w p s:Int) (C:List I2) : List Tr:=(rts w p s).flatMap (lvs C 8)
def meshD (w p s:Int) (S:List I2) : D:=.obj "Mesh" ["plan", "there", "parts"] [pl w p s,.dct (S.map kP) (List.replicate S.length (.bl true)),.lst ((mshT w p s S).map Tr.D)]
theorem fO_new {i:Nat} {f:Str} {m:M} {st s1:Env} {c:Str} {ns:List Str} {ds:List D} {d:D} (hm:m st = .ok d s1) (hi:s1[i]? = some (some (.obj c ns ds))) (hf:f ∉ ns) (hl:ns.length < 900) : sFldO i f m st = .nx (s1.set i (some (.obj c (ns ++ [f]) (ds ++ [d])))):=by
  unfold sFldO
  rw [hm]
  show (match s1[i]? with
    | some (some (.obj c ns ds))=>if f ∉ ns ∧ ns.length < 900 then SO.nx (s1.set i (some (.obj c (ns ++ [f]) (ds ++ [d])))) else .stuck
    | _=>.stuck) = _
  rw [hi]
  exact if_pos ⟨hf,hl⟩
theorem keys_pts (S:List I2) : (S.map kP).map kDs = S.map ptP:=by
  rw [List.map_map]
  exact List.map_congr_left fun a _=>kDs_kP a
def torn (a b:I2) : Err:=⟨"Cracked",["other", "at"],[ptP b,ptP a]⟩
theorem dEq_ptP (x a:I2) : dEq (ptP x) (ptP a) = some (decide (x = a)):=by
  obtain ⟨x1,x2⟩:=x
  obtain ⟨a1,a2⟩:=a
  refine (dEq_pt (a:=x1) (b:=x2) (c:=a1) (d:=a2)).trans ?_
  have q:(x1 == a1 && x2 == a2) = decide ((x1,x2) = (a1,a2)):=by
    rw [Bool.eq_iff_iff]
    simp
  rw [q]
def qP (a:I2) : D:=ptP a
def qL (S:List I2) : D:=.lst (S.map qP)
def qPl (w p s:Int) : D:=pl w p s
def qT (t:Tr) : D:=t.D
def qTs (L:List Tr) : D:=.lst (L.map qT)
def qS (S:List I2) : D:=.dct (S.map kP) (List.replicate S.length (.bl true))
def qM (w p s:Int) (S:List I2) : D:=meshD w p s S
theorem qP_x (a:I2) : dIx (qP a) (.int 0) = some (.int a.1):=rfl
theorem qP_y (a:I2) : dIx (qP a) (.int 1) = some (.int a.2):=rfl
theorem qPl_w (w p s:Int) : dIx (qPl w p s) (.int 0) = some (.int w):=rfl
theorem qPl_p (w p s:Int) : dIx (qPl w p s) (.int 1) = some (.int p):=rfl
theorem qPl_s (w p s:Int) : dIx (qPl w p s) (.int 2) = some (.int s):=rfl
theorem qP_in (a:I2) (L:List I2) : dIn (qP a) (qL L) = some (decide (a ∈ L)):=dIn_ptL a L
theorem qP_eq (a b:I2) : dEq (qP a) (qP b) = some (decide (a = b)):=dEq_ptP a b
theorem qP_inD (a:I2) (L:List I2) : dInD (qP a) (qS L) = some (decide (a ∈ L)):=dInD_pt
theorem qL_len (L:List I2) : bLen [qL L] = some (.int L.length):=by
  show some (D.int ((L.map qP).length:Nat)) = _
  rw [List.length_map]
theorem qTs_len (L:List Tr) : bLen [qTs L] = some (.int L.length):=by
  show some (D.int ((L.map qT).length:Nat)) = _
  rw [List.length_map]
theorem qL_one (a:I2) : D.lst [qP a] = qL [a]:=rfl
theorem qL_nil:D.lst [] = qL []:=rfl
theorem qL_two (a b:I2) : D.lst [qP a,qP b] = qL [a,b]:=rfl
theorem qL_map (L:List I2) : D.lst (L.map qP) = qL L:=rfl
theorem qTs_map (L:List Tr) : D.lst (L.map qT) = qTs L:=rfl
theorem qL_seq (L:List I2) : seqI (qL L) = some (L.map qP):=rfl
theorem qTs_seq (L:List Tr) : seqI (qTs L) = some (L.map qT):=rfl
theorem qS_keys (L:List I2) : keysI (qS L) = some (L.map qP):=congrArg some (keys_pts L)
theorem qL_sorted (L:List I2) : dSorted (qL L) = some ((L.mergeSort leP).map qP):=dSorted_pts L
theorem qL_list (L:List I2) : dList (qL L) = some (L.map qP):=rfl
theorem qTs_list (L:List Tr) : dList (qTs L) = some (L.map qT):=rfl
theorem qP_non (a:I2) : D.isNon (qP a) = false:=rfl
theorem qL_non (L:List I2) : D.isNon (qL L) = false:=rfl
theorem qM_non (w p s:Int) (S:List I2) : D.isNon (qM w p s S) = false:=rfl
theorem qM_obj (w p s:Int) (S:List I2) : (qM w p s S).isObj = true:=rfl
theorem qM_isO (w p s:Int) (S:List I2) : isO "Mesh" (qM w p s S) = true:=rfl
theorem qM_isi (w p s:Int) (S:List I2) : isiD "Mesh" (qM w p s S) = some (.bl true):=rfl
theorem qM_plan (w p s:Int) (S:List I2) : fldC "Mesh" "plan" (qM w p s S) = some (qPl w p s):=rfl
theorem qM_there (w p s:Int) (S:List I2) : fldC "Mesh" "there" (qM w p s S) = some (qS S):=rfl
theorem qM_parts (w p s:Int) (S:List I2) : fldC "Mesh" "parts" (qM w p s S) = some (qTs (mshT w p s S)):=rfl
theorem qM_isM (w p s:Int) (S:List I2) (m:Str) (h:(decide (m ∉ (["plan", "there", "parts"] : List Str))) = true:=by decide) : isM "Mesh" m (qM w p s S) = true:=decide_eq_true ⟨⟨rfl,of_decide_eq_true h⟩,by decide⟩
theorem qM_cut (w p s:Int) (S:List I2) : isM "Mesh" "cut" (qM w p s S) = true:=qM_isM w p s S "cut"
theorem qM_mend (w p s:Int) (S:List I2) : isM "Mesh" "mend" (qM w p s S) = true:=qM_isM w p s S "mend"
theorem qM_cuts (w p s:Int) (S:List I2) : isM "Mesh" "cuts" (qM w p s S) = true:=qM_isM w p s S "cuts"
theorem qM_tris (w p s:Int) (S:List I2) : isM "Mesh" "triangles" (qM w p s S) = true:=qM_isM w p s S "triangles"
theorem qP_mk (x y:Int) : D.tup [.int x,.int y] = qP (x,y):=rfl
theorem qL_s1 (a:I2) : slcD none (some 1) (qL [a]) = some (qL [a]):=rfl
theorem qL_s0 (a:I2) : slcD none (some 0) (qL [a]) = some (qL []):=rfl
theorem qZ_lst (ds:List D) : seqI (.lst ds) = some ds:=rfl
theorem qZ_tup (ds:List D) : seqI (.tup ds) = some ds:=rfl
theorem qM_mk (w p s:Int) (S:List I2) (s1 e:Env) : mkR s1 (.ok .non (some (qM w p s S) :: e)) = .ok (qM w p s S) s1:=rfl
theorem qN_non:D.isNon .non = true:=rfl
theorem qN_bl (b:Bool) : D.isNon (.bl b) = false:=rfl
theorem qN_int (b:Int) : D.isNon (.int b) = false:=rfl
theorem qN_str (b:Str) : D.isNon (.str b) = false:=rfl
theorem qN_tup (b:List D) : D.isNon (.tup b) = false:=rfl
theorem qN_lst (b:List D) : D.isNon (.lst b) = false:=rfl
theorem qB_lst (ds:List D) : bLen [.lst ds] = some (.int ds.length):=rfl
theorem qB_tup (ds:List D) : bLen [.tup ds] = some (.int ds.length):=rfl
theorem qL_unX (S:List I2) : unX (qL S) = qL S:=rfl
theorem qL_itX (S:List I2) : itX (qL S) = some (S.map qP):=rfl
theorem qL_lstOf (S:List I2) : lstOf (qL S) = some (S.map qP):=rfl
theorem qTs_unX (S:List Tr) : unX (qTs S) = qTs S:=rfl
theorem qTs_itX (S:List Tr) : itX (qTs S) = some (S.map qT):=rfl
theorem qTs_lstOf (S:List Tr) : lstOf (qTs S) = some (S.map qT):=rfl
theorem qTr_bl (b:Bool) : dTru (.bl b) = some b:=rfl
theorem qTr_non:dTru .non = some false:=rfl
theorem qTr_int (i:Int) : dTru (.int i) = some (i != 0):=rfl
theorem qTr_tup (L:List D) : dTru (.tup L) = some (!L.isEmpty):=rfl
theorem qTr_lst (L:List D) : dTru (.lst L) = some (!L.isEmpty):=rfl
theorem qTr_qL (S:List I2) : dTru (qL S) = some (!S.isEmpty):=by cases S <;> rfl
def eTorn (a b:I2) : Err:=⟨"Cracked",["other", "at"],[qP b,qP a]⟩
def eOut (a:I2) : Err:=⟨"NotIn",["at"],[qP a]⟩
def eTwice (a:I2) : Err:=⟨"Twice",["at"],[qP a]⟩
def inI (w p s:Int) (a:I2) : Bool:=inb w p s (ptP a)
def corI (s:Int) (a:I2) : Bool:=a.1 % s == 0 && a.2 % s == 0
def eNoPl (a:I2) : Err:=⟨"NoPlace",["at"],[qP a]⟩
def eNoCt (a:I2) : Err:=⟨"NoCut",["at"],[qP a]⟩
theorem comp_a {α:Type} {mi:MA} {i:Nat} {e:M} {s s0:Env} (L:List α) (q:α → D) (z:α → D) (hm:mi s = .ok (L.map q) s0) (hs:s0[i]? = some none) (hz:∀ a ∈ L,∃ o,e (s0.set i (some (q a))) = .ok (z a) (s0.set i o)) (hl:L.length < 16000000) : mComp mi (gN i) mYes e [i] s = .ok (D.lst (L.map z)) s0:=by
  have h:=comp_q (c:=mYes) (e:=e) L q (fun _=>true) z hm hs (fun a _=>rfl) (fun a ha _=>hz a ha) hl
  rw [List.filter_eq_self.mpr fun _ _=>rfl] at h
  exact h
inductive Tll where
  | place (a:I2) | corner (a:I2) | twice (a:I2) | out (a:I2) | torn (a b:I2)
def Tll.err:Tll → Err
  | .place a=>eNoPl a
  | .corner a=>eNoCt a
  | .twice a=>eTwice a
  | .out a=>eOut a
  | .torn a b=>eTorn a b
def Tll.d:Tll → D
  | .place a=>.tup [.str "place",qP a]
  | .corner a=>.tup [.str "corner",qP a]
  | .twice a=>.tup [.str "twice",qP a]
  | .out a=>.tup [.str "out",qP a]
  | .torn a b=>.tup [.str "cracked",qP a,qP b]
inductive ET where
  | nil
  | node (l:ET) (k:Nat) (v:List Tr) (r:ET)
def ET.all (f:List Tr → Bool) : ET → Bool
  | .nil=>true
  | .node l _ v r=>f v && (l.all f && r.all f)
theorem qT_0 (t:Tr) : dIx (qT t) (.int 0) = some (.int t.a):=rfl
theorem qT_1 (t:Tr) : dIx (qT t) (.int 1) = some (.int t.b):=rfl
theorem qT_2 (t:Tr) : dIx (qT t) (.int 2) = some (.int t.c):=rfl
theorem qT_3 (t:Tr) : dIx (qT t) (.int 3) = some (.int t.d):=rfl
theorem qT_4 (t:Tr) : dIx (qT t) (.int 4) = some (.int t.e):=rfl
theorem qT_5 (t:Tr) : dIx (qT t) (.int 5) = some (.int t.f):=rfl
abbrev Ht:=I2 → Int
def plcI (w p s:Int) : List I2:=(List.range (w * s + 1).toNat).flatMap fun (x:Nat)=>(List.range (p * s + 1).toNat).map fun (y:Nat)=>((x:Int),(y:Int))
theorem plcI_mem {w p s:Int} {a:I2} : a ∈ plcI w p s ↔ (0 ≤ a.1 ∧ a.1 < ((w * s + 1).toNat:Int)) ∧ (0 ≤ a.2 ∧ a.2 < ((p * s + 1).toNat:Int)):=by
  unfold plcI
  rw [List.mem_flatMap]
  constructor
  · rintro ⟨x,hx,ha⟩
    obtain ⟨y,hy,rfl⟩:=List.mem_map.mp ha
    have hx:=List.mem_range.mp hx
    have hy:=List.mem_range.mp hy
    exact ⟨⟨Int.natCast_nonneg _,Int.ofNat_lt.mpr hx⟩,⟨Int.natCast_nonneg _,Int.ofNat_lt.mpr hy⟩⟩
  · rintro ⟨⟨h1,h2⟩,h3,h4⟩
    refine ⟨a.1.toNat,List.mem_range.mpr (by omega),List.mem_map.mpr ⟨a.2.toNat,List.mem_range.mpr (by omega),?_⟩⟩
    show (((a.1.toNat:Nat) : Int),((a.2.toNat:Nat) : Int)) = a
    rw [Int.toNat_of_nonneg h1,Int.toNat_of_nonneg h3]
/-- a dict of ints by places -/
def qH (L:List I2) (f:Ht) : D:=.dct (L.map kP) (L.map fun a=>.int (f a))
theorem mRng1_at {f:List D → Option (List D)} {m:M} {s s1:Env} {d:D} {ds:List D} (h:m s = .ok d s1) (h2:f [d] = some ds) : mRng f (mCons m mNil) s = .ok ds s1:=by
  have e:mCons m mNil s = .ok [d] s1:=by
    unfold mCons
    rw [h]
    rfl
  unfold mRng
  rw [e,R.bind_ok,h2]
  rfl
def hOk (f:Ht) : Prop:=∀ a,-1000 ≤ f a ∧ f a ≤ 1000
theorem q_whole (i:Int) : f_is_whole [.int i] = .ok (.bl true) [none]:=by
  refine run_eq f_is_whole_eq (by conv=>lhs; simp) ?_; simp [m_is_whole,Hs,runK,sSeq,sSet,sRet,sRetN,sExp,sIf,sNil,sAsg,sPar,mVar,mK,mOp,mUn,mTst_e,tstK,mAnd,mOr,mNot,mAndV_e,andK,mOrV_e,orK,mNotV_e,notK,mIf,mEq,mNe,dEq_int,dEq_bl,mIsN,mCons,mNil,mTup,mLst,mMov,mCall,bAbs,mIsi,isT,D.isDct,mCallF_e,callK,callO,callR,fill,puts,mOwnA,gN,gT,gC,gE,SO.opt,dAdd,dSub,dLt,dLe,dGt,dGe,dNeg,mChain_e,chK,mTru,mSeqI_q,mKeysI_q,mFld_q,mMeth_q,mMake_q,mkR_err,clr_ok,clr_err,mIsiC_q,mLenM_q,mSlice_q,sTryRow_q,tryR_nx,tryR_err,mNewL,mCat,mInD,mInDN,mInB,sRaise,mVarX_q,varR,unX_own,unX_lst,unX_non,unX_tup,mLenX_q,itX_own,itX_lst,mIxX_q,atX_int,sAppX_q,appR_some,sInsX_q,insR_some,sSetXO_q,setR_some,lstOf_lst,ownOf_own,mOrT_e,orT,  mRng,msk,ix2_0,ix2_1,ix3_0,ix3_1,ix3_2,mDNew,mMov,SO.opt,qP_x,qP_y,qPl_w,qPl_p,qPl_s,qP_in,qP_eq,qP_inD,qL_len,qTs_len,qL_one,qL_nil,qL_two,qL_map,qTs_map,qL_seq,qTs_seq,qS_keys,qL_sorted,qL_list,qTs_list,qP_non,qL_non,qM_non,qM_obj,qM_isO,qM_isi,qM_plan,qM_there,qM_parts,qM_cut,qM_mend,qM_cuts,qM_tris,qP_mk,qL_s1,qL_s0,qZ_lst,qZ_tup,qM_mk,qN_non,qN_bl,qN_int,qN_str,qN_tup,qN_lst,qB_lst,qB_tup,qL_unX,qL_itX,qL_lstOf,qTs_unX,qTs_itX,qTs_lstOf,qTr_bl,qTr_non,qTr_int,qTr_tup,qTr_lst,qTr_qL]
/-- twice the area -/
def aT (t:Tr) : Int:=((crs t.a t.b t.c t.d t.e t.f).natAbs:Int)
/-- a triangle of the plan -/
structure Tin (w p s:Int) (t:Tr) : Prop where
  sm:t.small
  one:(t.a,t.b) ∈ plcI w p s
  two:(t.c,t.d) ∈ plcI w p s
  three:(t.e,t.f) ∈ plcI w p s
  area:aT t ≠ 0
theorem tin {w p s:Int} (h:Plan w p s) {t:Tr} (ht:t ∈ shp w p s) : Tin w p s t:=by
  obtain ⟨a,b,c,d,e,f,cr⟩:=shp_box h ht
  have hs:=h.sm
  refine ⟨shp_small h ht,plcI_mem.mpr ?_,plcI_mem.mpr ?_,plcI_mem.mpr ?_,?_⟩
  · simp only []; omega
  · simp only []; omega
  · simp only []; omega
  · unfold aT
    omega
def spotD:Option I2 → D
  | none=>.non
  | some a=>qP a
def kT (t:Tr) : List Key:=[.inl t.a,.inl t.b,.inl t.c,.inl t.d,.inl t.e,.inl t.f]
def pD (a:Int × Int) : D:=.tup [.int a.1,.int a.2]
def ltS (a b:Int × Int) : Bool:=decide (a.1 * b.2 < b.1 * a.2)
def okS (a:Int × Int) : Prop:=a.1.natAbs < 2 ^ 200 ∧ a.2.natAbs < 2 ^ 200
theorem q_less {a b:Int × Int} (ha:okS a) (hb:okS b) : f_less [pD a,pD b] = .ok (.bl (ltS a b)) [none,none]:=by
  have m1:=dMul_b (i:=a.1) (j:=b.2) (Nat.lt_of_lt_of_le ha.1 (by decide)) (Nat.lt_of_lt_of_le hb.2 (by decide))
  have m2:=dMul_b (i:=b.1) (j:=a.2) (Nat.lt_of_lt_of_le hb.1 (by decide)) (Nat.lt_of_lt_of_le ha.2 (by decide))
  obtain ⟨a1,a2⟩:=a
  obtain ⟨b1,b2⟩:=b
  unfold pD ltS
  simp only [] at m1 m2 ⊢
  refine run_eq f_less_eq (by conv=>lhs; simp) ?_; simp [m_less,Hs,runK,sSeq,sSet,sRet,sRetN,sExp,sIf,sNil,sAsg,sPar,mVar,mK,mOp,mUn,mTst_e,tstK,mAnd,mOr,mNot,mAndV_e,andK,mOrV_e,orK,mNotV_e,notK,mIf,mEq,mNe,dEq_int,dEq_bl,mIsN,mCons,mNil,mTup,mLst,mMov,mCall,bAbs,mIsi,isT,D.isDct,mCallF_e,callK,callO,callR,fill,puts,mOwnA,gN,gT,gC,gE,SO.opt,dAdd,dSub,dLt,dLe,dGt,dGe,dNeg,mChain_e,chK,mTru,mSeqI_q,mKeysI_q,mFld_q,mMeth_q,mMake_q,mkR_err,clr_ok,clr_err,mIsiC_q,mLenM_q,mSlice_q,sTryRow_q,tryR_nx,tryR_err,mNewL,mCat,mInD,mInDN,mInB,sRaise,mVarX_q,varR,unX_own,unX_lst,unX_non,unX_tup,mLenX_q,itX_own,itX_lst,mIxX_q,atX_int,sAppX_q,appR_some,sInsX_q,insR_some,sSetXO_q,setR_some,lstOf_lst,ownOf_own,mOrT_e,orT,  mRng,msk,ix2_0,ix2_1,ix3_0,ix3_1,ix3_2,mDNew,mMov,SO.opt,qP_x,qP_y,qPl_w,qPl_p,qPl_s,qP_in,qP_eq,qP_inD,qL_len,qTs_len,qL_one,qL_nil,qL_two,qL_map,qTs_map,qL_seq,qTs_seq,qS_keys,qL_sorted,qL_list,qTs_list,qP_non,qL_non,qM_non,qM_obj,qM_isO,qM_isi,qM_plan,qM_there,qM_parts,qM_cut,qM_mend,qM_cuts,qM_tris,qP_mk,qL_s1,qL_s0,qZ_lst,qZ_tup,qM_mk,qN_non,qN_bl,qN_int,qN_str,qN_tup,qN_lst,qB_lst,qB_tup,qL_unX,qL_itX,qL_lstOf,qTs_unX,qTs_itX,qTs_lstOf,qTr_bl,qTr_non,qTr_int,qTr_tup,qTr_lst,qTr_qL,m1,m2]
theorem q_lcorners (t:Tr) : f_lw_corners_of [qT t] = .ok (qL [(t.a,t.b),(t.c,t.d),(t.e,t.f)]) [none]:=corners_ev t
theorem q_llow {a b:Int} (hb:b ≠ 0) (hs:b.natAbs < 2 ^ 250) : f_lw_low [.int a,.int b] = .ok (shS a b) [none,none]:=low_ev hb hs
def lowS (a:Int × Int) : Prop:=0 < a.2 ∧ Int.gcd a.1 a.2 = 1
theorem q_lshape {w p s:Int} {b:D} (h:Plan w p s) (hb:IsBag b) : ∃ (t:Tr) (b':D),t ∈ shp w p s ∧ f_lw_shape [b,qPl w p s] = .ok (qT t) [some b',none] ∧ IsBag b':=lw_shape_ev h hb
def shA (a b:Int) : Int:=a.fdiv (gs a b)
def shB (a b:Int) : Int:=b.fdiv (gs a b)
theorem gs_dvd {a b:Int} : gs a b ∣ a ∧ gs a b ∣ b:=by
  have h1:gc a b ∣ a:=Int.gcd_dvd_left a b
  have h2:gc a b ∣ b:=Int.gcd_dvd_right a b
  unfold gs
  split
  · rw [Int.zero_sub]
    exact ⟨Int.neg_dvd.mpr h1,Int.neg_dvd.mpr h2⟩
  · exact ⟨h1,h2⟩
theorem sh_mul {a b:Int} (hb:b ≠ 0) : shA a b * gs a b = a ∧ shB a b * gs a b = b:=by
  have h0:gs a b ≠ 0:=by
    have:=gc_pos (a:=a) hb
    unfold gs
    split <;> omega
  obtain ⟨d1,d2⟩:=gs_dvd (a:=a) (b:=b)
  exact ⟨Int.fdiv_mul_cancel d1,Int.fdiv_mul_cancel d2⟩
theorem abs_of_mul {x y z:Int} (e:x * y = z) (hy:y ≠ 0) : x.natAbs ≤ z.natAbs:=by
  rw [←e,Int.natAbs_mul]
  exact Nat.le_mul_of_pos_right _ (by omega)
theorem sh_box {a b:Int} (hb:b ≠ 0) : (shA a b).natAbs ≤ a.natAbs ∧ (shB a b).natAbs ≤ b.natAbs:=by
  have h0:gs a b ≠ 0:=by
    have:=gc_pos (a:=a) hb
    unfold gs
    split <;> omega
  obtain ⟨e1,e2⟩:=sh_mul (a:=a) hb
  exact ⟨abs_of_mul e1 h0,abs_of_mul e2 h0⟩
theorem q_planM {b:D} (hb:IsBag b) : ∃ w p s b',f_lw_plan [b] = .ok (qPl w p s) [some b'] ∧ (w,p,s) ∈ menu ∧ Plan w p s ∧ IsBag b':=lw_plan_ev hb
theorem sh_low {a b:Int} (hb:b ≠ 0) : lowS (shA a b,shB a b):=by
  have hg:=gc_pos (a:=a) hb
  obtain ⟨e1,e2⟩:=sh_mul (a:=a) hb
  have hgs:gs a b = gc a b ∧ 0 < b ∨ gs a b = -gc a b ∧ b < 0:=by
    unfold gs
    split
    · exact .inr ⟨by omega,by omega⟩
    · exact .inl ⟨rfl,by omega⟩
  have e:gc a b = (Int.gcd a b:Int):=rfl
  refine ⟨?_,?_⟩
  · show 0 < shB a b
    rcases Int.lt_trichotomy (shB a b) 0 with z | z | z
    · exfalso
      rcases hgs with ⟨g,h⟩ | ⟨g,h⟩
      · rw [g] at e2
        have:=Int.mul_neg_of_neg_of_pos z hg
        omega
      · rw [g] at e2
        have:=Int.mul_neg_of_neg_of_pos z hg
        rw [Int.mul_neg] at e2
        omega
    · rw [z,Int.zero_mul] at e2; omega
    · exact z
  · show Int.gcd (shA a b) (shB a b) = 1
    have h1:Int.gcd (shA a b * gs a b) (shB a b * gs a b) = Int.gcd (shA a b) (shB a b) * (gs a b).natAbs:=Int.gcd_mul_right ..
    rw [e1,e2] at h1
    have h2:(gs a b).natAbs = Int.gcd a b:=by
      rcases hgs with ⟨g,h⟩ | ⟨g,h⟩
      · rw [g,e]; rfl
      · rw [g,e,Int.natAbs_neg]; rfl
    rw [h2] at h1
    have h3:0 < Int.gcd a b:=by omega
    exact (Nat.eq_of_mul_eq_mul_right h3 (by rw [Nat.one_mul]; exact h1)).symm
structure Vbx where
  x:Int
  y:Int
  u:Int
  v:Int
  t:Int × Int
structure Sg where
  top:Int × Int
  eye:Option I2
  bx:List Vbx
def bxD (b:Vbx) : D:=.tup [.int b.x,.int b.y,.int b.u,.int b.v,pD b.t]
def sgD (g:Sg) : D:=.tup [pD g.top,spotD g.eye,.lst (g.bx.map bxD)]
def vbn (b:Vbx) : Vbx:=⟨mn2 b.x b.u,mn2 b.y b.v,mx2 b.x b.u,mx2 b.y b.v,b.t⟩
def qV (g:Sg) : D:=.obj "View" ["tolerance", "eye", "boxes"] [pD g.top,spotD g.eye,.lst (g.bx.map fun b=>bxD (vbn b))]
/-- a tolerance -/
def okTt (a:Int × Int) : Prop:=(0 ≤ a.1 ∧ a.1.natAbs < 2 ^ 40) ∧ (0 < a.2 ∧ a.2.natAbs < 2 ^ 27)
structure gOk (g:Sg) : Prop where
  top:okTt g.top
  bx:∀ b ∈ g.bx,okTt b.t
  eye:∀ e,g.eye = some e → (-100 ≤ e.1 ∧ e.1 ≤ 100) ∧ (-100 ≤ e.2 ∧ e.2 ≤ 100)
theorem okT_S {a:Int × Int} (h:okTt a) : okS a:=⟨Nat.lt_of_lt_of_le h.1.2 (by decide),Nat.lt_of_lt_of_le h.2.2 (by decide)⟩
theorem qV_isM (g:Sg) (m:Str) (h:(decide (m ∉ (["tolerance", "eye", "boxes"] : List Str))) = true:=by decide) : isM "View" m (qV g) = true:=decide_eq_true ⟨⟨rfl,of_decide_eq_true h⟩,by decide⟩
theorem qV_tol (g:Sg) : fldC "View" "tolerance" (qV g) = some (pD g.top):=rfl
theorem qV_eye (g:Sg) : fldC "View" "eye" (qV g) = some (spotD g.eye):=rfl
theorem qV_bx (g:Sg) : fldC "View" "boxes" (qV g) = some (.lst (g.bx.map fun b=>bxD (vbn b))):=rfl
theorem qV_mk (g:Sg) (s1 e:Env) : mkR s1 (.ok .non (some (qV g) :: e)) = .ok (qV g) s1:=rfl
theorem bMax3 (a b c:Int) : bBest max [.lst [.int a,.int b,.int c]] = some (.int (max (max a b) c)):=rfl
theorem bMin3 (a b c:Int) : bBest min [.lst [.int a,.int b,.int c]] = some (.int (min (min a b) c)):=rfl
theorem nuMax3_i (a b c:Int) : bPick3 nuMax3 [.int a,.int b,.int c] = some (.int (max (max a b) c)):=by
  have e2:∀ i j:Int,nuMax2 (.int i) (.int j) = some (.int (max i j)):=fun i j=>by
    show some (if decide (i < j) = true then V.int j else V.int i) = _
    rw [Int.max_def]
    by_cases h:i < j
    · rw [if_pos (decide_eq_true h),if_pos (by omega)]
    · rw [if_neg (by simpa using h)]
      by_cases h2:i ≤ j
      · rw [if_pos h2]; congr 2; omega
      · rw [if_neg h2]
  show (match (nuMax2 (.int a) (.int b)).bind fun m=>nuMax2 m (.int c) with
    | some (.int m)=>some (D.int m)
    | _=>none) = _
  rw [e2]
  show (match nuMax2 (.int (max a b)) (.int c) with
    | some (.int m)=>some (D.int m)
    | _=>none) = _
  rw [e2]
theorem nuMin3_i (a b c:Int) : bPick3 nuMin3 [.int a,.int b,.int c] = some (.int (min (min a b) c)):=by
  have e2:∀ i j:Int,nuMin2 (.int i) (.int j) = some (.int (min i j)):=fun i j=>by
    show some (if decide (j < i) = true then V.int j else V.int i) = _
    rw [Int.min_def]
    by_cases h:j < i
    · rw [if_pos (decide_eq_true h),if_neg (by omega)]
    · rw [if_neg (by simpa using h),if_pos (by omega)]
  show (match (nuMin2 (.int a) (.int b)).bind fun m=>nuMin2 m (.int c) with
    | some (.int m)=>some (D.int m)
    | _=>none) = _
  rw [e2]
  show (match nuMin2 (.int (min a b)) (.int c) with
    | some (.int m)=>some (D.int m)
    | _=>none) = _
  rw [e2]
def tch (n:Vbx) (t:Tr) : Bool:=(decide (n.x ≤ max (max t.a t.c) t.e) && decide (n.u ≥ min (min t.a t.c) t.e)) && (decide (n.y ≤ max (max t.b t.d) t.f) && decide (n.v ≥ min (min t.b t.d) t.f))
theorem q_touches (n:Vbx) (t:Tr) : f_touches [bxD n,qT t] = .ok (.bl (tch n t)) [none,none]:=by
  refine run_eq f_touches_eq (by conv=>lhs; simp) ?_
  refine nx_step rfl (s':=[some (bxD n),some (qT t),some (.int n.x),some (.int n.y),some (.int n.u),some (.int n.v),some (pD n.t),none,none]) (by rfl) ?_
  have i0:=qT_0 t
  have i1:=qT_1 t
  have i2:=qT_2 t
  have i3:=qT_3 t
  have i4:=qT_4 t
  have i5:=qT_5 t
  have m1:=bMax3 t.a t.c t.e
  have m2:=bMin3 t.a t.c t.e
  have m3:=bMax3 t.b t.d t.f
  have m4:=bMin3 t.b t.d t.f
  unfold tch
  generalize qT t = T at *
  generalize bxD n = N at *
  generalize pD n.t = P at *
  generalize max (max t.a t.c) t.e = X1 at *
  generalize min (min t.a t.c) t.e = X2 at *
  generalize max (max t.b t.d) t.f = X3 at *
  generalize min (min t.b t.d) t.f = X4 at *
  refine nx_step rfl (by conv=>lhs; simp [sSeq,sSet,sRet,sRetN,sExp,sIf,sNil,sAsg,sPar,mVar,mK,mOp,mUn,mTst_e,tstK,mAnd,mOr,mNot,mAndV_e,andK,mOrV_e,orK,mNotV_e,notK,mIf,mEq,mNe,dEq_int,dEq_bl,mIsN,mCons,mNil,mTup,mLst,mMov,mCall,bAbs,mIsi,isT,D.isDct,mCallF_e,callK,callO,callR,fill,puts,mOwnA,gN,gT,gC,gE,SO.opt,dAdd,dSub,dLt,dLe,dGt,dGe,dNeg,mChain_e,chK,mTru,mSeqI_q,mKeysI_q,mFld_q,mMeth_q,mMake_q,mkR_err,clr_ok,clr_err,mIsiC_q,mLenM_q,mSlice_q,sTryRow_q,tryR_nx,tryR_err,mNewL,mCat,mInD,mInDN,mInB,sRaise,mVarX_q,varR,unX_own,unX_lst,unX_non,unX_tup,mLenX_q,itX_own,itX_lst,mIxX_q,atX_int,sAppX_q,appR_some,sInsX_q,insR_some,sSetXO_q,setR_some,lstOf_lst,ownOf_own,mOrT_e,orT,  mRng,msk,ix2_0,ix2_1,ix3_0,ix3_1,ix3_2,mDNew,mMov,SO.opt,qP_x,qP_y,qPl_w,qPl_p,qPl_s,qP_in,qP_eq,qP_inD,qL_len,qTs_len,qL_one,qL_nil,qL_two,qL_map,qTs_map,qL_seq,qTs_seq,qS_keys,qL_sorted,qL_list,qTs_list,qP_non,qL_non,qM_non,qM_obj,qM_isO,qM_isi,qM_plan,qM_there,qM_parts,qM_cut,qM_mend,qM_cuts,qM_tris,qP_mk,qL_s1,qL_s0,qZ_lst,qZ_tup,qM_mk,qN_non,qN_bl,qN_int,qN_str,qN_tup,qN_lst,qB_lst,qB_tup,qL_unX,qL_itX,qL_lstOf,qTs_unX,qTs_itX,qTs_lstOf,qTr_bl,qTr_non,qTr_int,qTr_tup,qTr_lst,qTr_qL,i0,i2,i4]) ?_
  refine nx_step rfl (by conv=>lhs; simp [sSeq,sSet,sRet,sRetN,sExp,sIf,sNil,sAsg,sPar,mVar,mK,mOp,mUn,mTst_e,tstK,mAnd,mOr,mNot,mAndV_e,andK,mOrV_e,orK,mNotV_e,notK,mIf,mEq,mNe,dEq_int,dEq_bl,mIsN,mCons,mNil,mTup,mLst,mMov,mCall,bAbs,mIsi,isT,D.isDct,mCallF_e,callK,callO,callR,fill,puts,mOwnA,gN,gT,gC,gE,SO.opt,dAdd,dSub,dLt,dLe,dGt,dGe,dNeg,mChain_e,chK,mTru,mSeqI_q,mKeysI_q,mFld_q,mMeth_q,mMake_q,mkR_err,clr_ok,clr_err,mIsiC_q,mLenM_q,mSlice_q,sTryRow_q,tryR_nx,tryR_err,mNewL,mCat,mInD,mInDN,mInB,sRaise,mVarX_q,varR,unX_own,unX_lst,unX_non,unX_tup,mLenX_q,itX_own,itX_lst,mIxX_q,atX_int,sAppX_q,appR_some,sInsX_q,insR_some,sSetXO_q,setR_some,lstOf_lst,ownOf_own,mOrT_e,orT,  mRng,msk,ix2_0,ix2_1,ix3_0,ix3_1,ix3_2,mDNew,mMov,SO.opt,qP_x,qP_y,qPl_w,qPl_p,qPl_s,qP_in,qP_eq,qP_inD,qL_len,qTs_len,qL_one,qL_nil,qL_two,qL_map,qTs_map,qL_seq,qTs_seq,qS_keys,qL_sorted,qL_list,qTs_list,qP_non,qL_non,qM_non,qM_obj,qM_isO,qM_isi,qM_plan,qM_there,qM_parts,qM_cut,qM_mend,qM_cuts,qM_tris,qP_mk,qL_s1,qL_s0,qZ_lst,qZ_tup,qM_mk,qN_non,qN_bl,qN_int,qN_str,qN_tup,qN_lst,qB_lst,qB_tup,qL_unX,qL_itX,qL_lstOf,qTs_unX,qTs_itX,qTs_lstOf,qTr_bl,qTr_non,qTr_int,qTr_tup,qTr_lst,qTr_qL,i1,i3,i5]) ?_
  generalize hL1:D.lst [.int t.a,.int t.c,.int t.e] = L1 at *
  generalize hL2:D.lst [.int t.b,.int t.d,.int t.f] = L2 at *
  by_cases h1:n.x ≤ X1
  · by_cases h2:n.u ≥ X2
    · by_cases h3:n.y ≤ X3
      · refine nx_is (by conv=>lhs; simp [sSeq,sSet,sRet,sRetN,sExp,sIf,sNil,sAsg,sPar,mVar,mK,mOp,mUn,mTst_e,tstK,mAnd,mOr,mNot,mAndV_e,andK,mOrV_e,orK,mNotV_e,notK,mIf,mEq,mNe,dEq_int,dEq_bl,mIsN,mCons,mNil,mTup,mLst,mMov,mCall,bAbs,mIsi,isT,D.isDct,mCallF_e,callK,callO,callR,fill,puts,mOwnA,gN,gT,gC,gE,SO.opt,dAdd,dSub,dLt,dLe,dGt,dGe,dNeg,mChain_e,chK,mTru,mSeqI_q,mKeysI_q,mFld_q,mMeth_q,mMake_q,mkR_err,clr_ok,clr_err,mIsiC_q,mLenM_q,mSlice_q,sTryRow_q,tryR_nx,tryR_err,mNewL,mCat,mInD,mInDN,mInB,sRaise,mVarX_q,varR,unX_own,unX_lst,unX_non,unX_tup,mLenX_q,itX_own,itX_lst,mIxX_q,atX_int,sAppX_q,appR_some,sInsX_q,insR_some,sSetXO_q,setR_some,lstOf_lst,ownOf_own,mOrT_e,orT,  mRng,msk,ix2_0,ix2_1,ix3_0,ix3_1,ix3_2,mDNew,mMov,SO.opt,qP_x,qP_y,qPl_w,qPl_p,qPl_s,qP_in,qP_eq,qP_inD,qL_len,qTs_len,qL_one,qL_nil,qL_two,qL_map,qTs_map,qL_seq,qTs_seq,qS_keys,qL_sorted,qL_list,qTs_list,qP_non,qL_non,qM_non,qM_obj,qM_isO,qM_isi,qM_plan,qM_there,qM_parts,qM_cut,qM_mend,qM_cuts,qM_tris,qP_mk,qL_s1,qL_s0,qZ_lst,qZ_tup,qM_mk,qN_non,qN_bl,qN_int,qN_str,qN_tup,qN_lst,qB_lst,qB_tup,qL_unX,qL_itX,qL_lstOf,qTs_unX,qTs_itX,qTs_lstOf,qTr_bl,qTr_non,qTr_int,qTr_tup,qTr_lst,qTr_qL,m_touches_4,m_touches_3,m_touches_2,m_touches,m1,m2,m3,m4,h1,h2,h3]) ?_
        simp [runK,msk,h1,h2,h3]
      · refine nx_is (by conv=>lhs; simp [sSeq,sSet,sRet,sRetN,sExp,sIf,sNil,sAsg,sPar,mVar,mK,mOp,mUn,mTst_e,tstK,mAnd,mOr,mNot,mAndV_e,andK,mOrV_e,orK,mNotV_e,notK,mIf,mEq,mNe,dEq_int,dEq_bl,mIsN,mCons,mNil,mTup,mLst,mMov,mCall,bAbs,mIsi,isT,D.isDct,mCallF_e,callK,callO,callR,fill,puts,mOwnA,gN,gT,gC,gE,SO.opt,dAdd,dSub,dLt,dLe,dGt,dGe,dNeg,mChain_e,chK,mTru,mSeqI_q,mKeysI_q,mFld_q,mMeth_q,mMake_q,mkR_err,clr_ok,clr_err,mIsiC_q,mLenM_q,mSlice_q,sTryRow_q,tryR_nx,tryR_err,mNewL,mCat,mInD,mInDN,mInB,sRaise,mVarX_q,varR,unX_own,unX_lst,unX_non,unX_tup,mLenX_q,itX_own,itX_lst,mIxX_q,atX_int,sAppX_q,appR_some,sInsX_q,insR_some,sSetXO_q,setR_some,lstOf_lst,ownOf_own,mOrT_e,orT,  mRng,msk,ix2_0,ix2_1,ix3_0,ix3_1,ix3_2,mDNew,mMov,SO.opt,qP_x,qP_y,qPl_w,qPl_p,qPl_s,qP_in,qP_eq,qP_inD,qL_len,qTs_len,qL_one,qL_nil,qL_two,qL_map,qTs_map,qL_seq,qTs_seq,qS_keys,qL_sorted,qL_list,qTs_list,qP_non,qL_non,qM_non,qM_obj,qM_isO,qM_isi,qM_plan,qM_there,qM_parts,qM_cut,qM_mend,qM_cuts,qM_tris,qP_mk,qL_s1,qL_s0,qZ_lst,qZ_tup,qM_mk,qN_non,qN_bl,qN_int,qN_str,qN_tup,qN_lst,qB_lst,qB_tup,qL_unX,qL_itX,qL_lstOf,qTs_unX,qTs_itX,qTs_lstOf,qTr_bl,qTr_non,qTr_int,qTr_tup,qTr_lst,qTr_qL,m_touches_4,m_touches_3,m_touches_2,m_touches,m1,m2,m3,m4,h1,h2,h3]) ?_
        simp [runK,msk,h1,h2,h3]
    · refine nx_is (by conv=>lhs; simp [sSeq,sSet,sRet,sRetN,sExp,sIf,sNil,sAsg,sPar,mVar,mK,mOp,mUn,mTst_e,tstK,mAnd,mOr,mNot,mAndV_e,andK,mOrV_e,orK,mNotV_e,notK,mIf,mEq,mNe,dEq_int,dEq_bl,mIsN,mCons,mNil,mTup,mLst,mMov,mCall,bAbs,mIsi,isT,D.isDct,mCallF_e,callK,callO,callR,fill,puts,mOwnA,gN,gT,gC,gE,SO.opt,dAdd,dSub,dLt,dLe,dGt,dGe,dNeg,mChain_e,chK,mTru,mSeqI_q,mKeysI_q,mFld_q,mMeth_q,mMake_q,mkR_err,clr_ok,clr_err,mIsiC_q,mLenM_q,mSlice_q,sTryRow_q,tryR_nx,tryR_err,mNewL,mCat,mInD,mInDN,mInB,sRaise,mVarX_q,varR,unX_own,unX_lst,unX_non,unX_tup,mLenX_q,itX_own,itX_lst,mIxX_q,atX_int,sAppX_q,appR_some,sInsX_q,insR_some,sSetXO_q,setR_some,lstOf_lst,ownOf_own,mOrT_e,orT,  mRng,msk,ix2_0,ix2_1,ix3_0,ix3_1,ix3_2,mDNew,mMov,SO.opt,qP_x,qP_y,qPl_w,qPl_p,qPl_s,qP_in,qP_eq,qP_inD,qL_len,qTs_len,qL_one,qL_nil,qL_two,qL_map,qTs_map,qL_seq,qTs_seq,qS_keys,qL_sorted,qL_list,qTs_list,qP_non,qL_non,qM_non,qM_obj,qM_isO,qM_isi,qM_plan,qM_there,qM_parts,qM_cut,qM_mend,qM_cuts,qM_tris,qP_mk,qL_s1,qL_s0,qZ_lst,qZ_tup,qM_mk,qN_non,qN_bl,qN_int,qN_str,qN_tup,qN_lst,qB_lst,qB_tup,qL_unX,qL_itX,qL_lstOf,qTs_unX,qTs_itX,qTs_lstOf,qTr_bl,qTr_non,qTr_int,qTr_tup,qTr_lst,qTr_qL,m_touches_4,m_touches_3,m_touches_2,m_touches,m1,m2,m3,m4,h1,h2]) ?_
      simp [runK,msk,h1,h2]
  · refine nx_is (by conv=>lhs; simp [sSeq,sSet,sRet,sRetN,sExp,sIf,sNil,sAsg,sPar,mVar,mK,mOp,mUn,mTst_e,tstK,mAnd,mOr,mNot,mAndV_e,andK,mOrV_e,orK,mNotV_e,notK,mIf,mEq,mNe,dEq_int,dEq_bl,mIsN,mCons,mNil,mTup,mLst,mMov,mCall,bAbs,mIsi,isT,D.isDct,mCallF_e,callK,callO,callR,fill,puts,mOwnA,gN,gT,gC,gE,SO.opt,dAdd,dSub,dLt,dLe,dGt,dGe,dNeg,mChain_e,chK,mTru,mSeqI_q,mKeysI_q,mFld_q,mMeth_q,mMake_q,mkR_err,clr_ok,clr_err,mIsiC_q,mLenM_q,mSlice_q,sTryRow_q,tryR_nx,tryR_err,mNewL,mCat,mInD,mInDN,mInB,sRaise,mVarX_q,varR,unX_own,unX_lst,unX_non,unX_tup,mLenX_q,itX_own,itX_lst,mIxX_q,atX_int,sAppX_q,appR_some,sInsX_q,insR_some,sSetXO_q,setR_some,lstOf_lst,ownOf_own,mOrT_e,orT,  mRng,msk,ix2_0,ix2_1,ix3_0,ix3_1,ix3_2,mDNew,mMov,SO.opt,qP_x,qP_y,qPl_w,qPl_p,qPl_s,qP_in,qP_eq,qP_inD,qL_len,qTs_len,qL_one,qL_nil,qL_two,qL_map,qTs_map,qL_seq,qTs_seq,qS_keys,qL_sorted,qL_list,qTs_list,qP_non,qL_non,qM_non,qM_obj,qM_isO,qM_isi,qM_plan,qM_there,qM_parts,qM_cut,qM_mend,qM_cuts,qM_tris,qP_mk,qL_s1,qL_s0,qZ_lst,qZ_tup,qM_mk,qN_non,qN_bl,qN_int,qN_str,qN_tup,qN_lst,qB_lst,qB_tup,qL_unX,qL_itX,qL_lstOf,qTs_unX,qTs_itX,qTs_lstOf,qTr_bl,qTr_non,qTr_int,qTr_tup,qTr_lst,qTr_qL,m_touches_4,m_touches_3,m_touches_2,m_touches,m1,m2,m3,m4,h1]) ?_
    simp [runK,msk,h1]
def limN (t:Tr) (b:Vbx) (o:Option (Int × Int)) : Option (Int × Int):=if (tch (vbn b) t && (match o with
  | none=>true
  | some a=>ltS b.t a)) = true then some b.t else o
def limB (t:Tr) : List Vbx → Option (Int × Int) → Option (Int × Int)
  | [],o=>o
  | b :: L,o=>limB t L (limN t b o)
def limS (g:Sg) (t:Tr) : Int × Int:=(limB t g.bx none).getD g.top
theorem limN_ok {t:Tr} {b:Vbx} (hb:okTt b.t) {o:Option (Int × Int)} (ho:∀ a,o = some a → okTt a) : ∀ a,limN t b o = some a → okTt a:=fun a h=>by
  unfold limN at h
  generalize (tch (vbn b) t && _) = c at h
  cases c with
  | true=>cases h; exact hb
  | false=>exact ho a h
def shD:Option (Int × Int) → D
  | none=>.non
  | some a=>pD a
theorem q_limit {g:Sg} (h:gOk g) (t:Tr) : f_View_limit [qV g,qT t] = .ok (pD (limS g t)) [none,none]:=by
  have f1:=qV_bx g
  have f2:=qV_tol g
  have tc:=fun n=>q_touches n t
  unfold limS
  refine run_eq f_View_limit_eq (by conv=>lhs; simp) ?_
  generalize qV g = V at *
  generalize qT t = T at *
  refine nx_step rfl (by conv=>lhs; simp [sSeq,sSet,sRet,sRetN,sExp,sIf,sNil,sAsg,sPar,mVar,mK,mOp,mUn,mTst_e,tstK,mAnd,mOr,mNot,mAndV_e,andK,mOrV_e,orK,mNotV_e,notK,mIf,mEq,mNe,dEq_int,dEq_bl,mIsN,mCons,mNil,mTup,mLst,mMov,mCall,bAbs,mIsi,isT,D.isDct,mCallF_e,callK,callO,callR,fill,puts,mOwnA,gN,gT,gC,gE,SO.opt,dAdd,dSub,dLt,dLe,dGt,dGe,dNeg,mChain_e,chK,mTru,mSeqI_q,mKeysI_q,mFld_q,mMeth_q,mMake_q,mkR_err,clr_ok,clr_err,mIsiC_q,mLenM_q,mSlice_q,sTryRow_q,tryR_nx,tryR_err,mNewL,mCat,mInD,mInDN,mInB,sRaise,mVarX_q,varR,unX_own,unX_lst,unX_non,unX_tup,mLenX_q,itX_own,itX_lst,mIxX_q,atX_int,sAppX_q,appR_some,sInsX_q,insR_some,sSetXO_q,setR_some,lstOf_lst,ownOf_own,mOrT_e,orT,  mRng,msk,ix2_0,ix2_1,ix3_0,ix3_1,ix3_2,mDNew,mMov,SO.opt,qP_x,qP_y,qPl_w,qPl_p,qPl_s,qP_in,qP_eq,qP_inD,qL_len,qTs_len,qL_one,qL_nil,qL_two,qL_map,qTs_map,qL_seq,qTs_seq,qS_keys,qL_sorted,qL_list,qTs_list,qP_non,qL_non,qM_non,qM_obj,qM_isO,qM_isi,qM_plan,qM_there,qM_parts,qM_cut,qM_mend,qM_cuts,qM_tris,qP_mk,qL_s1,qL_s0,qZ_lst,qZ_tup,qM_mk,qN_non,qN_bl,qN_int,qN_str,qN_tup,qN_lst,qB_lst,qB_tup,qL_unX,qL_itX,qL_lstOf,qTs_unX,qTs_itX,qTs_lstOf,qTr_bl,qTr_non,qTr_int,qTr_tup,qTr_lst,qTr_qL]) ?_
  refine for_step (ds:=g.bx.map fun b=>bxD (vbn b)) (s0:=[some V,some T,some .non,none]) (fun rest st=>∃ (l:List Vbx) (o:Option (Int × Int)) (o3:Option D),rest = l.map (fun b=>bxD (vbn b)) ∧ (∀ b ∈ l,b ∈ g.bx) ∧ (∀ a,o = some a → okTt a) ∧ limB t l o = limB t g.bx none ∧ st = [some V,some T,some (shD o),o3]) rfl (by simp [sSeq,sSet,sRet,sRetN,sExp,sIf,sNil,sAsg,sPar,mVar,mK,mOp,mUn,mTst_e,tstK,mAnd,mOr,mNot,mAndV_e,andK,mOrV_e,orK,mNotV_e,notK,mIf,mEq,mNe,dEq_int,dEq_bl,mIsN,mCons,mNil,mTup,mLst,mMov,mCall,bAbs,mIsi,isT,D.isDct,mCallF_e,callK,callO,callR,fill,puts,mOwnA,gN,gT,gC,gE,SO.opt,dAdd,dSub,dLt,dLe,dGt,dGe,dNeg,mChain_e,chK,mTru,mSeqI_q,mKeysI_q,mFld_q,mMeth_q,mMake_q,mkR_err,clr_ok,clr_err,mIsiC_q,mLenM_q,mSlice_q,sTryRow_q,tryR_nx,tryR_err,mNewL,mCat,mInD,mInDN,mInB,sRaise,mVarX_q,varR,unX_own,unX_lst,unX_non,unX_tup,mLenX_q,itX_own,itX_lst,mIxX_q,atX_int,sAppX_q,appR_some,sInsX_q,insR_some,sSetXO_q,setR_some,lstOf_lst,ownOf_own,mOrT_e,orT,  mRng,msk,ix2_0,ix2_1,ix3_0,ix3_1,ix3_2,mDNew,mMov,SO.opt,qP_x,qP_y,qPl_w,qPl_p,qPl_s,qP_in,qP_eq,qP_inD,qL_len,qTs_len,qL_one,qL_nil,qL_two,qL_map,qTs_map,qL_seq,qTs_seq,qS_keys,qL_sorted,qL_list,qTs_list,qP_non,qL_non,qM_non,qM_obj,qM_isO,qM_isi,qM_plan,qM_there,qM_parts,qM_cut,qM_mend,qM_cuts,qM_tris,qP_mk,qL_s1,qL_s0,qZ_lst,qZ_tup,qM_mk,qN_non,qN_bl,qN_int,qN_str,qN_tup,qN_lst,qB_lst,qB_tup,qL_unX,qL_itX,qL_lstOf,qTs_unX,qTs_itX,qTs_lstOf,qTr_bl,qTr_non,qTr_int,qTr_tup,qTr_lst,qTr_qL,f1]) ⟨g.bx,none,none,rfl,fun _ z=>z,(fun a z=>by cases z),rfl,rfl⟩ (fun d rest st ⟨l,o,o3,er,hl,ho,hE,es⟩=>?_) fun st ⟨l,o,o3,er,hl,ho,hE,es⟩=>?_
  · cases l with
    | nil=>cases er
    | cons b l=>
      subst es
      obtain ⟨hd,hr⟩:=List.cons.inj er
      have hd:d = bxD (vbn b):=hd
      subst hd
      refine ⟨_,rfl,?_⟩
      have hb:=h.bx b (hl b List.mem_cons_self)
      have go:∀ st',st' = [some V,some T,some (shD (limN t b o)),some (bxD (vbn b))] → (∃ (l:List Vbx) (o:Option (Int × Int)) (o3:Option D),rest = l.map (fun b=>bxD (vbn b)) ∧ (∀ b ∈ l,b ∈ g.bx) ∧ (∀ a,o = some a → okTt a) ∧ limB t l o = limB t g.bx none ∧ st' = [some V,some T,some (shD o),o3]):=fun st' e=>
        ⟨l,limN t b o,_,hr,fun c hc=>hl c (List.mem_cons_of_mem _ hc),limN_ok hb ho,hE,e⟩
      have tc:=tc (vbn b)
      have x4:dIx (bxD (vbn b)) (.int 4) = some (pD b.t):=rfl
      unfold limN at go
      generalize bxD (vbn b) = BD at *
      cases ht:tch (vbn b) t with
      | false=>
        rw [ht] at tc go
        generalize hS:shD o = S at *
        refine nx_is (o:=.nx [some V,some T,some S,some BD]) (by simp [sSeq,sSet,sRet,sRetN,sExp,sIf,sNil,sAsg,sPar,mVar,mK,mOp,mUn,mTst_e,tstK,mAnd,mOr,mNot,mAndV_e,andK,mOrV_e,orK,mNotV_e,notK,mIf,mEq,mNe,dEq_int,dEq_bl,mIsN,mCons,mNil,mTup,mLst,mMov,mCall,bAbs,mIsi,isT,D.isDct,mCallF_e,callK,callO,callR,fill,puts,mOwnA,gN,gT,gC,gE,SO.opt,dAdd,dSub,dLt,dLe,dGt,dGe,dNeg,mChain_e,chK,mTru,mSeqI_q,mKeysI_q,mFld_q,mMeth_q,mMake_q,mkR_err,clr_ok,clr_err,mIsiC_q,mLenM_q,mSlice_q,sTryRow_q,tryR_nx,tryR_err,mNewL,mCat,mInD,mInDN,mInB,sRaise,mVarX_q,varR,unX_own,unX_lst,unX_non,unX_tup,mLenX_q,itX_own,itX_lst,mIxX_q,atX_int,sAppX_q,appR_some,sInsX_q,insR_some,sSetXO_q,setR_some,lstOf_lst,ownOf_own,mOrT_e,orT,  mRng,msk,ix2_0,ix2_1,ix3_0,ix3_1,ix3_2,mDNew,mMov,SO.opt,qP_x,qP_y,qPl_w,qPl_p,qPl_s,qP_in,qP_eq,qP_inD,qL_len,qTs_len,qL_one,qL_nil,qL_two,qL_map,qTs_map,qL_seq,qTs_seq,qS_keys,qL_sorted,qL_list,qTs_list,qP_non,qL_non,qM_non,qM_obj,qM_isO,qM_isi,qM_plan,qM_there,qM_parts,qM_cut,qM_mend,qM_cuts,qM_tris,qP_mk,qL_s1,qL_s0,qZ_lst,qZ_tup,qM_mk,qN_non,qN_bl,qN_int,qN_str,qN_tup,qN_lst,qB_lst,qB_tup,qL_unX,qL_itX,qL_lstOf,qTs_unX,qTs_itX,qTs_lstOf,qTr_bl,qTr_non,qTr_int,qTr_tup,qTr_lst,qTr_qL,m_View_limit_4,m_View_limit_3,m_View_limit_5,m_View_limit_2,m_View_limit,tc]) ?_
        exact go _ (by rw [←hS]; rfl)
      | true=>
        rw [ht] at tc go
        cases o with
        | none=>
          refine nx_is (o:=.nx [some V,some T,some (pD b.t),some BD]) (by unfold shD; generalize pD b.t = PB at *; simp [sSeq,sSet,sRet,sRetN,sExp,sIf,sNil,sAsg,sPar,mVar,mK,mOp,mUn,mTst_e,tstK,mAnd,mOr,mNot,mAndV_e,andK,mOrV_e,orK,mNotV_e,notK,mIf,mEq,mNe,dEq_int,dEq_bl,mIsN,mCons,mNil,mTup,mLst,mMov,mCall,bAbs,mIsi,isT,D.isDct,mCallF_e,callK,callO,callR,fill,puts,mOwnA,gN,gT,gC,gE,SO.opt,dAdd,dSub,dLt,dLe,dGt,dGe,dNeg,mChain_e,chK,mTru,mSeqI_q,mKeysI_q,mFld_q,mMeth_q,mMake_q,mkR_err,clr_ok,clr_err,mIsiC_q,mLenM_q,mSlice_q,sTryRow_q,tryR_nx,tryR_err,mNewL,mCat,mInD,mInDN,mInB,sRaise,mVarX_q,varR,unX_own,unX_lst,unX_non,unX_tup,mLenX_q,itX_own,itX_lst,mIxX_q,atX_int,sAppX_q,appR_some,sInsX_q,insR_some,sSetXO_q,setR_some,lstOf_lst,ownOf_own,mOrT_e,orT,  mRng,msk,ix2_0,ix2_1,ix3_0,ix3_1,ix3_2,mDNew,mMov,SO.opt,qP_x,qP_y,qPl_w,qPl_p,qPl_s,qP_in,qP_eq,qP_inD,qL_len,qTs_len,qL_one,qL_nil,qL_two,qL_map,qTs_map,qL_seq,qTs_seq,qS_keys,qL_sorted,qL_list,qTs_list,qP_non,qL_non,qM_non,qM_obj,qM_isO,qM_isi,qM_plan,qM_there,qM_parts,qM_cut,qM_mend,qM_cuts,qM_tris,qP_mk,qL_s1,qL_s0,qZ_lst,qZ_tup,qM_mk,qN_non,qN_bl,qN_int,qN_str,qN_tup,qN_lst,qB_lst,qB_tup,qL_unX,qL_itX,qL_lstOf,qTs_unX,qTs_itX,qTs_lstOf,qTr_bl,qTr_non,qTr_int,qTr_tup,qTr_lst,qTr_qL,m_View_limit_4,m_View_limit_3,m_View_limit_5,m_View_limit_2,m_View_limit,tc,x4]) ?_
          exact go _ rfl
        | some a=>
          have ls:=q_less (okT_S hb) (okT_S (ho a rfl))
          have nn:D.isNon (pD a) = false:=rfl
          cases hlt:ltS b.t a with
          | false=>
            rw [hlt] at ls
            have go:=go [some V,some T,some (pD a),some BD] (by simp [hlt,shD])
            show Hs _ (m_View_limit_3 [some V,some T,some (pD a),some BD])
            generalize pD b.t = PB at *
            generalize pD a = PA at *
            refine nx_is (o:=.nx [some V,some T,some PA,some BD]) (by simp [sSeq,sSet,sRet,sRetN,sExp,sIf,sNil,sAsg,sPar,mVar,mK,mOp,mUn,mTst_e,tstK,mAnd,mOr,mNot,mAndV_e,andK,mOrV_e,orK,mNotV_e,notK,mIf,mEq,mNe,dEq_int,dEq_bl,mIsN,mCons,mNil,mTup,mLst,mMov,mCall,bAbs,mIsi,isT,D.isDct,mCallF_e,callK,callO,callR,fill,puts,mOwnA,gN,gT,gC,gE,SO.opt,dAdd,dSub,dLt,dLe,dGt,dGe,dNeg,mChain_e,chK,mTru,mSeqI_q,mKeysI_q,mFld_q,mMeth_q,mMake_q,mkR_err,clr_ok,clr_err,mIsiC_q,mLenM_q,mSlice_q,sTryRow_q,tryR_nx,tryR_err,mNewL,mCat,mInD,mInDN,mInB,sRaise,mVarX_q,varR,unX_own,unX_lst,unX_non,unX_tup,mLenX_q,itX_own,itX_lst,mIxX_q,atX_int,sAppX_q,appR_some,sInsX_q,insR_some,sSetXO_q,setR_some,lstOf_lst,ownOf_own,mOrT_e,orT,  mRng,msk,ix2_0,ix2_1,ix3_0,ix3_1,ix3_2,mDNew,mMov,SO.opt,qP_x,qP_y,qPl_w,qPl_p,qPl_s,qP_in,qP_eq,qP_inD,qL_len,qTs_len,qL_one,qL_nil,qL_two,qL_map,qTs_map,qL_seq,qTs_seq,qS_keys,qL_sorted,qL_list,qTs_list,qP_non,qL_non,qM_non,qM_obj,qM_isO,qM_isi,qM_plan,qM_there,qM_parts,qM_cut,qM_mend,qM_cuts,qM_tris,qP_mk,qL_s1,qL_s0,qZ_lst,qZ_tup,qM_mk,qN_non,qN_bl,qN_int,qN_str,qN_tup,qN_lst,qB_lst,qB_tup,qL_unX,qL_itX,qL_lstOf,qTs_unX,qTs_itX,qTs_lstOf,qTr_bl,qTr_non,qTr_int,qTr_tup,qTr_lst,qTr_qL,m_View_limit_4,m_View_limit_3,m_View_limit_5,m_View_limit_2,m_View_limit,tc,x4,ls,nn]) ?_
            exact go
          | true=>
            rw [hlt] at ls
            have go:=go [some V,some T,some (pD b.t),some BD] (by simp [hlt,shD])
            show Hs _ (m_View_limit_3 [some V,some T,some (pD a),some BD])
            generalize pD b.t = PB at *
            generalize pD a = PA at *
            refine nx_is (o:=.nx [some V,some T,some PB,some BD]) (by simp [sSeq,sSet,sRet,sRetN,sExp,sIf,sNil,sAsg,sPar,mVar,mK,mOp,mUn,mTst_e,tstK,mAnd,mOr,mNot,mAndV_e,andK,mOrV_e,orK,mNotV_e,notK,mIf,mEq,mNe,dEq_int,dEq_bl,mIsN,mCons,mNil,mTup,mLst,mMov,mCall,bAbs,mIsi,isT,D.isDct,mCallF_e,callK,callO,callR,fill,puts,mOwnA,gN,gT,gC,gE,SO.opt,dAdd,dSub,dLt,dLe,dGt,dGe,dNeg,mChain_e,chK,mTru,mSeqI_q,mKeysI_q,mFld_q,mMeth_q,mMake_q,mkR_err,clr_ok,clr_err,mIsiC_q,mLenM_q,mSlice_q,sTryRow_q,tryR_nx,tryR_err,mNewL,mCat,mInD,mInDN,mInB,sRaise,mVarX_q,varR,unX_own,unX_lst,unX_non,unX_tup,mLenX_q,itX_own,itX_lst,mIxX_q,atX_int,sAppX_q,appR_some,sInsX_q,insR_some,sSetXO_q,setR_some,lstOf_lst,ownOf_own,mOrT_e,orT,  mRng,msk,ix2_0,ix2_1,ix3_0,ix3_1,ix3_2,mDNew,mMov,SO.opt,qP_x,qP_y,qPl_w,qPl_p,qPl_s,qP_in,qP_eq,qP_inD,qL_len,qTs_len,qL_one,qL_nil,qL_two,qL_map,qTs_map,qL_seq,qTs_seq,qS_keys,qL_sorted,qL_list,qTs_list,qP_non,qL_non,qM_non,qM_obj,qM_isO,qM_isi,qM_plan,qM_there,qM_parts,qM_cut,qM_mend,qM_cuts,qM_tris,qP_mk,qL_s1,qL_s0,qZ_lst,qZ_tup,qM_mk,qN_non,qN_bl,qN_int,qN_str,qN_tup,qN_lst,qB_lst,qB_tup,qL_unX,qL_itX,qL_lstOf,qTs_unX,qTs_itX,qTs_lstOf,qTr_bl,qTr_non,qTr_int,qTr_tup,qTr_lst,qTr_qL,m_View_limit_4,m_View_limit_3,m_View_limit_5,m_View_limit_2,m_View_limit,tc,x4,ls,nn]) ?_
            exact go
  · subst es
    cases l with
    | cons _ _=>cases er
    | nil=>
      have hE:o = limB t g.bx none:=hE
      rw [←hE]
      cases o with
      | none=>
        have e:(none:Option (Int × Int)).getD g.top = g.top:=rfl
        rw [e]
        unfold shD
        generalize pD g.top = PT at *
        refine nx_is (by conv=>lhs; simp [sSeq,sSet,sRet,sRetN,sExp,sIf,sNil,sAsg,sPar,mVar,mK,mOp,mUn,mTst_e,tstK,mAnd,mOr,mNot,mAndV_e,andK,mOrV_e,orK,mNotV_e,notK,mIf,mEq,mNe,dEq_int,dEq_bl,mIsN,mCons,mNil,mTup,mLst,mMov,mCall,bAbs,mIsi,isT,D.isDct,mCallF_e,callK,callO,callR,fill,puts,mOwnA,gN,gT,gC,gE,SO.opt,dAdd,dSub,dLt,dLe,dGt,dGe,dNeg,mChain_e,chK,mTru,mSeqI_q,mKeysI_q,mFld_q,mMeth_q,mMake_q,mkR_err,clr_ok,clr_err,mIsiC_q,mLenM_q,mSlice_q,sTryRow_q,tryR_nx,tryR_err,mNewL,mCat,mInD,mInDN,mInB,sRaise,mVarX_q,varR,unX_own,unX_lst,unX_non,unX_tup,mLenX_q,itX_own,itX_lst,mIxX_q,atX_int,sAppX_q,appR_some,sInsX_q,insR_some,sSetXO_q,setR_some,lstOf_lst,ownOf_own,mOrT_e,orT,  mRng,msk,ix2_0,ix2_1,ix3_0,ix3_1,ix3_2,mDNew,mMov,SO.opt,qP_x,qP_y,qPl_w,qPl_p,qPl_s,qP_in,qP_eq,qP_inD,qL_len,qTs_len,qL_one,qL_nil,qL_two,qL_map,qTs_map,qL_seq,qTs_seq,qS_keys,qL_sorted,qL_list,qTs_list,qP_non,qL_non,qM_non,qM_obj,qM_isO,qM_isi,qM_plan,qM_there,qM_parts,qM_cut,qM_mend,qM_cuts,qM_tris,qP_mk,qL_s1,qL_s0,qZ_lst,qZ_tup,qM_mk,qN_non,qN_bl,qN_int,qN_str,qN_tup,qN_lst,qB_lst,qB_tup,qL_unX,qL_itX,qL_lstOf,qTs_unX,qTs_itX,qTs_lstOf,qTr_bl,qTr_non,qTr_int,qTr_tup,qTr_lst,qTr_qL,m_View_limit_4,m_View_limit_3,m_View_limit_5,m_View_limit_2,m_View_limit,f2]) ?_
        rfl
      | some a=>
        have nn:D.isNon (pD a) = false:=rfl
        show Hs _ (m_View_limit_5 [some V,some T,some (pD a),o3])
        have e:(some a).getD g.top = a:=rfl
        rw [e]
        generalize pD a = PA at *
        refine nx_is (by conv=>lhs; simp [sSeq,sSet,sRet,sRetN,sExp,sIf,sNil,sAsg,sPar,mVar,mK,mOp,mUn,mTst_e,tstK,mAnd,mOr,mNot,mAndV_e,andK,mOrV_e,orK,mNotV_e,notK,mIf,mEq,mNe,dEq_int,dEq_bl,mIsN,mCons,mNil,mTup,mLst,mMov,mCall,bAbs,mIsi,isT,D.isDct,mCallF_e,callK,callO,callR,fill,puts,mOwnA,gN,gT,gC,gE,SO.opt,dAdd,dSub,dLt,dLe,dGt,dGe,dNeg,mChain_e,chK,mTru,mSeqI_q,mKeysI_q,mFld_q,mMeth_q,mMake_q,mkR_err,clr_ok,clr_err,mIsiC_q,mLenM_q,mSlice_q,sTryRow_q,tryR_nx,tryR_err,mNewL,mCat,mInD,mInDN,mInB,sRaise,mVarX_q,varR,unX_own,unX_lst,unX_non,unX_tup,mLenX_q,itX_own,itX_lst,mIxX_q,atX_int,sAppX_q,appR_some,sInsX_q,insR_some,sSetXO_q,setR_some,lstOf_lst,ownOf_own,mOrT_e,orT,  mRng,msk,ix2_0,ix2_1,ix3_0,ix3_1,ix3_2,mDNew,mMov,SO.opt,qP_x,qP_y,qPl_w,qPl_p,qPl_s,qP_in,qP_eq,qP_inD,qL_len,qTs_len,qL_one,qL_nil,qL_two,qL_map,qTs_map,qL_seq,qTs_seq,qS_keys,qL_sorted,qL_list,qTs_list,qP_non,qL_non,qM_non,qM_obj,qM_isO,qM_isi,qM_plan,qM_there,qM_parts,qM_cut,qM_mend,qM_cuts,qM_tris,qP_mk,qL_s1,qL_s0,qZ_lst,qZ_tup,qM_mk,qN_non,qN_bl,qN_int,qN_str,qN_tup,qN_lst,qB_lst,qB_tup,qL_unX,qL_itX,qL_lstOf,qTs_unX,qTs_itX,qTs_lstOf,qTr_bl,qTr_non,qTr_int,qTr_tup,qTr_lst,qTr_qL,m_View_limit_4,m_View_limit_3,m_View_limit_5,m_View_limit_2,m_View_limit,nn]) ?_
        rfl
theorem lw_lim_two {P:SO → Prop} {S T B o2:D} {o4 o5:Option D} {t:Tr} {b:Vbx} (hT:T = qT t) (hB:B = bxD b) (k:Hs P (m_lw_limit_7 [some S,some T,some o2,some B,some (.bl (decide (min (min t.a t.c) t.e ≤ mx2 b.x b.u) && decide (mn2 b.x b.u ≤ max (max t.a t.c) t.e))),some (.bl (decide (min (min t.b t.d) t.f ≤ mx2 b.y b.v) && decide (mn2 b.y b.v ≤ max (max t.b t.d) t.f)))])) : Hs P (m_lw_limit_3 [some S,some T,some o2,some B,o4,o5]):=by
  have i0:dIx T (.int 0) = some (.int t.a):=by rw [hT]; rfl
  have i1:dIx T (.int 1) = some (.int t.b):=by rw [hT]; rfl
  have i2:dIx T (.int 2) = some (.int t.c):=by rw [hT]; rfl
  have i3:dIx T (.int 3) = some (.int t.d):=by rw [hT]; rfl
  have i4:dIx T (.int 4) = some (.int t.e):=by rw [hT]; rfl
  have i5:dIx T (.int 5) = some (.int t.f):=by rw [hT]; rfl
  have j0:dIx B (.int 0) = some (.int b.x):=by rw [hB]; rfl
  have j1:dIx B (.int 1) = some (.int b.y):=by rw [hB]; rfl
  have j2:dIx B (.int 2) = some (.int b.u):=by rw [hB]; rfl
  have j3:dIx B (.int 3) = some (.int b.v):=by rw [hB]; rfl
  have m1:=nuMax3_i t.a t.c t.e
  have m2:=nuMin3_i t.a t.c t.e
  have m3:=nuMax3_i t.b t.d t.f
  have m4:=nuMin3_i t.b t.d t.f
  have p1:bPick2 mx2 [.int b.x,.int b.u] = some (.int (mx2 b.x b.u)):=rfl
  have p2:bPick2 mn2 [.int b.x,.int b.u] = some (.int (mn2 b.x b.u)):=rfl
  have p3:bPick2 mx2 [.int b.y,.int b.v] = some (.int (mx2 b.y b.v)):=rfl
  have p4:bPick2 mn2 [.int b.y,.int b.v] = some (.int (mn2 b.y b.v)):=rfl
  clear hT hB
  generalize max (max t.a t.c) t.e = X1 at *
  generalize min (min t.a t.c) t.e = X2 at *
  generalize max (max t.b t.d) t.f = X3 at *
  generalize min (min t.b t.d) t.f = X4 at *
  generalize mx2 b.x b.u = U1 at *
  generalize mn2 b.x b.u = U2 at *
  generalize mx2 b.y b.v = U3 at *
  generalize mn2 b.y b.v = U4 at *
  refine nx_step rfl (s':=[some S,some T,some o2,some B,some (.bl (decide (X2 ≤ U1))),o5]) (by simp [sSeq,sSet,sRet,sRetN,sExp,sIf,sNil,sAsg,sPar,mVar,mK,mOp,mUn,mTst_e,tstK,mAnd,mOr,mNot,mAndV_e,andK,mOrV_e,orK,mNotV_e,notK,mIf,mEq,mNe,dEq_int,dEq_bl,mIsN,mCons,mNil,mTup,mLst,mMov,mCall,bAbs,mIsi,isT,D.isDct,mCallF_e,callK,callO,callR,fill,puts,mOwnA,gN,gT,gC,gE,SO.opt,dAdd,dSub,dLt,dLe,dGt,dGe,dNeg,mChain_e,chK,mTru,mSeqI_q,mKeysI_q,mFld_q,mMeth_q,mMake_q,mkR_err,clr_ok,clr_err,mIsiC_q,mLenM_q,mSlice_q,sTryRow_q,tryR_nx,tryR_err,mNewL,mCat,mInD,mInDN,mInB,sRaise,mVarX_q,varR,unX_own,unX_lst,unX_non,unX_tup,mLenX_q,itX_own,itX_lst,mIxX_q,atX_int,sAppX_q,appR_some,sInsX_q,insR_some,sSetXO_q,setR_some,lstOf_lst,ownOf_own,mOrT_e,orT,  mRng,msk,ix2_0,ix2_1,ix3_0,ix3_1,ix3_2,mDNew,mMov,SO.opt,qP_x,qP_y,qPl_w,qPl_p,qPl_s,qP_in,qP_eq,qP_inD,qL_len,qTs_len,qL_one,qL_nil,qL_two,qL_map,qTs_map,qL_seq,qTs_seq,qS_keys,qL_sorted,qL_list,qTs_list,qP_non,qL_non,qM_non,qM_obj,qM_isO,qM_isi,qM_plan,qM_there,qM_parts,qM_cut,qM_mend,qM_cuts,qM_tris,qP_mk,qL_s1,qL_s0,qZ_lst,qZ_tup,qM_mk,qN_non,qN_bl,qN_int,qN_str,qN_tup,qN_lst,qB_lst,qB_tup,qL_unX,qL_itX,qL_lstOf,qTs_unX,qTs_itX,qTs_lstOf,qTr_bl,qTr_non,qTr_int,qTr_tup,qTr_lst,qTr_qL,i0,i2,i4,j0,j2,m2,p1]) ?_
  refine nx_step rfl (s':=[some S,some T,some o2,some B,some (.bl (decide (X2 ≤ U1) && decide (U2 ≤ X1))),o5]) (by by_cases h:X2 ≤ U1 <;> simp [sSeq,sSet,sRet,sRetN,sExp,sIf,sNil,sAsg,sPar,mVar,mK,mOp,mUn,mTst_e,tstK,mAnd,mOr,mNot,mAndV_e,andK,mOrV_e,orK,mNotV_e,notK,mIf,mEq,mNe,dEq_int,dEq_bl,mIsN,mCons,mNil,mTup,mLst,mMov,mCall,bAbs,mIsi,isT,D.isDct,mCallF_e,callK,callO,callR,fill,puts,mOwnA,gN,gT,gC,gE,SO.opt,dAdd,dSub,dLt,dLe,dGt,dGe,dNeg,mChain_e,chK,mTru,mSeqI_q,mKeysI_q,mFld_q,mMeth_q,mMake_q,mkR_err,clr_ok,clr_err,mIsiC_q,mLenM_q,mSlice_q,sTryRow_q,tryR_nx,tryR_err,mNewL,mCat,mInD,mInDN,mInB,sRaise,mVarX_q,varR,unX_own,unX_lst,unX_non,unX_tup,mLenX_q,itX_own,itX_lst,mIxX_q,atX_int,sAppX_q,appR_some,sInsX_q,insR_some,sSetXO_q,setR_some,lstOf_lst,ownOf_own,mOrT_e,orT,  mRng,msk,ix2_0,ix2_1,ix3_0,ix3_1,ix3_2,mDNew,mMov,SO.opt,qP_x,qP_y,qPl_w,qPl_p,qPl_s,qP_in,qP_eq,qP_inD,qL_len,qTs_len,qL_one,qL_nil,qL_two,qL_map,qTs_map,qL_seq,qTs_seq,qS_keys,qL_sorted,qL_list,qTs_list,qP_non,qL_non,qM_non,qM_obj,qM_isO,qM_isi,qM_plan,qM_there,qM_parts,qM_cut,qM_mend,qM_cuts,qM_tris,qP_mk,qL_s1,qL_s0,qZ_lst,qZ_tup,qM_mk,qN_non,qN_bl,qN_int,qN_str,qN_tup,qN_lst,qB_lst,qB_tup,qL_unX,qL_itX,qL_lstOf,qTs_unX,qTs_itX,qTs_lstOf,qTr_bl,qTr_non,qTr_int,qTr_tup,qTr_lst,qTr_qL,i0,i2,i4,j0,j2,m1,p2,h]) ?_
  generalize (decide (X2 ≤ U1) && decide (U2 ≤ X1)) = A at *
  refine nx_step rfl (s':=[some S,some T,some o2,some B,some (.bl A),some (.bl (decide (X4 ≤ U3)))]) (by simp [sSeq,sSet,sRet,sRetN,sExp,sIf,sNil,sAsg,sPar,mVar,mK,mOp,mUn,mTst_e,tstK,mAnd,mOr,mNot,mAndV_e,andK,mOrV_e,orK,mNotV_e,notK,mIf,mEq,mNe,dEq_int,dEq_bl,mIsN,mCons,mNil,mTup,mLst,mMov,mCall,bAbs,mIsi,isT,D.isDct,mCallF_e,callK,callO,callR,fill,puts,mOwnA,gN,gT,gC,gE,SO.opt,dAdd,dSub,dLt,dLe,dGt,dGe,dNeg,mChain_e,chK,mTru,mSeqI_q,mKeysI_q,mFld_q,mMeth_q,mMake_q,mkR_err,clr_ok,clr_err,mIsiC_q,mLenM_q,mSlice_q,sTryRow_q,tryR_nx,tryR_err,mNewL,mCat,mInD,mInDN,mInB,sRaise,mVarX_q,varR,unX_own,unX_lst,unX_non,unX_tup,mLenX_q,itX_own,itX_lst,mIxX_q,atX_int,sAppX_q,appR_some,sInsX_q,insR_some,sSetXO_q,setR_some,lstOf_lst,ownOf_own,mOrT_e,orT,  mRng,msk,ix2_0,ix2_1,ix3_0,ix3_1,ix3_2,mDNew,mMov,SO.opt,qP_x,qP_y,qPl_w,qPl_p,qPl_s,qP_in,qP_eq,qP_inD,qL_len,qTs_len,qL_one,qL_nil,qL_two,qL_map,qTs_map,qL_seq,qTs_seq,qS_keys,qL_sorted,qL_list,qTs_list,qP_non,qL_non,qM_non,qM_obj,qM_isO,qM_isi,qM_plan,qM_there,qM_parts,qM_cut,qM_mend,qM_cuts,qM_tris,qP_mk,qL_s1,qL_s0,qZ_lst,qZ_tup,qM_mk,qN_non,qN_bl,qN_int,qN_str,qN_tup,qN_lst,qB_lst,qB_tup,qL_unX,qL_itX,qL_lstOf,qTs_unX,qTs_itX,qTs_lstOf,qTr_bl,qTr_non,qTr_int,qTr_tup,qTr_lst,qTr_qL,i1,i3,i5,j1,j3,m4,p3]) ?_
  refine nx_step rfl (s':=[some S,some T,some o2,some B,some (.bl A),some (.bl (decide (X4 ≤ U3) && decide (U4 ≤ X3)))]) (by by_cases h:X4 ≤ U3 <;> simp [sSeq,sSet,sRet,sRetN,sExp,sIf,sNil,sAsg,sPar,mVar,mK,mOp,mUn,mTst_e,tstK,mAnd,mOr,mNot,mAndV_e,andK,mOrV_e,orK,mNotV_e,notK,mIf,mEq,mNe,dEq_int,dEq_bl,mIsN,mCons,mNil,mTup,mLst,mMov,mCall,bAbs,mIsi,isT,D.isDct,mCallF_e,callK,callO,callR,fill,puts,mOwnA,gN,gT,gC,gE,SO.opt,dAdd,dSub,dLt,dLe,dGt,dGe,dNeg,mChain_e,chK,mTru,mSeqI_q,mKeysI_q,mFld_q,mMeth_q,mMake_q,mkR_err,clr_ok,clr_err,mIsiC_q,mLenM_q,mSlice_q,sTryRow_q,tryR_nx,tryR_err,mNewL,mCat,mInD,mInDN,mInB,sRaise,mVarX_q,varR,unX_own,unX_lst,unX_non,unX_tup,mLenX_q,itX_own,itX_lst,mIxX_q,atX_int,sAppX_q,appR_some,sInsX_q,insR_some,sSetXO_q,setR_some,lstOf_lst,ownOf_own,mOrT_e,orT,  mRng,msk,ix2_0,ix2_1,ix3_0,ix3_1,ix3_2,mDNew,mMov,SO.opt,qP_x,qP_y,qPl_w,qPl_p,qPl_s,qP_in,qP_eq,qP_inD,qL_len,qTs_len,qL_one,qL_nil,qL_two,qL_map,qTs_map,qL_seq,qTs_seq,qS_keys,qL_sorted,qL_list,qTs_list,qP_non,qL_non,qM_non,qM_obj,qM_isO,qM_isi,qM_plan,qM_there,qM_parts,qM_cut,qM_mend,qM_cuts,qM_tris,qP_mk,qL_s1,qL_s0,qZ_lst,qZ_tup,qM_mk,qN_non,qN_bl,qN_int,qN_str,qN_tup,qN_lst,qB_lst,qB_tup,qL_unX,qL_itX,qL_lstOf,qTs_unX,qTs_itX,qTs_lstOf,qTr_bl,qTr_non,qTr_int,qTr_tup,qTr_lst,qTr_qL,i1,i3,i5,j1,j3,m3,p4,h]) ?_
  exact k
theorem tch_vbn (b:Vbx) (t:Tr) : ((decide (min (min t.a t.c) t.e ≤ mx2 b.x b.u) && decide (mn2 b.x b.u ≤ max (max t.a t.c) t.e)) && (decide (min (min t.b t.d) t.f ≤ mx2 b.y b.v) && decide (mn2 b.y b.v ≤ max (max t.b t.d) t.f))) = tch (vbn b) t:=by
  show _ = ((decide (mn2 b.x b.u ≤ max (max t.a t.c) t.e) && decide (mx2 b.x b.u ≥ min (min t.a t.c) t.e)) && (decide (mn2 b.y b.v ≤ max (max t.b t.d) t.f) && decide (mx2 b.y b.v ≥ min (min t.b t.d) t.f)))
  rw [Bool.and_comm (decide (mn2 b.x b.u ≤ _)),Bool.and_comm (decide (mn2 b.y b.v ≤ _))]
theorem dLt_sh {a b:Int × Int} (ha:okS a) (hb:okS b) {PA PB:D} (hA:PA = pD a) (hB:PB = pD b) : ∃ x y:Int,dIx PA (.int 0) = some (.int a.1) ∧ dIx PA (.int 1) = some (.int a.2) ∧ dIx PB (.int 0) = some (.int b.1) ∧ dIx PB (.int 1) = some (.int b.2) ∧ dMul (.int a.1) (.int b.2) = some (.int x) ∧ dMul (.int b.1) (.int a.2) = some (.int y) ∧ decide (x < y) = ltS a b:=by
  subst hA hB
  have l:∀ {z:Int},z.natAbs < 2 ^ 200 → z.natAbs < 2 ^ 250:=fun h=>Nat.lt_of_lt_of_le h (by decide)
  exact ⟨_,_,rfl,rfl,rfl,rfl,dMul_b (l ha.1) (l hb.2),dMul_b (l hb.1) (l ha.2),rfl⟩
theorem q_llimit {g:Sg} (h:gOk g) (t:Tr) : f_lw_limit [sgD g,qT t] = .ok (pD (limS g t)) [none,none]:=by
  have f1:dIx (sgD g) (.int 2) = some (.lst (g.bx.map bxD)):=rfl
  have f2:dIx (sgD g) (.int 0) = some (pD g.top):=rfl
  unfold limS
  refine run_eq f_lw_limit_eq (by conv=>lhs; simp) ?_
  generalize sgD g = V at *
  generalize hT:qT t = T at *
  refine nx_step rfl (by conv=>lhs; simp [sSeq,sSet,sRet,sRetN,sExp,sIf,sNil,sAsg,sPar,mVar,mK,mOp,mUn,mTst_e,tstK,mAnd,mOr,mNot,mAndV_e,andK,mOrV_e,orK,mNotV_e,notK,mIf,mEq,mNe,dEq_int,dEq_bl,mIsN,mCons,mNil,mTup,mLst,mMov,mCall,bAbs,mIsi,isT,D.isDct,mCallF_e,callK,callO,callR,fill,puts,mOwnA,gN,gT,gC,gE,SO.opt,dAdd,dSub,dLt,dLe,dGt,dGe,dNeg,mChain_e,chK,mTru,mSeqI_q,mKeysI_q,mFld_q,mMeth_q,mMake_q,mkR_err,clr_ok,clr_err,mIsiC_q,mLenM_q,mSlice_q,sTryRow_q,tryR_nx,tryR_err,mNewL,mCat,mInD,mInDN,mInB,sRaise,mVarX_q,varR,unX_own,unX_lst,unX_non,unX_tup,mLenX_q,itX_own,itX_lst,mIxX_q,atX_int,sAppX_q,appR_some,sInsX_q,insR_some,sSetXO_q,setR_some,lstOf_lst,ownOf_own,mOrT_e,orT,  mRng,msk,ix2_0,ix2_1,ix3_0,ix3_1,ix3_2,mDNew,mMov,SO.opt,qP_x,qP_y,qPl_w,qPl_p,qPl_s,qP_in,qP_eq,qP_inD,qL_len,qTs_len,qL_one,qL_nil,qL_two,qL_map,qTs_map,qL_seq,qTs_seq,qS_keys,qL_sorted,qL_list,qTs_list,qP_non,qL_non,qM_non,qM_obj,qM_isO,qM_isi,qM_plan,qM_there,qM_parts,qM_cut,qM_mend,qM_cuts,qM_tris,qP_mk,qL_s1,qL_s0,qZ_lst,qZ_tup,qM_mk,qN_non,qN_bl,qN_int,qN_str,qN_tup,qN_lst,qB_lst,qB_tup,qL_unX,qL_itX,qL_lstOf,qTs_unX,qTs_itX,qTs_lstOf,qTr_bl,qTr_non,qTr_int,qTr_tup,qTr_lst,qTr_qL]) ?_
  refine for_step (ds:=g.bx.map bxD) (s0:=[some V,some T,some .non,none,none,none]) (fun rest st=>∃ (l:List Vbx) (o:Option (Int × Int)) (o3 o4 o5:Option D),rest = l.map bxD ∧ (∀ b ∈ l,b ∈ g.bx) ∧ (∀ a,o = some a → okTt a) ∧ limB t l o = limB t g.bx none ∧ st = [some V,some T,some (shD o),o3,o4,o5]) rfl (by simp [sSeq,sSet,sRet,sRetN,sExp,sIf,sNil,sAsg,sPar,mVar,mK,mOp,mUn,mTst_e,tstK,mAnd,mOr,mNot,mAndV_e,andK,mOrV_e,orK,mNotV_e,notK,mIf,mEq,mNe,dEq_int,dEq_bl,mIsN,mCons,mNil,mTup,mLst,mMov,mCall,bAbs,mIsi,isT,D.isDct,mCallF_e,callK,callO,callR,fill,puts,mOwnA,gN,gT,gC,gE,SO.opt,dAdd,dSub,dLt,dLe,dGt,dGe,dNeg,mChain_e,chK,mTru,mSeqI_q,mKeysI_q,mFld_q,mMeth_q,mMake_q,mkR_err,clr_ok,clr_err,mIsiC_q,mLenM_q,mSlice_q,sTryRow_q,tryR_nx,tryR_err,mNewL,mCat,mInD,mInDN,mInB,sRaise,mVarX_q,varR,unX_own,unX_lst,unX_non,unX_tup,mLenX_q,itX_own,itX_lst,mIxX_q,atX_int,sAppX_q,appR_some,sInsX_q,insR_some,sSetXO_q,setR_some,lstOf_lst,ownOf_own,mOrT_e,orT,  mRng,msk,ix2_0,ix2_1,ix3_0,ix3_1,ix3_2,mDNew,mMov,SO.opt,qP_x,qP_y,qPl_w,qPl_p,qPl_s,qP_in,qP_eq,qP_inD,qL_len,qTs_len,qL_one,qL_nil,qL_two,qL_map,qTs_map,qL_seq,qTs_seq,qS_keys,qL_sorted,qL_list,qTs_list,qP_non,qL_non,qM_non,qM_obj,qM_isO,qM_isi,qM_plan,qM_there,qM_parts,qM_cut,qM_mend,qM_cuts,qM_tris,qP_mk,qL_s1,qL_s0,qZ_lst,qZ_tup,qM_mk,qN_non,qN_bl,qN_int,qN_str,qN_tup,qN_lst,qB_lst,qB_tup,qL_unX,qL_itX,qL_lstOf,qTs_unX,qTs_itX,qTs_lstOf,qTr_bl,qTr_non,qTr_int,qTr_tup,qTr_lst,qTr_qL,f1]) ⟨g.bx,none,none,none,none,rfl,fun _ z=>z,(fun a z=>by cases z),rfl,rfl⟩ (fun d rest st ⟨l,o,o3,o4,o5,er,hl,ho,hE,es⟩=>?_) fun st ⟨l,o,o3,o4,o5,er,hl,ho,hE,es⟩=>?_
  · cases l with
    | nil=>cases er
    | cons b l=>
      subst es
      obtain ⟨hd,hr⟩:=List.cons.inj er
      subst hd
      refine ⟨_,rfl,?_⟩
      have hb:=h.bx b (hl b List.mem_cons_self)
      have go:∀ st' o4 o5,st' = [some V,some T,some (shD (limN t b o)),some (bxD b),o4,o5] → (∃ (l:List Vbx) (o:Option (Int × Int)) (o3 o4 o5:Option D),rest = l.map bxD ∧ (∀ b ∈ l,b ∈ g.bx) ∧ (∀ a,o = some a → okTt a) ∧ limB t l o = limB t g.bx none ∧ st' = [some V,some T,some (shD o),o3,o4,o5]):=fun st' o4 o5 e=>
        ⟨l,limN t b o,_,o4,o5,hr,fun c hc=>hl c (List.mem_cons_of_mem _ hc),limN_ok hb ho,hE,e⟩
      refine lw_lim_two hT.symm (rfl:bxD b = bxD b) ?_
      have tn:=tch_vbn b t
      have x4:dIx (bxD b) (.int 4) = some (pD b.t):=rfl
      unfold limN at go
      rw [←tn] at go
      generalize (decide (min (min t.a t.c) t.e ≤ mx2 b.x b.u) && decide (mn2 b.x b.u ≤ max (max t.a t.c) t.e)) = A1 at *
      generalize (decide (min (min t.b t.d) t.f ≤ mx2 b.y b.v) && decide (mn2 b.y b.v ≤ max (max t.b t.d) t.f)) = A2 at *
      generalize bxD b = BD at *
      cases A1 with
      | false=>
        generalize hS:shD o = S at *
        refine nx_is (o:=.nx [some V,some T,some S,some BD,some (.bl false),some (.bl A2)]) (by simp [sSeq,sSet,sRet,sRetN,sExp,sIf,sNil,sAsg,sPar,mVar,mK,mOp,mUn,mTst_e,tstK,mAnd,mOr,mNot,mAndV_e,andK,mOrV_e,orK,mNotV_e,notK,mIf,mEq,mNe,dEq_int,dEq_bl,mIsN,mCons,mNil,mTup,mLst,mMov,mCall,bAbs,mIsi,isT,D.isDct,mCallF_e,callK,callO,callR,fill,puts,mOwnA,gN,gT,gC,gE,SO.opt,dAdd,dSub,dLt,dLe,dGt,dGe,dNeg,mChain_e,chK,mTru,mSeqI_q,mKeysI_q,mFld_q,mMeth_q,mMake_q,mkR_err,clr_ok,clr_err,mIsiC_q,mLenM_q,mSlice_q,sTryRow_q,tryR_nx,tryR_err,mNewL,mCat,mInD,mInDN,mInB,sRaise,mVarX_q,varR,unX_own,unX_lst,unX_non,unX_tup,mLenX_q,itX_own,itX_lst,mIxX_q,atX_int,sAppX_q,appR_some,sInsX_q,insR_some,sSetXO_q,setR_some,lstOf_lst,ownOf_own,mOrT_e,orT,  mRng,msk,ix2_0,ix2_1,ix3_0,ix3_1,ix3_2,mDNew,mMov,SO.opt,qP_x,qP_y,qPl_w,qPl_p,qPl_s,qP_in,qP_eq,qP_inD,qL_len,qTs_len,qL_one,qL_nil,qL_two,qL_map,qTs_map,qL_seq,qTs_seq,qS_keys,qL_sorted,qL_list,qTs_list,qP_non,qL_non,qM_non,qM_obj,qM_isO,qM_isi,qM_plan,qM_there,qM_parts,qM_cut,qM_mend,qM_cuts,qM_tris,qP_mk,qL_s1,qL_s0,qZ_lst,qZ_tup,qM_mk,qN_non,qN_bl,qN_int,qN_str,qN_tup,qN_lst,qB_lst,qB_tup,qL_unX,qL_itX,qL_lstOf,qTs_unX,qTs_itX,qTs_lstOf,qTr_bl,qTr_non,qTr_int,qTr_tup,qTr_lst,qTr_qL,m_lw_limit_9,m_lw_limit_8,m_lw_limit_7,m_lw_limit_6,m_lw_limit_5,m_lw_limit_4,m_lw_limit_3,m_lw_limit_11,m_lw_limit_12,m_lw_limit_10,m_lw_limit_2,m_lw_limit]) ?_
        exact go _ _ _ (by rw [←hS]; rfl)
      | true=>
        cases A2 with
        | false=>
          generalize hS:shD o = S at *
          refine nx_is (o:=.nx [some V,some T,some S,some BD,some (.bl true),some (.bl false)]) (by simp [sSeq,sSet,sRet,sRetN,sExp,sIf,sNil,sAsg,sPar,mVar,mK,mOp,mUn,mTst_e,tstK,mAnd,mOr,mNot,mAndV_e,andK,mOrV_e,orK,mNotV_e,notK,mIf,mEq,mNe,dEq_int,dEq_bl,mIsN,mCons,mNil,mTup,mLst,mMov,mCall,bAbs,mIsi,isT,D.isDct,mCallF_e,callK,callO,callR,fill,puts,mOwnA,gN,gT,gC,gE,SO.opt,dAdd,dSub,dLt,dLe,dGt,dGe,dNeg,mChain_e,chK,mTru,mSeqI_q,mKeysI_q,mFld_q,mMeth_q,mMake_q,mkR_err,clr_ok,clr_err,mIsiC_q,mLenM_q,mSlice_q,sTryRow_q,tryR_nx,tryR_err,mNewL,mCat,mInD,mInDN,mInB,sRaise,mVarX_q,varR,unX_own,unX_lst,unX_non,unX_tup,mLenX_q,itX_own,itX_lst,mIxX_q,atX_int,sAppX_q,appR_some,sInsX_q,insR_some,sSetXO_q,setR_some,lstOf_lst,ownOf_own,mOrT_e,orT,  mRng,msk,ix2_0,ix2_1,ix3_0,ix3_1,ix3_2,mDNew,mMov,SO.opt,qP_x,qP_y,qPl_w,qPl_p,qPl_s,qP_in,qP_eq,qP_inD,qL_len,qTs_len,qL_one,qL_nil,qL_two,qL_map,qTs_map,qL_seq,qTs_seq,qS_keys,qL_sorted,qL_list,qTs_list,qP_non,qL_non,qM_non,qM_obj,qM_isO,qM_isi,qM_plan,qM_there,qM_parts,qM_cut,qM_mend,qM_cuts,qM_tris,qP_mk,qL_s1,qL_s0,qZ_lst,qZ_tup,qM_mk,qN_non,qN_bl,qN_int,qN_str,qN_tup,qN_lst,qB_lst,qB_tup,qL_unX,qL_itX,qL_lstOf,qTs_unX,qTs_itX,qTs_lstOf,qTr_bl,qTr_non,qTr_int,qTr_tup,qTr_lst,qTr_qL,m_lw_limit_9,m_lw_limit_8,m_lw_limit_7,m_lw_limit_6,m_lw_limit_5,m_lw_limit_4,m_lw_limit_3,m_lw_limit_11,m_lw_limit_12,m_lw_limit_10,m_lw_limit_2,m_lw_limit]) ?_
          exact go _ _ _ (by rw [←hS]; rfl)
        | true=>
          cases o with
          | none=>
            refine nx_is (o:=.nx [some V,some T,some (pD b.t),some BD,some (.bl true),some (.bl true)]) (by unfold shD; generalize pD b.t = PB at *; simp [sSeq,sSet,sRet,sRetN,sExp,sIf,sNil,sAsg,sPar,mVar,mK,mOp,mUn,mTst_e,tstK,mAnd,mOr,mNot,mAndV_e,andK,mOrV_e,orK,mNotV_e,notK,mIf,mEq,mNe,dEq_int,dEq_bl,mIsN,mCons,mNil,mTup,mLst,mMov,mCall,bAbs,mIsi,isT,D.isDct,mCallF_e,callK,callO,callR,fill,puts,mOwnA,gN,gT,gC,gE,SO.opt,dAdd,dSub,dLt,dLe,dGt,dGe,dNeg,mChain_e,chK,mTru,mSeqI_q,mKeysI_q,mFld_q,mMeth_q,mMake_q,mkR_err,clr_ok,clr_err,mIsiC_q,mLenM_q,mSlice_q,sTryRow_q,tryR_nx,tryR_err,mNewL,mCat,mInD,mInDN,mInB,sRaise,mVarX_q,varR,unX_own,unX_lst,unX_non,unX_tup,mLenX_q,itX_own,itX_lst,mIxX_q,atX_int,sAppX_q,appR_some,sInsX_q,insR_some,sSetXO_q,setR_some,lstOf_lst,ownOf_own,mOrT_e,orT,  mRng,msk,ix2_0,ix2_1,ix3_0,ix3_1,ix3_2,mDNew,mMov,SO.opt,qP_x,qP_y,qPl_w,qPl_p,qPl_s,qP_in,qP_eq,qP_inD,qL_len,qTs_len,qL_one,qL_nil,qL_two,qL_map,qTs_map,qL_seq,qTs_seq,qS_keys,qL_sorted,qL_list,qTs_list,qP_non,qL_non,qM_non,qM_obj,qM_isO,qM_isi,qM_plan,qM_there,qM_parts,qM_cut,qM_mend,qM_cuts,qM_tris,qP_mk,qL_s1,qL_s0,qZ_lst,qZ_tup,qM_mk,qN_non,qN_bl,qN_int,qN_str,qN_tup,qN_lst,qB_lst,qB_tup,qL_unX,qL_itX,qL_lstOf,qTs_unX,qTs_itX,qTs_lstOf,qTr_bl,qTr_non,qTr_int,qTr_tup,qTr_lst,qTr_qL,m_lw_limit_9,m_lw_limit_8,m_lw_limit_7,m_lw_limit_6,m_lw_limit_5,m_lw_limit_4,m_lw_limit_3,m_lw_limit_11,m_lw_limit_12,m_lw_limit_10,m_lw_limit_2,m_lw_limit,x4]) ?_
            exact go _ _ _ rfl
          | some a=>
            have nn:D.isNon (pD a) = false:=rfl
            obtain ⟨x,y,q1,q2,q3,q4,q5,q6,q7⟩:=dLt_sh (okT_S hb) (okT_S (ho a rfl)) (PA:=pD b.t) (PB:=pD a) rfl rfl
            cases hlt:ltS b.t a with
            | false=>
              rw [hlt] at q7
              have go:=go [some V,some T,some (pD a),some BD,some (.bl true),some (.bl true)] (some (.bl true)) (some (.bl true)) (by simp [hlt,shD])
              have q7:¬(x < y):=of_decide_eq_false q7
              show Hs _ (m_lw_limit_7 [some V,some T,some (pD a),some BD,some (.bl true),some (.bl true)])
              generalize pD b.t = PB at *
              generalize pD a = PA at *
              refine nx_is (o:=.nx [some V,some T,some PA,some BD,some (.bl true),some (.bl true)]) (by simp [sSeq,sSet,sRet,sRetN,sExp,sIf,sNil,sAsg,sPar,mVar,mK,mOp,mUn,mTst_e,tstK,mAnd,mOr,mNot,mAndV_e,andK,mOrV_e,orK,mNotV_e,notK,mIf,mEq,mNe,dEq_int,dEq_bl,mIsN,mCons,mNil,mTup,mLst,mMov,mCall,bAbs,mIsi,isT,D.isDct,mCallF_e,callK,callO,callR,fill,puts,mOwnA,gN,gT,gC,gE,SO.opt,dAdd,dSub,dLt,dLe,dGt,dGe,dNeg,mChain_e,chK,mTru,mSeqI_q,mKeysI_q,mFld_q,mMeth_q,mMake_q,mkR_err,clr_ok,clr_err,mIsiC_q,mLenM_q,mSlice_q,sTryRow_q,tryR_nx,tryR_err,mNewL,mCat,mInD,mInDN,mInB,sRaise,mVarX_q,varR,unX_own,unX_lst,unX_non,unX_tup,mLenX_q,itX_own,itX_lst,mIxX_q,atX_int,sAppX_q,appR_some,sInsX_q,insR_some,sSetXO_q,setR_some,lstOf_lst,ownOf_own,mOrT_e,orT,  mRng,msk,ix2_0,ix2_1,ix3_0,ix3_1,ix3_2,mDNew,mMov,SO.opt,qP_x,qP_y,qPl_w,qPl_p,qPl_s,qP_in,qP_eq,qP_inD,qL_len,qTs_len,qL_one,qL_nil,qL_two,qL_map,qTs_map,qL_seq,qTs_seq,qS_keys,qL_sorted,qL_list,qTs_list,qP_non,qL_non,qM_non,qM_obj,qM_isO,qM_isi,qM_plan,qM_there,qM_parts,qM_cut,qM_mend,qM_cuts,qM_tris,qP_mk,qL_s1,qL_s0,qZ_lst,qZ_tup,qM_mk,qN_non,qN_bl,qN_int,qN_str,qN_tup,qN_lst,qB_lst,qB_tup,qL_unX,qL_itX,qL_lstOf,qTs_unX,qTs_itX,qTs_lstOf,qTr_bl,qTr_non,qTr_int,qTr_tup,qTr_lst,qTr_qL,m_lw_limit_9,m_lw_limit_8,m_lw_limit_7,m_lw_limit_6,m_lw_limit_5,m_lw_limit_4,m_lw_limit_3,m_lw_limit_11,m_lw_limit_12,m_lw_limit_10,m_lw_limit_2,m_lw_limit,x4,nn,q1,q2,q3,q4,q5,q6,q7]) ?_
              exact go
            | true=>
              rw [hlt] at q7
              have go:=go [some V,some T,some (pD b.t),some BD,some (.bl true),some (.bl true)] (some (.bl true)) (some (.bl true)) (by simp [hlt,shD])
              have q7:x < y:=of_decide_eq_true q7
              show Hs _ (m_lw_limit_7 [some V,some T,some (pD a),some BD,some (.bl true),some (.bl true)])
              generalize pD b.t = PB at *
              generalize pD a = PA at *
              refine nx_is (o:=.nx [some V,some T,some PB,some BD,some (.bl true),some (.bl true)]) (by simp [sSeq,sSet,sRet,sRetN,sExp,sIf,sNil,sAsg,sPar,mVar,mK,mOp,mUn,mTst_e,tstK,mAnd,mOr,mNot,mAndV_e,andK,mOrV_e,orK,mNotV_e,notK,mIf,mEq,mNe,dEq_int,dEq_bl,mIsN,mCons,mNil,mTup,mLst,mMov,mCall,bAbs,mIsi,isT,D.isDct,mCallF_e,callK,callO,callR,fill,puts,mOwnA,gN,gT,gC,gE,SO.opt,dAdd,dSub,dLt,dLe,dGt,dGe,dNeg,mChain_e,chK,mTru,mSeqI_q,mKeysI_q,mFld_q,mMeth_q,mMake_q,mkR_err,clr_ok,clr_err,mIsiC_q,mLenM_q,mSlice_q,sTryRow_q,tryR_nx,tryR_err,mNewL,mCat,mInD,mInDN,mInB,sRaise,mVarX_q,varR,unX_own,unX_lst,unX_non,unX_tup,mLenX_q,itX_own,itX_lst,mIxX_q,atX_int,sAppX_q,appR_some,sInsX_q,insR_some,sSetXO_q,setR_some,lstOf_lst,ownOf_own,mOrT_e,orT,  mRng,msk,ix2_0,ix2_1,ix3_0,ix3_1,ix3_2,mDNew,mMov,SO.opt,qP_x,qP_y,qPl_w,qPl_p,qPl_s,qP_in,qP_eq,qP_inD,qL_len,qTs_len,qL_one,qL_nil,qL_two,qL_map,qTs_map,qL_seq,qTs_seq,qS_keys,qL_sorted,qL_list,qTs_list,qP_non,qL_non,qM_non,qM_obj,qM_isO,qM_isi,qM_plan,qM_there,qM_parts,qM_cut,qM_mend,qM_cuts,qM_tris,qP_mk,qL_s1,qL_s0,qZ_lst,qZ_tup,qM_mk,qN_non,qN_bl,qN_int,qN_str,qN_tup,qN_lst,qB_lst,qB_tup,qL_unX,qL_itX,qL_lstOf,qTs_unX,qTs_itX,qTs_lstOf,qTr_bl,qTr_non,qTr_int,qTr_tup,qTr_lst,qTr_qL,m_lw_limit_9,m_lw_limit_8,m_lw_limit_7,m_lw_limit_6,m_lw_limit_5,m_lw_limit_4,m_lw_limit_3,m_lw_limit_11,m_lw_limit_12,m_lw_limit_10,m_lw_limit_2,m_lw_limit,x4,nn,q1,q2,q3,q4,q5,q6,q7]) ?_
              exact go
  · subst es
    cases l with
    | cons _ _=>cases er
    | nil=>
      have hE:o = limB t g.bx none:=hE
      rw [←hE]
      cases o with
      | none=>
        have e:(none:Option (Int × Int)).getD g.top = g.top:=rfl
        rw [e]
        unfold shD
        generalize pD g.top = PT at *
        refine nx_is (by conv=>lhs; simp [sSeq,sSet,sRet,sRetN,sExp,sIf,sNil,sAsg,sPar,mVar,mK,mOp,mUn,mTst_e,tstK,mAnd,mOr,mNot,mAndV_e,andK,mOrV_e,orK,mNotV_e,notK,mIf,mEq,mNe,dEq_int,dEq_bl,mIsN,mCons,mNil,mTup,mLst,mMov,mCall,bAbs,mIsi,isT,D.isDct,mCallF_e,callK,callO,callR,fill,puts,mOwnA,gN,gT,gC,gE,SO.opt,dAdd,dSub,dLt,dLe,dGt,dGe,dNeg,mChain_e,chK,mTru,mSeqI_q,mKeysI_q,mFld_q,mMeth_q,mMake_q,mkR_err,clr_ok,clr_err,mIsiC_q,mLenM_q,mSlice_q,sTryRow_q,tryR_nx,tryR_err,mNewL,mCat,mInD,mInDN,mInB,sRaise,mVarX_q,varR,unX_own,unX_lst,unX_non,unX_tup,mLenX_q,itX_own,itX_lst,mIxX_q,atX_int,sAppX_q,appR_some,sInsX_q,insR_some,sSetXO_q,setR_some,lstOf_lst,ownOf_own,mOrT_e,orT,  mRng,msk,ix2_0,ix2_1,ix3_0,ix3_1,ix3_2,mDNew,mMov,SO.opt,qP_x,qP_y,qPl_w,qPl_p,qPl_s,qP_in,qP_eq,qP_inD,qL_len,qTs_len,qL_one,qL_nil,qL_two,qL_map,qTs_map,qL_seq,qTs_seq,qS_keys,qL_sorted,qL_list,qTs_list,qP_non,qL_non,qM_non,qM_obj,qM_isO,qM_isi,qM_plan,qM_there,qM_parts,qM_cut,qM_mend,qM_cuts,qM_tris,qP_mk,qL_s1,qL_s0,qZ_lst,qZ_tup,qM_mk,qN_non,qN_bl,qN_int,qN_str,qN_tup,qN_lst,qB_lst,qB_tup,qL_unX,qL_itX,qL_lstOf,qTs_unX,qTs_itX,qTs_lstOf,qTr_bl,qTr_non,qTr_int,qTr_tup,qTr_lst,qTr_qL,m_lw_limit_9,m_lw_limit_8,m_lw_limit_7,m_lw_limit_6,m_lw_limit_5,m_lw_limit_4,m_lw_limit_3,m_lw_limit_11,m_lw_limit_12,m_lw_limit_10,m_lw_limit_2,m_lw_limit,f2]) ?_
        rfl
      | some a=>
        have nn:D.isNon (pD a) = false:=rfl
        show Hs _ (m_lw_limit_10 [some V,some T,some (pD a),o3,o4,o5])
        have e:(some a).getD g.top = a:=rfl
        rw [e]
        generalize pD a = PA at *
        refine nx_is (by conv=>lhs; simp [sSeq,sSet,sRet,sRetN,sExp,sIf,sNil,sAsg,sPar,mVar,mK,mOp,mUn,mTst_e,tstK,mAnd,mOr,mNot,mAndV_e,andK,mOrV_e,orK,mNotV_e,notK,mIf,mEq,mNe,dEq_int,dEq_bl,mIsN,mCons,mNil,mTup,mLst,mMov,mCall,bAbs,mIsi,isT,D.isDct,mCallF_e,callK,callO,callR,fill,puts,mOwnA,gN,gT,gC,gE,SO.opt,dAdd,dSub,dLt,dLe,dGt,dGe,dNeg,mChain_e,chK,mTru,mSeqI_q,mKeysI_q,mFld_q,mMeth_q,mMake_q,mkR_err,clr_ok,clr_err,mIsiC_q,mLenM_q,mSlice_q,sTryRow_q,tryR_nx,tryR_err,mNewL,mCat,mInD,mInDN,mInB,sRaise,mVarX_q,varR,unX_own,unX_lst,unX_non,unX_tup,mLenX_q,itX_own,itX_lst,mIxX_q,atX_int,sAppX_q,appR_some,sInsX_q,insR_some,sSetXO_q,setR_some,lstOf_lst,ownOf_own,mOrT_e,orT,  mRng,msk,ix2_0,ix2_1,ix3_0,ix3_1,ix3_2,mDNew,mMov,SO.opt,qP_x,qP_y,qPl_w,qPl_p,qPl_s,qP_in,qP_eq,qP_inD,qL_len,qTs_len,qL_one,qL_nil,qL_two,qL_map,qTs_map,qL_seq,qTs_seq,qS_keys,qL_sorted,qL_list,qTs_list,qP_non,qL_non,qM_non,qM_obj,qM_isO,qM_isi,qM_plan,qM_there,qM_parts,qM_cut,qM_mend,qM_cuts,qM_tris,qP_mk,qL_s1,qL_s0,qZ_lst,qZ_tup,qM_mk,qN_non,qN_bl,qN_int,qN_str,qN_tup,qN_lst,qB_lst,qB_tup,qL_unX,qL_itX,qL_lstOf,qTs_unX,qTs_itX,qTs_lstOf,qTr_bl,qTr_non,qTr_int,qTr_tup,qTr_lst,qTr_qL,m_lw_limit_9,m_lw_limit_8,m_lw_limit_7,m_lw_limit_6,m_lw_limit_5,m_lw_limit_4,m_lw_limit_3,m_lw_limit_11,m_lw_limit_12,m_lw_limit_10,m_lw_limit_2,m_lw_limit,nn]) ?_
        rfl
def sqd (x y:Int) (z:I2) : Int:=(x - z.1) * (x - z.1) + (y - z.2) * (y - z.2)
def farV (e:Option I2) (t:Tr) : Int:=match e with
  | none=>1
  | some z=>1 + min (min (sqd t.a t.b z) (sqd t.c t.d z)) (sqd t.e t.f z)
theorem dPow2 {i:Int} (h:i.natAbs < 2 ^ 64) : dPow (.int i) (.int 2) = some (.int (i * i)):=by
  show (if (0:Int) ≤ 2 ∧ (2:Int) ≤ 1000000 ∧ i.natAbs < 2 ^ 64 then some (D.int (i ^ (2:Int).toNat)) else none) = _
  rw [if_pos ⟨by decide,by decide,h⟩]
  congr 2
  show i ^ 2 = _
  rw [Int.pow_succ,Int.pow_succ,Int.pow_zero,Int.one_mul]
theorem dMul_sq {a:Int} (h:-200 ≤ a ∧ a ≤ 200) : dMul (.int a) (.int a) = some (.int (a * a)):=dMul_b (Nat.lt_of_le_of_lt (m:=200) (by omega) (by decide)) (Nat.lt_of_le_of_lt (m:=200) (by omega) (by decide))
theorem q_far {g:Sg} (h:gOk g) {t:Tr} (ht:t.small) : f_View_far [qV g,qT t] = .ok (.int (farV g.eye t)) [none,none]:=by
  have f1:=qV_eye g
  have i0:=qT_0 t
  have i1:=qT_1 t
  have i2:=qT_2 t
  have i3:=qT_3 t
  have i4:=qT_4 t
  have i5:=qT_5 t
  obtain ⟨ha,hb,hc,hd,he,hf⟩:=ht
  unfold farV
  cases e:g.eye with
  | none=>
    rw [e] at f1
    refine run_eq f_View_far_eq (by conv=>lhs; simp) ?_
    generalize qV g = V at *
    generalize qT t = T at *
    refine nx_is (by conv=>lhs; simp [sSeq,sSet,sRet,sRetN,sExp,sIf,sNil,sAsg,sPar,mVar,mK,mOp,mUn,mTst_e,tstK,mAnd,mOr,mNot,mAndV_e,andK,mOrV_e,orK,mNotV_e,notK,mIf,mEq,mNe,dEq_int,dEq_bl,mIsN,mCons,mNil,mTup,mLst,mMov,mCall,bAbs,mIsi,isT,D.isDct,mCallF_e,callK,callO,callR,fill,puts,mOwnA,gN,gT,gC,gE,SO.opt,dAdd,dSub,dLt,dLe,dGt,dGe,dNeg,mChain_e,chK,mTru,mSeqI_q,mKeysI_q,mFld_q,mMeth_q,mMake_q,mkR_err,clr_ok,clr_err,mIsiC_q,mLenM_q,mSlice_q,sTryRow_q,tryR_nx,tryR_err,mNewL,mCat,mInD,mInDN,mInB,sRaise,mVarX_q,varR,unX_own,unX_lst,unX_non,unX_tup,mLenX_q,itX_own,itX_lst,mIxX_q,atX_int,sAppX_q,appR_some,sInsX_q,insR_some,sSetXO_q,setR_some,lstOf_lst,ownOf_own,mOrT_e,orT,  mRng,msk,ix2_0,ix2_1,ix3_0,ix3_1,ix3_2,mDNew,mMov,SO.opt,qP_x,qP_y,qPl_w,qPl_p,qPl_s,qP_in,qP_eq,qP_inD,qL_len,qTs_len,qL_one,qL_nil,qL_two,qL_map,qTs_map,qL_seq,qTs_seq,qS_keys,qL_sorted,qL_list,qTs_list,qP_non,qL_non,qM_non,qM_obj,qM_isO,qM_isi,qM_plan,qM_there,qM_parts,qM_cut,qM_mend,qM_cuts,qM_tris,qP_mk,qL_s1,qL_s0,qZ_lst,qZ_tup,qM_mk,qN_non,qN_bl,qN_int,qN_str,qN_tup,qN_lst,qB_lst,qB_tup,qL_unX,qL_itX,qL_lstOf,qTs_unX,qTs_itX,qTs_lstOf,qTr_bl,qTr_non,qTr_int,qTr_tup,qTr_lst,qTr_qL,m_View_far_2,m_View_far_4,m_View_far_3,m_View_far,f1,spotD]) ?_
    rfl
  | some z=>
    have hz:=h.eye z e
    rw [e] at f1
    have f1:fldC "View" "eye" (qV g) = some (qP z):=f1
    have nn:D.isNon (qP z) = false:=rfl
    have pw:∀ {x:Int},-200 ≤ x ∧ x ≤ 200 → dPow (.int x) (.int 2) = some (.int (x * x)):=fun hx=>dPow2 (Nat.lt_of_le_of_lt (m:=200) (by omega) (by decide))
    have p1:=pw (x:=t.a - z.1) (by omega)
    have p2:=pw (x:=t.b - z.2) (by omega)
    have p3:=pw (x:=t.c - z.1) (by omega)
    have p4:=pw (x:=t.d - z.2) (by omega)
    have p5:=pw (x:=t.e - z.1) (by omega)
    have p6:=pw (x:=t.f - z.2) (by omega)
    have bm:=bMin3 (sqd t.a t.b z) (sqd t.c t.d z) (sqd t.e t.f z)
    unfold sqd at *
    refine run_eq f_View_far_eq (by conv=>lhs; simp) ?_
    generalize qV g = V at *
    generalize qT t = T at *
    have fe:mFld "View" "eye" (mVar 0) [some V,some T,none,none,none] = .ok (qP z) [some V,some T,none,none,none]:=by
      generalize qP z = Z at *
      simp [sSeq,sSet,sRet,sRetN,sExp,sIf,sNil,sAsg,sPar,mVar,mK,mOp,mUn,mTst_e,tstK,mAnd,mOr,mNot,mAndV_e,andK,mOrV_e,orK,mNotV_e,notK,mIf,mEq,mNe,dEq_int,dEq_bl,mIsN,mCons,mNil,mTup,mLst,mMov,mCall,bAbs,mIsi,isT,D.isDct,mCallF_e,callK,callO,callR,fill,puts,mOwnA,gN,gT,gC,gE,SO.opt,dAdd,dSub,dLt,dLe,dGt,dGe,dNeg,mChain_e,chK,mTru,mSeqI_q,mKeysI_q,mFld_q,mMeth_q,mMake_q,mkR_err,clr_ok,clr_err,mIsiC_q,mLenM_q,mSlice_q,sTryRow_q,tryR_nx,tryR_err,mNewL,mCat,mInD,mInDN,mInB,sRaise,mVarX_q,varR,unX_own,unX_lst,unX_non,unX_tup,mLenX_q,itX_own,itX_lst,mIxX_q,atX_int,sAppX_q,appR_some,sInsX_q,insR_some,sSetXO_q,setR_some,lstOf_lst,ownOf_own,mOrT_e,orT,  mRng,msk,ix2_0,ix2_1,ix3_0,ix3_1,ix3_2,mDNew,mMov,SO.opt,qP_x,qP_y,qPl_w,qPl_p,qPl_s,qP_in,qP_eq,qP_inD,qL_len,qTs_len,qL_one,qL_nil,qL_two,qL_map,qTs_map,qL_seq,qTs_seq,qS_keys,qL_sorted,qL_list,qTs_list,qP_non,qL_non,qM_non,qM_obj,qM_isO,qM_isi,qM_plan,qM_there,qM_parts,qM_cut,qM_mend,qM_cuts,qM_tris,qP_mk,qL_s1,qL_s0,qZ_lst,qZ_tup,qM_mk,qN_non,qN_bl,qN_int,qN_str,qN_tup,qN_lst,qB_lst,qB_tup,qL_unX,qL_itX,qL_lstOf,qTs_unX,qTs_itX,qTs_lstOf,qTr_bl,qTr_non,qTr_int,qTr_tup,qTr_lst,qTr_qL,f1]
    refine if_fn rfl (s0:=[some V,some T,none,none,none]) (by generalize qP z = Z at *; simp [sSeq,sSet,sRet,sRetN,sExp,sIf,sNil,sAsg,sPar,mVar,mK,mOp,mUn,mTst_e,tstK,mAnd,mOr,mNot,mAndV_e,andK,mOrV_e,orK,mNotV_e,notK,mIf,mEq,mNe,dEq_int,dEq_bl,mIsN,mCons,mNil,mTup,mLst,mMov,mCall,bAbs,mIsi,isT,D.isDct,mCallF_e,callK,callO,callR,fill,puts,mOwnA,gN,gT,gC,gE,SO.opt,dAdd,dSub,dLt,dLe,dGt,dGe,dNeg,mChain_e,chK,mTru,mSeqI_q,mKeysI_q,mFld_q,mMeth_q,mMake_q,mkR_err,clr_ok,clr_err,mIsiC_q,mLenM_q,mSlice_q,sTryRow_q,tryR_nx,tryR_err,mNewL,mCat,mInD,mInDN,mInB,sRaise,mVarX_q,varR,unX_own,unX_lst,unX_non,unX_tup,mLenX_q,itX_own,itX_lst,mIxX_q,atX_int,sAppX_q,appR_some,sInsX_q,insR_some,sSetXO_q,setR_some,lstOf_lst,ownOf_own,mOrT_e,orT,  mRng,msk,ix2_0,ix2_1,ix3_0,ix3_1,ix3_2,mDNew,mMov,SO.opt,qP_x,qP_y,qPl_w,qPl_p,qPl_s,qP_in,qP_eq,qP_inD,qL_len,qTs_len,qL_one,qL_nil,qL_two,qL_map,qTs_map,qL_seq,qTs_seq,qS_keys,qL_sorted,qL_list,qTs_list,qP_non,qL_non,qM_non,qM_obj,qM_isO,qM_isi,qM_plan,qM_there,qM_parts,qM_cut,qM_mend,qM_cuts,qM_tris,qP_mk,qL_s1,qL_s0,qZ_lst,qZ_tup,qM_mk,qN_non,qN_bl,qN_int,qN_str,qN_tup,qN_lst,qB_lst,qB_tup,qL_unX,qL_itX,qL_lstOf,qTs_unX,qTs_itX,qTs_lstOf,qTr_bl,qTr_non,qTr_int,qTr_tup,qTr_lst,qTr_qL,f1,nn]) ?_
    refine nx_step rfl (s':=[some V,some T,some (.int z.1),some (.int z.2),none]) (by unfold sAsg; rw [fe]; rfl) ?_
    generalize hL:(D.lst [.int ((t.a - z.1) * (t.a - z.1) + (t.b - z.2) * (t.b - z.2)),.int ((t.c - z.1) * (t.c - z.1) + (t.d - z.2) * (t.d - z.2)),.int ((t.e - z.1) * (t.e - z.1) + (t.f - z.2) * (t.f - z.2))]) = LL at *
    have ec:mComp (mSeqI (mTup (mCons (mK (.int 0)) (mCons (mK (.int 2)) (mCons (mK (.int 4)) mNil))))) (gN 4) mYes (mOp dAdd (mOp dPow (mOp dSub (mOp dIx (mVar 1) (mVar 4)) (mVar 2)) (mK (.int 2))) (mOp dPow (mOp dSub (mOp dIx (mVar 1) (mOp dAdd (mVar 4) (mK (.int 1)))) (mVar 3)) (mK (.int 2)))) [4] [some V,some T,some (.int z.1),some (.int z.2),none] = .ok LL [some V,some T,some (.int z.1),some (.int z.2),none]:=by
      rw [←hL]
      simp [sSeq,sSet,sRet,sRetN,sExp,sIf,sNil,sAsg,sPar,mVar,mK,mOp,mUn,mTst_e,tstK,mAnd,mOr,mNot,mAndV_e,andK,mOrV_e,orK,mNotV_e,notK,mIf,mEq,mNe,dEq_int,dEq_bl,mIsN,mCons,mNil,mTup,mLst,mMov,mCall,bAbs,mIsi,isT,D.isDct,mCallF_e,callK,callO,callR,fill,puts,mOwnA,gN,gT,gC,gE,SO.opt,dAdd,dSub,dLt,dLe,dGt,dGe,dNeg,mChain_e,chK,mTru,mSeqI_q,mKeysI_q,mFld_q,mMeth_q,mMake_q,mkR_err,clr_ok,clr_err,mIsiC_q,mLenM_q,mSlice_q,sTryRow_q,tryR_nx,tryR_err,mNewL,mCat,mInD,mInDN,mInB,sRaise,mVarX_q,varR,unX_own,unX_lst,unX_non,unX_tup,mLenX_q,itX_own,itX_lst,mIxX_q,atX_int,sAppX_q,appR_some,sInsX_q,insR_some,sSetXO_q,setR_some,lstOf_lst,ownOf_own,mOrT_e,orT,  mRng,msk,ix2_0,ix2_1,ix3_0,ix3_1,ix3_2,mDNew,mMov,SO.opt,qP_x,qP_y,qPl_w,qPl_p,qPl_s,qP_in,qP_eq,qP_inD,qL_len,qTs_len,qL_one,qL_nil,qL_two,qL_map,qTs_map,qL_seq,qTs_seq,qS_keys,qL_sorted,qL_list,qTs_list,qP_non,qL_non,qM_non,qM_obj,qM_isO,qM_isi,qM_plan,qM_there,qM_parts,qM_cut,qM_mend,qM_cuts,qM_tris,qP_mk,qL_s1,qL_s0,qZ_lst,qZ_tup,qM_mk,qN_non,qN_bl,qN_int,qN_str,qN_tup,qN_lst,qB_lst,qB_tup,qL_unX,qL_itX,qL_lstOf,qTs_unX,qTs_itX,qTs_lstOf,qTr_bl,qTr_non,qTr_int,qTr_tup,qTr_lst,qTr_qL,mComp,compM,mYes,i0,i1,i2,i3,i4,i5,p1,p2,p3,p4,p5,p6,swipe,srest]
    refine nx_is (o:=.rt (.int (1 + min (min ((t.a - z.1) * (t.a - z.1) + (t.b - z.2) * (t.b - z.2)) ((t.c - z.1) * (t.c - z.1) + (t.d - z.2) * (t.d - z.2))) ((t.e - z.1) * (t.e - z.1) + (t.f - z.2) * (t.f - z.2)))) [some V,some T,some (.int z.1),some (.int z.2),none]) ?_ rfl
    unfold m_View_far_4
    generalize min (min ((t.a - z.1) * (t.a - z.1) + (t.b - z.2) * (t.b - z.2)) ((t.c - z.1) * (t.c - z.1) + (t.d - z.2) * (t.d - z.2))) ((t.e - z.1) * (t.e - z.1) + (t.f - z.2) * (t.f - z.2)) = MM at *
    simp [sSeq,sSet,sRet,sRetN,sExp,sIf,sNil,sAsg,sPar,mVar,mK,mOp,mUn,mTst_e,tstK,mAnd,mOr,mNot,mAndV_e,andK,mOrV_e,orK,mNotV_e,notK,mIf,mEq,mNe,dEq_int,dEq_bl,mIsN,mCons,mNil,mTup,mLst,mMov,mCall,bAbs,mIsi,isT,D.isDct,mCallF_e,callK,callO,callR,fill,puts,mOwnA,gN,gT,gC,gE,SO.opt,dAdd,dSub,dLt,dLe,dGt,dGe,dNeg,mChain_e,chK,mTru,mSeqI_q,mKeysI_q,mFld_q,mMeth_q,mMake_q,mkR_err,clr_ok,clr_err,mIsiC_q,mLenM_q,mSlice_q,sTryRow_q,tryR_nx,tryR_err,mNewL,mCat,mInD,mInDN,mInB,sRaise,mVarX_q,varR,unX_own,unX_lst,unX_non,unX_tup,mLenX_q,itX_own,itX_lst,mIxX_q,atX_int,sAppX_q,appR_some,sInsX_q,insR_some,sSetXO_q,setR_some,lstOf_lst,ownOf_own,mOrT_e,orT,  mRng,msk,ix2_0,ix2_1,ix3_0,ix3_1,ix3_2,mDNew,mMov,SO.opt,qP_x,qP_y,qPl_w,qPl_p,qPl_s,qP_in,qP_eq,qP_inD,qL_len,qTs_len,qL_one,qL_nil,qL_two,qL_map,qTs_map,qL_seq,qTs_seq,qS_keys,qL_sorted,qL_list,qTs_list,qP_non,qL_non,qM_non,qM_obj,qM_isO,qM_isi,qM_plan,qM_there,qM_parts,qM_cut,qM_mend,qM_cuts,qM_tris,qP_mk,qL_s1,qL_s0,qZ_lst,qZ_tup,qM_mk,qN_non,qN_bl,qN_int,qN_str,qN_tup,qN_lst,qB_lst,qB_tup,qL_unX,qL_itX,qL_lstOf,qTs_unX,qTs_itX,qTs_lstOf,qTr_bl,qTr_non,qTr_int,qTr_tup,qTr_lst,qTr_qL,ec,bm]
theorem q_lfar {g:Sg} (h:gOk g) {t:Tr} (ht:t.small) : f_lw_far [sgD g,qT t] = .ok (.int (farV g.eye t)) [none,none]:=by
  have f1:dIx (sgD g) (.int 1) = some (spotD g.eye):=rfl
  have cc:=q_lcorners t
  obtain ⟨ha,hb,hc,hd,he,hf⟩:=ht
  unfold farV
  cases e:g.eye with
  | none=>
    rw [e] at f1
    refine run_eq f_lw_far_eq (by conv=>lhs; simp) ?_
    generalize sgD g = V at *
    generalize qT t = T at *
    refine nx_is (by conv=>lhs; simp [sSeq,sSet,sRet,sRetN,sExp,sIf,sNil,sAsg,sPar,mVar,mK,mOp,mUn,mTst_e,tstK,mAnd,mOr,mNot,mAndV_e,andK,mOrV_e,orK,mNotV_e,notK,mIf,mEq,mNe,dEq_int,dEq_bl,mIsN,mCons,mNil,mTup,mLst,mMov,mCall,bAbs,mIsi,isT,D.isDct,mCallF_e,callK,callO,callR,fill,puts,mOwnA,gN,gT,gC,gE,SO.opt,dAdd,dSub,dLt,dLe,dGt,dGe,dNeg,mChain_e,chK,mTru,mSeqI_q,mKeysI_q,mFld_q,mMeth_q,mMake_q,mkR_err,clr_ok,clr_err,mIsiC_q,mLenM_q,mSlice_q,sTryRow_q,tryR_nx,tryR_err,mNewL,mCat,mInD,mInDN,mInB,sRaise,mVarX_q,varR,unX_own,unX_lst,unX_non,unX_tup,mLenX_q,itX_own,itX_lst,mIxX_q,atX_int,sAppX_q,appR_some,sInsX_q,insR_some,sSetXO_q,setR_some,lstOf_lst,ownOf_own,mOrT_e,orT,  mRng,msk,ix2_0,ix2_1,ix3_0,ix3_1,ix3_2,mDNew,mMov,SO.opt,qP_x,qP_y,qPl_w,qPl_p,qPl_s,qP_in,qP_eq,qP_inD,qL_len,qTs_len,qL_one,qL_nil,qL_two,qL_map,qTs_map,qL_seq,qTs_seq,qS_keys,qL_sorted,qL_list,qTs_list,qP_non,qL_non,qM_non,qM_obj,qM_isO,qM_isi,qM_plan,qM_there,qM_parts,qM_cut,qM_mend,qM_cuts,qM_tris,qP_mk,qL_s1,qL_s0,qZ_lst,qZ_tup,qM_mk,qN_non,qN_bl,qN_int,qN_str,qN_tup,qN_lst,qB_lst,qB_tup,qL_unX,qL_itX,qL_lstOf,qTs_unX,qTs_itX,qTs_lstOf,qTr_bl,qTr_non,qTr_int,qTr_tup,qTr_lst,qTr_qL,m_lw_far_2,m_lw_far_4,m_lw_far_3,m_lw_far,f1,spotD]) ?_
    rfl
  | some z=>
    have hz:=h.eye z e
    rw [e] at f1
    have f1:dIx (sgD g) (.int 1) = some (qP z):=f1
    have nn:D.isNon (qP z) = false:=rfl
    have p1:=dMul_sq (a:=t.a - z.1) (by omega)
    have p2:=dMul_sq (a:=t.b - z.2) (by omega)
    have p3:=dMul_sq (a:=t.c - z.1) (by omega)
    have p4:=dMul_sq (a:=t.d - z.2) (by omega)
    have p5:=dMul_sq (a:=t.e - z.1) (by omega)
    have p6:=dMul_sq (a:=t.f - z.2) (by omega)
    have bm:=bMin3 (sqd t.a t.b z) (sqd t.c t.d z) (sqd t.e t.f z)
    unfold sqd at *
    refine run_eq f_lw_far_eq (by conv=>lhs; simp) ?_
    generalize sgD g = V at *
    generalize qT t = T at *
    have fe:mOp dIx (mVar 0) (mK (.int 1)) [some V,some T,none,none,none] = .ok (qP z) [some V,some T,none,none,none]:=by
      generalize qP z = Z at *
      simp [sSeq,sSet,sRet,sRetN,sExp,sIf,sNil,sAsg,sPar,mVar,mK,mOp,mUn,mTst_e,tstK,mAnd,mOr,mNot,mAndV_e,andK,mOrV_e,orK,mNotV_e,notK,mIf,mEq,mNe,dEq_int,dEq_bl,mIsN,mCons,mNil,mTup,mLst,mMov,mCall,bAbs,mIsi,isT,D.isDct,mCallF_e,callK,callO,callR,fill,puts,mOwnA,gN,gT,gC,gE,SO.opt,dAdd,dSub,dLt,dLe,dGt,dGe,dNeg,mChain_e,chK,mTru,mSeqI_q,mKeysI_q,mFld_q,mMeth_q,mMake_q,mkR_err,clr_ok,clr_err,mIsiC_q,mLenM_q,mSlice_q,sTryRow_q,tryR_nx,tryR_err,mNewL,mCat,mInD,mInDN,mInB,sRaise,mVarX_q,varR,unX_own,unX_lst,unX_non,unX_tup,mLenX_q,itX_own,itX_lst,mIxX_q,atX_int,sAppX_q,appR_some,sInsX_q,insR_some,sSetXO_q,setR_some,lstOf_lst,ownOf_own,mOrT_e,orT,  mRng,msk,ix2_0,ix2_1,ix3_0,ix3_1,ix3_2,mDNew,mMov,SO.opt,qP_x,qP_y,qPl_w,qPl_p,qPl_s,qP_in,qP_eq,qP_inD,qL_len,qTs_len,qL_one,qL_nil,qL_two,qL_map,qTs_map,qL_seq,qTs_seq,qS_keys,qL_sorted,qL_list,qTs_list,qP_non,qL_non,qM_non,qM_obj,qM_isO,qM_isi,qM_plan,qM_there,qM_parts,qM_cut,qM_mend,qM_cuts,qM_tris,qP_mk,qL_s1,qL_s0,qZ_lst,qZ_tup,qM_mk,qN_non,qN_bl,qN_int,qN_str,qN_tup,qN_lst,qB_lst,qB_tup,qL_unX,qL_itX,qL_lstOf,qTs_unX,qTs_itX,qTs_lstOf,qTr_bl,qTr_non,qTr_int,qTr_tup,qTr_lst,qTr_qL,f1]
    refine if_fn rfl (s0:=[some V,some T,none,none,none]) (by generalize qP z = Z at *; simp [sSeq,sSet,sRet,sRetN,sExp,sIf,sNil,sAsg,sPar,mVar,mK,mOp,mUn,mTst_e,tstK,mAnd,mOr,mNot,mAndV_e,andK,mOrV_e,orK,mNotV_e,notK,mIf,mEq,mNe,dEq_int,dEq_bl,mIsN,mCons,mNil,mTup,mLst,mMov,mCall,bAbs,mIsi,isT,D.isDct,mCallF_e,callK,callO,callR,fill,puts,mOwnA,gN,gT,gC,gE,SO.opt,dAdd,dSub,dLt,dLe,dGt,dGe,dNeg,mChain_e,chK,mTru,mSeqI_q,mKeysI_q,mFld_q,mMeth_q,mMake_q,mkR_err,clr_ok,clr_err,mIsiC_q,mLenM_q,mSlice_q,sTryRow_q,tryR_nx,tryR_err,mNewL,mCat,mInD,mInDN,mInB,sRaise,mVarX_q,varR,unX_own,unX_lst,unX_non,unX_tup,mLenX_q,itX_own,itX_lst,mIxX_q,atX_int,sAppX_q,appR_some,sInsX_q,insR_some,sSetXO_q,setR_some,lstOf_lst,ownOf_own,mOrT_e,orT,  mRng,msk,ix2_0,ix2_1,ix3_0,ix3_1,ix3_2,mDNew,mMov,SO.opt,qP_x,qP_y,qPl_w,qPl_p,qPl_s,qP_in,qP_eq,qP_inD,qL_len,qTs_len,qL_one,qL_nil,qL_two,qL_map,qTs_map,qL_seq,qTs_seq,qS_keys,qL_sorted,qL_list,qTs_list,qP_non,qL_non,qM_non,qM_obj,qM_isO,qM_isi,qM_plan,qM_there,qM_parts,qM_cut,qM_mend,qM_cuts,qM_tris,qP_mk,qL_s1,qL_s0,qZ_lst,qZ_tup,qM_mk,qN_non,qN_bl,qN_int,qN_str,qN_tup,qN_lst,qB_lst,qB_tup,qL_unX,qL_itX,qL_lstOf,qTs_unX,qTs_itX,qTs_lstOf,qTr_bl,qTr_non,qTr_int,qTr_tup,qTr_lst,qTr_qL,f1,nn]) ?_
    refine nx_step rfl (s':=[some V,some T,some (.int z.1),some (.int z.2),none]) (by unfold sAsg; rw [fe]; rfl) ?_
    generalize hL:(D.lst [.int ((t.a - z.1) * (t.a - z.1) + (t.b - z.2) * (t.b - z.2)),.int ((t.c - z.1) * (t.c - z.1) + (t.d - z.2) * (t.d - z.2)),.int ((t.e - z.1) * (t.e - z.1) + (t.f - z.2) * (t.f - z.2))]) = LL at *
    have ec:mComp (mSeqI (mCallF f_lw_corners_of [none] [] (mCons (mVar 1) mNil))) (gN 4) mYes (mOp dAdd (mOp dMul (mOp dSub (mOp dIx (mVar 4) (mK (.int 0))) (mVar 2)) (mOp dSub (mOp dIx (mVar 4) (mK (.int 0))) (mVar 2))) (mOp dMul (mOp dSub (mOp dIx (mVar 4) (mK (.int 1))) (mVar 3)) (mOp dSub (mOp dIx (mVar 4) (mK (.int 1))) (mVar 3)))) [4] [some V,some T,some (.int z.1),some (.int z.2),none] = .ok LL [some V,some T,some (.int z.1),some (.int z.2),none]:=by
      rw [←hL]
      simp [sSeq,sSet,sRet,sRetN,sExp,sIf,sNil,sAsg,sPar,mVar,mK,mOp,mUn,mTst_e,tstK,mAnd,mOr,mNot,mAndV_e,andK,mOrV_e,orK,mNotV_e,notK,mIf,mEq,mNe,dEq_int,dEq_bl,mIsN,mCons,mNil,mTup,mLst,mMov,mCall,bAbs,mIsi,isT,D.isDct,mCallF_e,callK,callO,callR,fill,puts,mOwnA,gN,gT,gC,gE,SO.opt,dAdd,dSub,dLt,dLe,dGt,dGe,dNeg,mChain_e,chK,mTru,mSeqI_q,mKeysI_q,mFld_q,mMeth_q,mMake_q,mkR_err,clr_ok,clr_err,mIsiC_q,mLenM_q,mSlice_q,sTryRow_q,tryR_nx,tryR_err,mNewL,mCat,mInD,mInDN,mInB,sRaise,mVarX_q,varR,unX_own,unX_lst,unX_non,unX_tup,mLenX_q,itX_own,itX_lst,mIxX_q,atX_int,sAppX_q,appR_some,sInsX_q,insR_some,sSetXO_q,setR_some,lstOf_lst,ownOf_own,mOrT_e,orT,  mRng,msk,ix2_0,ix2_1,ix3_0,ix3_1,ix3_2,mDNew,mMov,SO.opt,qP_x,qP_y,qPl_w,qPl_p,qPl_s,qP_in,qP_eq,qP_inD,qL_len,qTs_len,qL_one,qL_nil,qL_two,qL_map,qTs_map,qL_seq,qTs_seq,qS_keys,qL_sorted,qL_list,qTs_list,qP_non,qL_non,qM_non,qM_obj,qM_isO,qM_isi,qM_plan,qM_there,qM_parts,qM_cut,qM_mend,qM_cuts,qM_tris,qP_mk,qL_s1,qL_s0,qZ_lst,qZ_tup,qM_mk,qN_non,qN_bl,qN_int,qN_str,qN_tup,qN_lst,qB_lst,qB_tup,qL_unX,qL_itX,qL_lstOf,qTs_unX,qTs_itX,qTs_lstOf,qTr_bl,qTr_non,qTr_int,qTr_tup,qTr_lst,qTr_qL,mComp,compM,mYes,cc,p1,p2,p3,p4,p5,p6,swipe,srest]
    refine nx_is (o:=.rt (.int (1 + min (min ((t.a - z.1) * (t.a - z.1) + (t.b - z.2) * (t.b - z.2)) ((t.c - z.1) * (t.c - z.1) + (t.d - z.2) * (t.d - z.2))) ((t.e - z.1) * (t.e - z.1) + (t.f - z.2) * (t.f - z.2)))) [some V,some T,some (.int z.1),some (.int z.2),none]) ?_ rfl
    unfold m_lw_far_4
    generalize min (min ((t.a - z.1) * (t.a - z.1) + (t.b - z.2) * (t.b - z.2)) ((t.c - z.1) * (t.c - z.1) + (t.d - z.2) * (t.d - z.2))) ((t.e - z.1) * (t.e - z.1) + (t.f - z.2) * (t.f - z.2)) = MM at *
    simp [sSeq,sSet,sRet,sRetN,sExp,sIf,sNil,sAsg,sPar,mVar,mK,mOp,mUn,mTst_e,tstK,mAnd,mOr,mNot,mAndV_e,andK,mOrV_e,orK,mNotV_e,notK,mIf,mEq,mNe,dEq_int,dEq_bl,mIsN,mCons,mNil,mTup,mLst,mMov,mCall,bAbs,mIsi,isT,D.isDct,mCallF_e,callK,callO,callR,fill,puts,mOwnA,gN,gT,gC,gE,SO.opt,dAdd,dSub,dLt,dLe,dGt,dGe,dNeg,mChain_e,chK,mTru,mSeqI_q,mKeysI_q,mFld_q,mMeth_q,mMake_q,mkR_err,clr_ok,clr_err,mIsiC_q,mLenM_q,mSlice_q,sTryRow_q,tryR_nx,tryR_err,mNewL,mCat,mInD,mInDN,mInB,sRaise,mVarX_q,varR,unX_own,unX_lst,unX_non,unX_tup,mLenX_q,itX_own,itX_lst,mIxX_q,atX_int,sAppX_q,appR_some,sInsX_q,insR_some,sSetXO_q,setR_some,lstOf_lst,ownOf_own,mOrT_e,orT,  mRng,msk,ix2_0,ix2_1,ix3_0,ix3_1,ix3_2,mDNew,mMov,SO.opt,qP_x,qP_y,qPl_w,qPl_p,qPl_s,qP_in,qP_eq,qP_inD,qL_len,qTs_len,qL_one,qL_nil,qL_two,qL_map,qTs_map,qL_seq,qTs_seq,qS_keys,qL_sorted,qL_list,qTs_list,qP_non,qL_non,qM_non,qM_obj,qM_isO,qM_isi,qM_plan,qM_there,qM_parts,qM_cut,qM_mend,qM_cuts,qM_tris,qP_mk,qL_s1,qL_s0,qZ_lst,qZ_tup,qM_mk,qN_non,qN_bl,qN_int,qN_str,qN_tup,qN_lst,qB_lst,qB_tup,qL_unX,qL_itX,qL_lstOf,qTs_unX,qTs_itX,qTs_lstOf,qTr_bl,qTr_non,qTr_int,qTr_tup,qTr_lst,qTr_qL,ec,bm]
theorem filter_yes {α:Type} (L:List α) : L.filter (fun _=>true) = L:=by
  induction L with
  | nil=>rfl
  | cons a L ih=>rw [List.filter_cons_of_pos rfl,ih]
def seqE:D → Option (List D)
  | .tup ds=>some ds
  | .lst ds=>some ds
  | .obj _ [] [.non]=>some []
  | _=>none
theorem mSeqE_q (m:M) (s:Env) : mSeqE m s = (m s).bind fun d s1=>R.opt (seqE d) s1:=by
  unfold mSeqE
  congr 1
  funext d s1
  cases d with
  | obj c ns ds=>
    cases ns with
    | cons _ _=>rfl
    | nil=>
      cases ds with
      | nil=>rfl
      | cons z zs=>
        cases zs with
        | nil=>cases z <;> rfl
        | cons _ _=>cases z <;> rfl
  | _=>rfl
theorem q_wholeP (a:Int × Int) : f_is_whole [pD a] = .ok (.bl false) [none]:=by
  refine run_eq f_is_whole_eq (by conv=>lhs; simp) ?_
  rfl
theorem q_asshareP {a:Int × Int} (h:0 ≤ a.1) : f_as_share [pD a] = .ok (pD a) [none]:=by
  have e:=q_wholeP a
  have x0:dIx (pD a) (.int 0) = some (.int a.1):=rfl
  have n:¬ a.1 < 0:=by omega
  refine run_eq f_as_share_eq (by conv=>lhs; simp) ?_
  generalize pD a = A at *
  refine nx_step rfl (by conv=>lhs; simp [sSeq,sSet,sRet,sRetN,sExp,sIf,sNil,sAsg,sPar,mVar,mK,mOp,mUn,mTst_e,tstK,mAnd,mOr,mNot,mAndV_e,andK,mOrV_e,orK,mNotV_e,notK,mIf,mEq,mNe,dEq_int,dEq_bl,mIsN,mCons,mNil,mTup,mLst,mMov,mCall,bAbs,mIsi,isT,D.isDct,mCallF_e,callK,callO,callR,fill,puts,mOwnA,gN,gT,gC,gE,SO.opt,dAdd,dSub,dLt,dLe,dGt,dGe,dNeg,mChain_e,chK,mTru,mSeqI_q,mKeysI_q,mFld_q,mMeth_q,mMake_q,mkR_err,clr_ok,clr_err,mIsiC_q,mLenM_q,mSlice_q,sTryRow_q,tryR_nx,tryR_err,mNewL,mCat,mInD,mInDN,mInB,sRaise,mVarX_q,varR,unX_own,unX_lst,unX_non,unX_tup,mLenX_q,itX_own,itX_lst,mIxX_q,atX_int,sAppX_q,appR_some,sInsX_q,insR_some,sSetXO_q,setR_some,lstOf_lst,ownOf_own,mOrT_e,orT,  mRng,msk,ix2_0,ix2_1,ix3_0,ix3_1,ix3_2,mDNew,mMov,SO.opt,qP_x,qP_y,qPl_w,qPl_p,qPl_s,qP_in,qP_eq,qP_inD,qL_len,qTs_len,qL_one,qL_nil,qL_two,qL_map,qTs_map,qL_seq,qTs_seq,qS_keys,qL_sorted,qL_list,qTs_list,qP_non,qL_non,qM_non,qM_obj,qM_isO,qM_isi,qM_plan,qM_there,qM_parts,qM_cut,qM_mend,qM_cuts,qM_tris,qP_mk,qL_s1,qL_s0,qZ_lst,qZ_tup,qM_mk,qN_non,qN_bl,qN_int,qN_str,qN_tup,qN_lst,qB_lst,qB_tup,qL_unX,qL_itX,qL_lstOf,qTs_unX,qTs_itX,qTs_lstOf,qTr_bl,qTr_non,qTr_int,qTr_tup,qTr_lst,qTr_qL,e]) ?_
  refine nx_is (by conv=>lhs; simp [sSeq,sSet,sRet,sRetN,sExp,sIf,sNil,sAsg,sPar,mVar,mK,mOp,mUn,mTst_e,tstK,mAnd,mOr,mNot,mAndV_e,andK,mOrV_e,orK,mNotV_e,notK,mIf,mEq,mNe,dEq_int,dEq_bl,mIsN,mCons,mNil,mTup,mLst,mMov,mCall,bAbs,mIsi,isT,D.isDct,mCallF_e,callK,callO,callR,fill,puts,mOwnA,gN,gT,gC,gE,SO.opt,dAdd,dSub,dLt,dLe,dGt,dGe,dNeg,mChain_e,chK,mTru,mSeqI_q,mKeysI_q,mFld_q,mMeth_q,mMake_q,mkR_err,clr_ok,clr_err,mIsiC_q,mLenM_q,mSlice_q,sTryRow_q,tryR_nx,tryR_err,mNewL,mCat,mInD,mInDN,mInB,sRaise,mVarX_q,varR,unX_own,unX_lst,unX_non,unX_tup,mLenX_q,itX_own,itX_lst,mIxX_q,atX_int,sAppX_q,appR_some,sInsX_q,insR_some,sSetXO_q,setR_some,lstOf_lst,ownOf_own,mOrT_e,orT,  mRng,msk,ix2_0,ix2_1,ix3_0,ix3_1,ix3_2,mDNew,mMov,SO.opt,qP_x,qP_y,qPl_w,qPl_p,qPl_s,qP_in,qP_eq,qP_inD,qL_len,qTs_len,qL_one,qL_nil,qL_two,qL_map,qTs_map,qL_seq,qTs_seq,qS_keys,qL_sorted,qL_list,qTs_list,qP_non,qL_non,qM_non,qM_obj,qM_isO,qM_isi,qM_plan,qM_there,qM_parts,qM_cut,qM_mend,qM_cuts,qM_tris,qP_mk,qL_s1,qL_s0,qZ_lst,qZ_tup,qM_mk,qN_non,qN_bl,qN_int,qN_str,qN_tup,qN_lst,qB_lst,qB_tup,qL_unX,qL_itX,qL_lstOf,qTs_unX,qTs_itX,qTs_lstOf,qTr_bl,qTr_non,qTr_int,qTr_tup,qTr_lst,qTr_qL,m_as_share_3,m_as_share_4,m_as_share_2,m_as_share,x0,n]) ?_
  rfl
theorem q_asshareI {n:Int} (h:0 ≤ n) : f_as_share [.int n] = .ok (pD (n,1)) [none]:=by
  have e:=q_whole n
  have x0:dIx (pD (n,1)) (.int 0) = some (.int n):=rfl
  have hn:¬ n < 0:=by omega
  have e1:D.tup [.int n,.int 1] = pD (n,1):=rfl
  refine run_eq f_as_share_eq (by conv=>lhs; simp) ?_
  refine nx_step rfl (s':=[some (.int n),some (pD (n,1))]) (by
    rw [←e1]
    simp [sSeq,sSet,sRet,sRetN,sExp,sIf,sNil,sAsg,sPar,mVar,mK,mOp,mUn,mTst_e,tstK,mAnd,mOr,mNot,mAndV_e,andK,mOrV_e,orK,mNotV_e,notK,mIf,mEq,mNe,dEq_int,dEq_bl,mIsN,D.isNon,mCons,mNil,mTup,mLst,mMov,mCall,bLen,bAbs,mIsi,isT,D.isDct,mCallF_e,callK,callO,callR,fill,puts,mOwnA,gN,gT,gC,gE,SO.opt,dAdd,dSub,dLt,dLe,dGt,dGe,dNeg,mChain_e,chK,mTru,dTru,mSeqI,mRng,msk,ix2_0,ix2_1,ix3_0,ix3_1,ix3_2,mDNew,mMov,SO.opt,e]) ?_
  generalize pD (n,1) = A at *
  refine nx_is (by conv=>lhs; simp [sSeq,sSet,sRet,sRetN,sExp,sIf,sNil,sAsg,sPar,mVar,mK,mOp,mUn,mTst_e,tstK,mAnd,mOr,mNot,mAndV_e,andK,mOrV_e,orK,mNotV_e,notK,mIf,mEq,mNe,dEq_int,dEq_bl,mIsN,mCons,mNil,mTup,mLst,mMov,mCall,bAbs,mIsi,isT,D.isDct,mCallF_e,callK,callO,callR,fill,puts,mOwnA,gN,gT,gC,gE,SO.opt,dAdd,dSub,dLt,dLe,dGt,dGe,dNeg,mChain_e,chK,mTru,mSeqI_q,mKeysI_q,mFld_q,mMeth_q,mMake_q,mkR_err,clr_ok,clr_err,mIsiC_q,mLenM_q,mSlice_q,sTryRow_q,tryR_nx,tryR_err,mNewL,mCat,mInD,mInDN,mInB,sRaise,mVarX_q,varR,unX_own,unX_lst,unX_non,unX_tup,mLenX_q,itX_own,itX_lst,mIxX_q,atX_int,sAppX_q,appR_some,sInsX_q,insR_some,sSetXO_q,setR_some,lstOf_lst,ownOf_own,mOrT_e,orT,  mRng,msk,ix2_0,ix2_1,ix3_0,ix3_1,ix3_2,mDNew,mMov,SO.opt,qP_x,qP_y,qPl_w,qPl_p,qPl_s,qP_in,qP_eq,qP_inD,qL_len,qTs_len,qL_one,qL_nil,qL_two,qL_map,qTs_map,qL_seq,qTs_seq,qS_keys,qL_sorted,qL_list,qTs_list,qP_non,qL_non,qM_non,qM_obj,qM_isO,qM_isi,qM_plan,qM_there,qM_parts,qM_cut,qM_mend,qM_cuts,qM_tris,qP_mk,qL_s1,qL_s0,qZ_lst,qZ_tup,qM_mk,qN_non,qN_bl,qN_int,qN_str,qN_tup,qN_lst,qB_lst,qB_tup,qL_unX,qL_itX,qL_lstOf,qTs_unX,qTs_itX,qTs_lstOf,qTr_bl,qTr_non,qTr_int,qTr_tup,qTr_lst,qTr_qL,m_as_share_3,m_as_share_4,m_as_share_2,m_as_share,x0,hn]) ?_
  rfl
theorem q_asbox {b:Vbx} (h:0 ≤ b.t.1) : f_as_box [bxD b] = .ok (bxD (vbn b)) [none]:=by
  have e:=q_asshareP h
  refine run_eq f_as_box_eq (by conv=>lhs; simp) ?_
  refine nx_step rfl (s':=[some (bxD b),some (.lst [.int b.x,.int b.y,.int b.u,.int b.v]),some (pD b.t),none,none,none,none]) (by rfl) ?_
  refine nx_step rfl (s':=[some (bxD b),some (.lst [.int b.x,.int b.y,.int b.u,.int b.v]),some (pD b.t),some (.int b.x),some (.int b.y),some (.int b.u),some (.int b.v)]) (by rfl) ?_
  have p1:bPick2 mx2 [.int b.x,.int b.u] = some (.int (mx2 b.x b.u)):=rfl
  have p2:bPick2 mn2 [.int b.x,.int b.u] = some (.int (mn2 b.x b.u)):=rfl
  have p3:bPick2 mx2 [.int b.y,.int b.v] = some (.int (mx2 b.y b.v)):=rfl
  have p4:bPick2 mn2 [.int b.y,.int b.v] = some (.int (mn2 b.y b.v)):=rfl
  have eb:bxD (vbn b) = .tup [.int (mn2 b.x b.u),.int (mn2 b.y b.v),.int (mx2 b.x b.u),.int (mx2 b.y b.v),pD b.t]:=rfl
  rw [eb]
  generalize bxD b = BD at *
  generalize pD b.t = PB at *
  generalize mx2 b.x b.u = U1 at *
  generalize mn2 b.x b.u = U2 at *
  generalize mx2 b.y b.v = U3 at *
  generalize mn2 b.y b.v = U4 at *
  generalize D.lst [.int b.x,.int b.y,.int b.u,.int b.v] = LL at *
  refine nx_is (by conv=>lhs; simp [sSeq,sSet,sRet,sRetN,sExp,sIf,sNil,sAsg,sPar,mVar,mK,mOp,mUn,mTst_e,tstK,mAnd,mOr,mNot,mAndV_e,andK,mOrV_e,orK,mNotV_e,notK,mIf,mEq,mNe,dEq_int,dEq_bl,mIsN,mCons,mNil,mTup,mLst,mMov,mCall,bAbs,mIsi,isT,D.isDct,mCallF_e,callK,callO,callR,fill,puts,mOwnA,gN,gT,gC,gE,SO.opt,dAdd,dSub,dLt,dLe,dGt,dGe,dNeg,mChain_e,chK,mTru,mSeqI_q,mKeysI_q,mFld_q,mMeth_q,mMake_q,mkR_err,clr_ok,clr_err,mIsiC_q,mLenM_q,mSlice_q,sTryRow_q,tryR_nx,tryR_err,mNewL,mCat,mInD,mInDN,mInB,sRaise,mVarX_q,varR,unX_own,unX_lst,unX_non,unX_tup,mLenX_q,itX_own,itX_lst,mIxX_q,atX_int,sAppX_q,appR_some,sInsX_q,insR_some,sSetXO_q,setR_some,lstOf_lst,ownOf_own,mOrT_e,orT,  mRng,msk,ix2_0,ix2_1,ix3_0,ix3_1,ix3_2,mDNew,mMov,SO.opt,qP_x,qP_y,qPl_w,qPl_p,qPl_s,qP_in,qP_eq,qP_inD,qL_len,qTs_len,qL_one,qL_nil,qL_two,qL_map,qTs_map,qL_seq,qTs_seq,qS_keys,qL_sorted,qL_list,qTs_list,qP_non,qL_non,qM_non,qM_obj,qM_isO,qM_isi,qM_plan,qM_there,qM_parts,qM_cut,qM_mend,qM_cuts,qM_tris,qP_mk,qL_s1,qL_s0,qZ_lst,qZ_tup,qM_mk,qN_non,qN_bl,qN_int,qN_str,qN_tup,qN_lst,qB_lst,qB_tup,qL_unX,qL_itX,qL_lstOf,qTs_unX,qTs_itX,qTs_lstOf,qTr_bl,qTr_non,qTr_int,qTr_tup,qTr_lst,qTr_qL,m_as_box_3,m_as_box_2,m_as_box,p1,p2,p3,p4,e]) ?_
  rfl
theorem q_vinit {g:Sg} (h:gOk g) (hl:g.bx.length < 16000000) {TD BD:D} (hT:f_as_share [TD] = .ok (pD g.top) [none]) (hB:seqE BD = some (g.bx.map bxD)) : f_View_init [.obj "View" [] [],TD,spotD g.eye,BD] = .ok .non [some (qV g),none,none,none]:=by
  refine run_eq f_View_init_eq (by conv=>lhs; simp) ?_
  refine nx_step rfl (fO_new (i:=0) (f:= "tolerance") (c:= "View") (ns:=[]) (ds:=[]) (d:=pD g.top) (s1:=[some (.obj "View" [] []),some TD,some (spotD g.eye),some BD,none]) (by
    generalize spotD g.eye = E at *
    generalize pD g.top = P at *
    generalize D.obj "View" [] [] = O at *
    simp [sSeq,sSet,sRet,sRetN,sExp,sIf,sNil,sAsg,sPar,mVar,mK,mOp,mUn,mTst_e,tstK,mAnd,mOr,mNot,mAndV_e,andK,mOrV_e,orK,mNotV_e,notK,mIf,mEq,mNe,dEq_int,dEq_bl,mIsN,mCons,mNil,mTup,mLst,mMov,mCall,bAbs,mIsi,isT,D.isDct,mCallF_e,callK,callO,callR,fill,puts,mOwnA,gN,gT,gC,gE,SO.opt,dAdd,dSub,dLt,dLe,dGt,dGe,dNeg,mChain_e,chK,mTru,mSeqI_q,mKeysI_q,mFld_q,mMeth_q,mMake_q,mkR_err,clr_ok,clr_err,mIsiC_q,mLenM_q,mSlice_q,sTryRow_q,tryR_nx,tryR_err,mNewL,mCat,mInD,mInDN,mInB,sRaise,mVarX_q,varR,unX_own,unX_lst,unX_non,unX_tup,mLenX_q,itX_own,itX_lst,mIxX_q,atX_int,sAppX_q,appR_some,sInsX_q,insR_some,sSetXO_q,setR_some,lstOf_lst,ownOf_own,mOrT_e,orT,  mRng,msk,ix2_0,ix2_1,ix3_0,ix3_1,ix3_2,mDNew,mMov,SO.opt,qP_x,qP_y,qPl_w,qPl_p,qPl_s,qP_in,qP_eq,qP_inD,qL_len,qTs_len,qL_one,qL_nil,qL_two,qL_map,qTs_map,qL_seq,qTs_seq,qS_keys,qL_sorted,qL_list,qTs_list,qP_non,qL_non,qM_non,qM_obj,qM_isO,qM_isi,qM_plan,qM_there,qM_parts,qM_cut,qM_mend,qM_cuts,qM_tris,qP_mk,qL_s1,qL_s0,qZ_lst,qZ_tup,qM_mk,qN_non,qN_bl,qN_int,qN_str,qN_tup,qN_lst,qB_lst,qB_tup,qL_unX,qL_itX,qL_lstOf,qTs_unX,qTs_itX,qTs_lstOf,qTr_bl,qTr_non,qTr_int,qTr_tup,qTr_lst,qTr_qL,hT]) rfl (by decide) (by decide)) ?_
  refine nx_step rfl (fO_new (i:=0) (f:= "eye") (c:= "View") (ns:=["tolerance"]) (ds:=[pD g.top]) (d:=spotD g.eye) (s1:=[some (.obj "View" ["tolerance"] [pD g.top]),some TD,some (spotD g.eye),some BD,none]) rfl rfl (by decide) (by decide)) ?_
  have eb:∀ b ∈ g.bx,f_as_box [bxD b] = .ok (bxD (vbn b)) [none]:=fun b hb=>q_asbox (h.bx b hb).1.1
  refine nx_is (fO_new (i:=0) (f:= "boxes") (c:= "View") (ns:=["tolerance", "eye"]) (ds:=[pD g.top,spotD g.eye]) (d:=.lst (g.bx.map fun b=>bxD (vbn b))) (s1:=[some (.obj "View" ["tolerance", "eye"] [pD g.top,spotD g.eye]),some TD,some (spotD g.eye),some BD,none]) ?_ rfl (by decide) (by decide)) rfl
  first
    | show mComp (mSeqE (mVar 3)) (gN 4) mYes (mCallF f_as_box [none] [] (mCons (mVar 4) mNil)) [4] [some (.obj "View" ["tolerance", "eye"] [pD g.top,spotD g.eye]),some TD,some (spotD g.eye),some BD,none] = _
    | show mCompE (mSeqE (mVar 3)) (gN 4) mYes (mCallF f_as_box [none] [] (mCons (mVar 4) mNil)) [4] [some (.obj "View" ["tolerance", "eye"] [pD g.top,spotD g.eye]),some TD,some (spotD g.eye),some BD,none] = _
      refine compE_of ?_
  generalize D.obj "View" ["tolerance", "eye"] [pD g.top,spotD g.eye] = O at *
  generalize spotD g.eye = E at *
  have ec:=comp_q (mi:=mSeqE (mVar 3)) (i:=4) (c:=mYes) (e:=mCallF f_as_box [none] [] (mCons (mVar 4) mNil)) (s:=[some O,some TD,some E,some BD,none]) (s0:=[some O,some TD,some E,some BD,none]) g.bx bxD (fun _=>true) (fun b=>bxD (vbn b)) (by rw [mSeqE_q]; show (R.ok BD _).bind _ = _; rw [R.bind_ok,hB]; rfl) rfl (fun _ _=>rfl) (fun b hb _=>⟨some (bxD b),by
    have e:=eb b hb
    show mCallF f_as_box [none] [] (mCons (mVar 4) mNil) [some O,some TD,some E,some BD,some (bxD b)] = _
    generalize bxD b = B at *
    simp [sSeq,sSet,sRet,sRetN,sExp,sIf,sNil,sAsg,sPar,mVar,mK,mOp,mUn,mTst_e,tstK,mAnd,mOr,mNot,mAndV_e,andK,mOrV_e,orK,mNotV_e,notK,mIf,mEq,mNe,dEq_int,dEq_bl,mIsN,mCons,mNil,mTup,mLst,mMov,mCall,bAbs,mIsi,isT,D.isDct,mCallF_e,callK,callO,callR,fill,puts,mOwnA,gN,gT,gC,gE,SO.opt,dAdd,dSub,dLt,dLe,dGt,dGe,dNeg,mChain_e,chK,mTru,mSeqI_q,mKeysI_q,mFld_q,mMeth_q,mMake_q,mkR_err,clr_ok,clr_err,mIsiC_q,mLenM_q,mSlice_q,sTryRow_q,tryR_nx,tryR_err,mNewL,mCat,mInD,mInDN,mInB,sRaise,mVarX_q,varR,unX_own,unX_lst,unX_non,unX_tup,mLenX_q,itX_own,itX_lst,mIxX_q,atX_int,sAppX_q,appR_some,sInsX_q,insR_some,sSetXO_q,setR_some,lstOf_lst,ownOf_own,mOrT_e,orT,  mRng,msk,ix2_0,ix2_1,ix3_0,ix3_1,ix3_2,mDNew,mMov,SO.opt,qP_x,qP_y,qPl_w,qPl_p,qPl_s,qP_in,qP_eq,qP_inD,qL_len,qTs_len,qL_one,qL_nil,qL_two,qL_map,qTs_map,qL_seq,qTs_seq,qS_keys,qL_sorted,qL_list,qTs_list,qP_non,qL_non,qM_non,qM_obj,qM_isO,qM_isi,qM_plan,qM_there,qM_parts,qM_cut,qM_mend,qM_cuts,qM_tris,qP_mk,qL_s1,qL_s0,qZ_lst,qZ_tup,qM_mk,qN_non,qN_bl,qN_int,qN_str,qN_tup,qN_lst,qB_lst,qB_tup,qL_unX,qL_itX,qL_lstOf,qTs_unX,qTs_itX,qTs_lstOf,qTr_bl,qTr_non,qTr_int,qTr_tup,qTr_lst,qTr_qL,e]⟩) hl
  rw [ec,filter_yes]
theorem q_ltol {b:D} (hb:IsBag b) : ∃ (a:Int × Int) (b':D),f_lw_tolerance [b] = .ok (pD a) [some b'] ∧ IsBag b' ∧ okTt a ∧ lowS a ∧ a.1 ≤ 1500:=by
  refine run_go f_lw_tolerance_eq (Q:=fun r=>∃ (a:Int × Int) (b':D),r = .ok (pD a) [some b'] ∧ IsBag b' ∧ okTt a ∧ lowS a ∧ a.1 ≤ 1500) (by conv=>lhs; simp) ?_
  obtain ⟨k,b1,e1,k0,k1,hb1⟩:=draw_lt (n:=5) hb (by decide) (by decide)
  have one:∀ n:Int,lowS (n,1):=fun n=>⟨show (0:Int) < 1 by decide,by show Nat.gcd n.natAbs 1 = 1; rw [Nat.gcd_one_right]⟩
  have ok:∀ n:Int,0 ≤ n → n ≤ 1500 → okTt (n,1):=fun n h0 h1=>⟨⟨h0,Nat.lt_of_le_of_lt (m:=1500) (by simp only []; omega) (by decide)⟩,show (0:Int) < 1 by decide,show (1:Int).natAbs < 2 ^ 27 by decide⟩
  refine nx_step rfl (by conv=>lhs; simp [sSeq,sSet,sRet,sRetN,sExp,sIf,sNil,sAsg,sPar,mVar,mK,mOp,mUn,mTst_e,tstK,mAnd,mOr,mNot,mAndV_e,andK,mOrV_e,orK,mNotV_e,notK,mIf,mEq,mNe,dEq_int,dEq_bl,mIsN,mCons,mNil,mTup,mLst,mMov,mCall,bAbs,mIsi,isT,D.isDct,mCallF_e,callK,callO,callR,fill,puts,mOwnA,gN,gT,gC,gE,SO.opt,dAdd,dSub,dLt,dLe,dGt,dGe,dNeg,mChain_e,chK,mTru,mSeqI_q,mKeysI_q,mFld_q,mMeth_q,mMake_q,mkR_err,clr_ok,clr_err,mIsiC_q,mLenM_q,mSlice_q,sTryRow_q,tryR_nx,tryR_err,mNewL,mCat,mInD,mInDN,mInB,sRaise,mVarX_q,varR,unX_own,unX_lst,unX_non,unX_tup,mLenX_q,itX_own,itX_lst,mIxX_q,atX_int,sAppX_q,appR_some,sInsX_q,insR_some,sSetXO_q,setR_some,lstOf_lst,ownOf_own,mOrT_e,orT,  mRng,msk,ix2_0,ix2_1,ix3_0,ix3_1,ix3_2,mDNew,mMov,SO.opt,qP_x,qP_y,qPl_w,qPl_p,qPl_s,qP_in,qP_eq,qP_inD,qL_len,qTs_len,qL_one,qL_nil,qL_two,qL_map,qTs_map,qL_seq,qTs_seq,qS_keys,qL_sorted,qL_list,qTs_list,qP_non,qL_non,qM_non,qM_obj,qM_isO,qM_isi,qM_plan,qM_there,qM_parts,qM_cut,qM_mend,qM_cuts,qM_tris,qP_mk,qL_s1,qL_s0,qZ_lst,qZ_tup,qM_mk,qN_non,qN_bl,qN_int,qN_str,qN_tup,qN_lst,qB_lst,qB_tup,qL_unX,qL_itX,qL_lstOf,qTs_unX,qTs_itX,qTs_lstOf,qTr_bl,qTr_non,qTr_int,qTr_tup,qTr_lst,qTr_qL,e1]) ?_
  by_cases q0:(k == 0) = true
  · refine nx_is (by conv=>lhs; simp [sSeq,sSet,sRet,sRetN,sExp,sIf,sNil,sAsg,sPar,mVar,mK,mOp,mUn,mTst_e,tstK,mAnd,mOr,mNot,mAndV_e,andK,mOrV_e,orK,mNotV_e,notK,mIf,mEq,mNe,dEq_int,dEq_bl,mIsN,mCons,mNil,mTup,mLst,mMov,mCall,bAbs,mIsi,isT,D.isDct,mCallF_e,callK,callO,callR,fill,puts,mOwnA,gN,gT,gC,gE,SO.opt,dAdd,dSub,dLt,dLe,dGt,dGe,dNeg,mChain_e,chK,mTru,mSeqI_q,mKeysI_q,mFld_q,mMeth_q,mMake_q,mkR_err,clr_ok,clr_err,mIsiC_q,mLenM_q,mSlice_q,sTryRow_q,tryR_nx,tryR_err,mNewL,mCat,mInD,mInDN,mInB,sRaise,mVarX_q,varR,unX_own,unX_lst,unX_non,unX_tup,mLenX_q,itX_own,itX_lst,mIxX_q,atX_int,sAppX_q,appR_some,sInsX_q,insR_some,sSetXO_q,setR_some,lstOf_lst,ownOf_own,mOrT_e,orT,  mRng,msk,ix2_0,ix2_1,ix3_0,ix3_1,ix3_2,mDNew,mMov,SO.opt,qP_x,qP_y,qPl_w,qPl_p,qPl_s,qP_in,qP_eq,qP_inD,qL_len,qTs_len,qL_one,qL_nil,qL_two,qL_map,qTs_map,qL_seq,qTs_seq,qS_keys,qL_sorted,qL_list,qTs_list,qP_non,qL_non,qM_non,qM_obj,qM_isO,qM_isi,qM_plan,qM_there,qM_parts,qM_cut,qM_mend,qM_cuts,qM_tris,qP_mk,qL_s1,qL_s0,qZ_lst,qZ_tup,qM_mk,qN_non,qN_bl,qN_int,qN_str,qN_tup,qN_lst,qB_lst,qB_tup,qL_unX,qL_itX,qL_lstOf,qTs_unX,qTs_itX,qTs_lstOf,qTr_bl,qTr_non,qTr_int,qTr_tup,qTr_lst,qTr_qL,m_lw_tolerance_3,m_lw_tolerance_5,m_lw_tolerance_7,m_lw_tolerance_8,m_lw_tolerance_6,m_lw_tolerance_4,m_lw_tolerance_2,m_lw_tolerance,q0]) ?_
    exact ⟨(0,1),_,rfl,hb1,ok 0 (by decide) (by decide),one 0,by decide⟩
  have q0:(k == 0) = false:=by simpa using q0
  by_cases q1:(k == 1) = true
  · obtain ⟨r,b2,e2,r0,r1,hb2⟩:=draw_lt (n:=6) hb1 (by decide) (by decide)
    refine nx_is (by conv=>lhs; simp [sSeq,sSet,sRet,sRetN,sExp,sIf,sNil,sAsg,sPar,mVar,mK,mOp,mUn,mTst_e,tstK,mAnd,mOr,mNot,mAndV_e,andK,mOrV_e,orK,mNotV_e,notK,mIf,mEq,mNe,dEq_int,dEq_bl,mIsN,mCons,mNil,mTup,mLst,mMov,mCall,bAbs,mIsi,isT,D.isDct,mCallF_e,callK,callO,callR,fill,puts,mOwnA,gN,gT,gC,gE,SO.opt,dAdd,dSub,dLt,dLe,dGt,dGe,dNeg,mChain_e,chK,mTru,mSeqI_q,mKeysI_q,mFld_q,mMeth_q,mMake_q,mkR_err,clr_ok,clr_err,mIsiC_q,mLenM_q,mSlice_q,sTryRow_q,tryR_nx,tryR_err,mNewL,mCat,mInD,mInDN,mInB,sRaise,mVarX_q,varR,unX_own,unX_lst,unX_non,unX_tup,mLenX_q,itX_own,itX_lst,mIxX_q,atX_int,sAppX_q,appR_some,sInsX_q,insR_some,sSetXO_q,setR_some,lstOf_lst,ownOf_own,mOrT_e,orT,  mRng,msk,ix2_0,ix2_1,ix3_0,ix3_1,ix3_2,mDNew,mMov,SO.opt,qP_x,qP_y,qPl_w,qPl_p,qPl_s,qP_in,qP_eq,qP_inD,qL_len,qTs_len,qL_one,qL_nil,qL_two,qL_map,qTs_map,qL_seq,qTs_seq,qS_keys,qL_sorted,qL_list,qTs_list,qP_non,qL_non,qM_non,qM_obj,qM_isO,qM_isi,qM_plan,qM_there,qM_parts,qM_cut,qM_mend,qM_cuts,qM_tris,qP_mk,qL_s1,qL_s0,qZ_lst,qZ_tup,qM_mk,qN_non,qN_bl,qN_int,qN_str,qN_tup,qN_lst,qB_lst,qB_tup,qL_unX,qL_itX,qL_lstOf,qTs_unX,qTs_itX,qTs_lstOf,qTr_bl,qTr_non,qTr_int,qTr_tup,qTr_lst,qTr_qL,m_lw_tolerance_3,m_lw_tolerance_5,m_lw_tolerance_7,m_lw_tolerance_8,m_lw_tolerance_6,m_lw_tolerance_4,m_lw_tolerance_2,m_lw_tolerance,q0,q1,e2]) ?_
    exact ⟨(r,1),_,rfl,hb2,ok r (by omega) (by omega),one r,by simp only []; omega⟩
  have q1:(k == 1) = false:=by simpa using q1
  by_cases q2:(k == 2) = true
  · obtain ⟨r,b2,e2,r0,r1,hb2⟩:=draw_lt (n:=40) hb1 (by decide) (by decide)
    obtain ⟨u,b3,e3,u0,u1,hb3⟩:=draw_lt (n:=8) hb2 (by decide) (by decide)
    have el:=q_llow (a:=r) (b:=1 + u) (by omega) (Nat.lt_of_le_of_lt (m:=8) (by omega) (by decide))
    have bx:=sh_box (a:=r) (b:=1 + u) (by omega)
    have lo:=sh_low (a:=r) (b:=1 + u) (by omega)
    obtain ⟨m1,m2⟩:=sh_mul (a:=r) (b:=1 + u) (by omega)
    have gp:0 < gs r (1 + u):=by
      have:=gc_pos (a:=r) (b:=1 + u) (by omega)
      unfold gs
      rw [if_neg (by omega)]
      exact this
    have a0:0 ≤ shA r (1 + u):=by
      rcases Int.lt_or_le (shA r (1 + u)) 0 with z | z
      · have:=Int.mul_neg_of_neg_of_pos z gp
        omega
      · exact z
    have lo0:0 < shB r (1 + u):=lo.1
    have es:shS r (1 + u) = pD (shA r (1 + u),shB r (1 + u)):=rfl
    rw [es] at el
    refine nx_is (o:=.rt (pD (shA r (1 + u),shB r (1 + u))) [some b3,some (.int k)]) (by
      generalize pD (shA r (1 + u),shB r (1 + u)) = PP at *
      simp [sSeq,sSet,sRet,sRetN,sExp,sIf,sNil,sAsg,sPar,mVar,mK,mOp,mUn,mTst_e,tstK,mAnd,mOr,mNot,mAndV_e,andK,mOrV_e,orK,mNotV_e,notK,mIf,mEq,mNe,dEq_int,dEq_bl,mIsN,mCons,mNil,mTup,mLst,mMov,mCall,bAbs,mIsi,isT,D.isDct,mCallF_e,callK,callO,callR,fill,puts,mOwnA,gN,gT,gC,gE,SO.opt,dAdd,dSub,dLt,dLe,dGt,dGe,dNeg,mChain_e,chK,mTru,mSeqI_q,mKeysI_q,mFld_q,mMeth_q,mMake_q,mkR_err,clr_ok,clr_err,mIsiC_q,mLenM_q,mSlice_q,sTryRow_q,tryR_nx,tryR_err,mNewL,mCat,mInD,mInDN,mInB,sRaise,mVarX_q,varR,unX_own,unX_lst,unX_non,unX_tup,mLenX_q,itX_own,itX_lst,mIxX_q,atX_int,sAppX_q,appR_some,sInsX_q,insR_some,sSetXO_q,setR_some,lstOf_lst,ownOf_own,mOrT_e,orT,  mRng,msk,ix2_0,ix2_1,ix3_0,ix3_1,ix3_2,mDNew,mMov,SO.opt,qP_x,qP_y,qPl_w,qPl_p,qPl_s,qP_in,qP_eq,qP_inD,qL_len,qTs_len,qL_one,qL_nil,qL_two,qL_map,qTs_map,qL_seq,qTs_seq,qS_keys,qL_sorted,qL_list,qTs_list,qP_non,qL_non,qM_non,qM_obj,qM_isO,qM_isi,qM_plan,qM_there,qM_parts,qM_cut,qM_mend,qM_cuts,qM_tris,qP_mk,qL_s1,qL_s0,qZ_lst,qZ_tup,qM_mk,qN_non,qN_bl,qN_int,qN_str,qN_tup,qN_lst,qB_lst,qB_tup,qL_unX,qL_itX,qL_lstOf,qTs_unX,qTs_itX,qTs_lstOf,qTr_bl,qTr_non,qTr_int,qTr_tup,qTr_lst,qTr_qL,m_lw_tolerance_3,m_lw_tolerance_5,m_lw_tolerance_7,m_lw_tolerance_8,m_lw_tolerance_6,m_lw_tolerance_4,m_lw_tolerance_2,m_lw_tolerance,q0,q1,q2,e2,e3,el]) ?_
    refine ⟨(shA r (1 + u),shB r (1 + u)),_,rfl,hb3,⟨⟨a0,Nat.lt_of_le_of_lt bx.1 (Nat.lt_of_le_of_lt (m:=40) (by omega) (by decide))⟩,lo0,Nat.lt_of_le_of_lt bx.2 (Nat.lt_of_le_of_lt (m:=8) (by omega) (by decide))⟩,lo,by simp only []; omega⟩
  have q2:(k == 2) = false:=by simpa using q2
  obtain ⟨r,b2,e2,r0,r1,hb2⟩:=draw_lt (n:=1500) hb1 (by decide) (by decide)
  refine nx_is (by conv=>lhs; simp [sSeq,sSet,sRet,sRetN,sExp,sIf,sNil,sAsg,sPar,mVar,mK,mOp,mUn,mTst_e,tstK,mAnd,mOr,mNot,mAndV_e,andK,mOrV_e,orK,mNotV_e,notK,mIf,mEq,mNe,dEq_int,dEq_bl,mIsN,mCons,mNil,mTup,mLst,mMov,mCall,bAbs,mIsi,isT,D.isDct,mCallF_e,callK,callO,callR,fill,puts,mOwnA,gN,gT,gC,gE,SO.opt,dAdd,dSub,dLt,dLe,dGt,dGe,dNeg,mChain_e,chK,mTru,mSeqI_q,mKeysI_q,mFld_q,mMeth_q,mMake_q,mkR_err,clr_ok,clr_err,mIsiC_q,mLenM_q,mSlice_q,sTryRow_q,tryR_nx,tryR_err,mNewL,mCat,mInD,mInDN,mInB,sRaise,mVarX_q,varR,unX_own,unX_lst,unX_non,unX_tup,mLenX_q,itX_own,itX_lst,mIxX_q,atX_int,sAppX_q,appR_some,sInsX_q,insR_some,sSetXO_q,setR_some,lstOf_lst,ownOf_own,mOrT_e,orT,  mRng,msk,ix2_0,ix2_1,ix3_0,ix3_1,ix3_2,mDNew,mMov,SO.opt,qP_x,qP_y,qPl_w,qPl_p,qPl_s,qP_in,qP_eq,qP_inD,qL_len,qTs_len,qL_one,qL_nil,qL_two,qL_map,qTs_map,qL_seq,qTs_seq,qS_keys,qL_sorted,qL_list,qTs_list,qP_non,qL_non,qM_non,qM_obj,qM_isO,qM_isi,qM_plan,qM_there,qM_parts,qM_cut,qM_mend,qM_cuts,qM_tris,qP_mk,qL_s1,qL_s0,qZ_lst,qZ_tup,qM_mk,qN_non,qN_bl,qN_int,qN_str,qN_tup,qN_lst,qB_lst,qB_tup,qL_unX,qL_itX,qL_lstOf,qTs_unX,qTs_itX,qTs_lstOf,qTr_bl,qTr_non,qTr_int,qTr_tup,qTr_lst,qTr_qL,m_lw_tolerance_3,m_lw_tolerance_5,m_lw_tolerance_7,m_lw_tolerance_8,m_lw_tolerance_6,m_lw_tolerance_4,m_lw_tolerance_2,m_lw_tolerance,q0,q1,q2,e2]) ?_
  exact ⟨(r,1),_,rfl,hb2,ok r (by omega) (by omega),one r,by simp only []; omega⟩
/-- a drawn sight -/
structure gDr (g:Sg) : Prop where
  ok:gOk g
  len:g.bx.length ≤ 3
  top:lowS g.top ∧ g.top.1 ≤ 1500
  bx:∀ b ∈ g.bx,lowS b.t ∧ b.t.1 ≤ 1500
theorem q_lsight {b:D} (hb:IsBag b) (P:D) : ∃ (g:Sg) (b':D),f_lw_sight [b,P] = .ok (sgD g) [some b',none] ∧ IsBag b' ∧ gDr g:=by
  refine run_go f_lw_sight_eq (Q:=fun r=>∃ (g:Sg) (b':D),r = .ok (sgD g) [some b',none] ∧ IsBag b' ∧ gDr g) (by conv=>lhs; simp) ?_
  refine nx_step rfl (by conv=>lhs; simp [sSeq,sSet,sRet,sRetN,sExp,sIf,sNil,sAsg,sPar,mVar,mK,mOp,mUn,mTst_e,tstK,mAnd,mOr,mNot,mAndV_e,andK,mOrV_e,orK,mNotV_e,notK,mIf,mEq,mNe,dEq_int,dEq_bl,mIsN,mCons,mNil,mTup,mLst,mMov,mCall,bAbs,mIsi,isT,D.isDct,mCallF_e,callK,callO,callR,fill,puts,mOwnA,gN,gT,gC,gE,SO.opt,dAdd,dSub,dLt,dLe,dGt,dGe,dNeg,mChain_e,chK,mTru,mSeqI_q,mKeysI_q,mFld_q,mMeth_q,mMake_q,mkR_err,clr_ok,clr_err,mIsiC_q,mLenM_q,mSlice_q,sTryRow_q,tryR_nx,tryR_err,mNewL,mCat,mInD,mInDN,mInB,sRaise,mVarX_q,varR,unX_own,unX_lst,unX_non,unX_tup,mLenX_q,itX_own,itX_lst,mIxX_q,atX_int,sAppX_q,appR_some,sInsX_q,insR_some,sSetXO_q,setR_some,lstOf_lst,ownOf_own,mOrT_e,orT,  mRng,msk,ix2_0,ix2_1,ix3_0,ix3_1,ix3_2,mDNew,mMov,SO.opt,qP_x,qP_y,qPl_w,qPl_p,qPl_s,qP_in,qP_eq,qP_inD,qL_len,qTs_len,qL_one,qL_nil,qL_two,qL_map,qTs_map,qL_seq,qTs_seq,qS_keys,qL_sorted,qL_list,qTs_list,qP_non,qL_non,qM_non,qM_obj,qM_isO,qM_isi,qM_plan,qM_there,qM_parts,qM_cut,qM_mend,qM_cuts,qM_tris,qP_mk,qL_s1,qL_s0,qZ_lst,qZ_tup,qM_mk,qN_non,qN_bl,qN_int,qN_str,qN_tup,qN_lst,qB_lst,qB_tup,qL_unX,qL_itX,qL_lstOf,qTs_unX,qTs_itX,qTs_lstOf,qTr_bl,qTr_non,qTr_int,qTr_tup,qTr_lst,qTr_qL]) ?_
  obtain ⟨k,b1,e1,k0,k1,hb1⟩:=draw_lt (n:=3) hb (by decide) (by decide)
  have fin:∀ (b1:D) (eye:Option I2),IsBag b1 → (∀ e,eye = some e → (-100 ≤ e.1 ∧ e.1 ≤ 100) ∧ (-100 ≤ e.2 ∧ e.2 ≤ 100)) → Hs (fun o=>∃ (g:Sg) (b':D),runK [.bag,.fr] .fr o = .ok (sgD g) [some b',none] ∧ IsBag b' ∧ gDr g) (m_lw_sight_4 [some b1,some P,some (spotD eye),none,none,none]):=fun b1 eye hb1 he=>by
    generalize hE:spotD eye = E at *
    refine nx_step rfl (by conv=>lhs; simp [sSeq,sSet,sRet,sRetN,sExp,sIf,sNil,sAsg,sPar,mVar,mK,mOp,mUn,mTst_e,tstK,mAnd,mOr,mNot,mAndV_e,andK,mOrV_e,orK,mNotV_e,notK,mIf,mEq,mNe,dEq_int,dEq_bl,mIsN,mCons,mNil,mTup,mLst,mMov,mCall,bAbs,mIsi,isT,D.isDct,mCallF_e,callK,callO,callR,fill,puts,mOwnA,gN,gT,gC,gE,SO.opt,dAdd,dSub,dLt,dLe,dGt,dGe,dNeg,mChain_e,chK,mTru,mSeqI_q,mKeysI_q,mFld_q,mMeth_q,mMake_q,mkR_err,clr_ok,clr_err,mIsiC_q,mLenM_q,mSlice_q,sTryRow_q,tryR_nx,tryR_err,mNewL,mCat,mInD,mInDN,mInB,sRaise,mVarX_q,varR,unX_own,unX_lst,unX_non,unX_tup,mLenX_q,itX_own,itX_lst,mIxX_q,atX_int,sAppX_q,appR_some,sInsX_q,insR_some,sSetXO_q,setR_some,lstOf_lst,ownOf_own,mOrT_e,orT,  mRng,msk,ix2_0,ix2_1,ix3_0,ix3_1,ix3_2,mDNew,mMov,SO.opt,qP_x,qP_y,qPl_w,qPl_p,qPl_s,qP_in,qP_eq,qP_inD,qL_len,qTs_len,qL_one,qL_nil,qL_two,qL_map,qTs_map,qL_seq,qTs_seq,qS_keys,qL_sorted,qL_list,qTs_list,qP_non,qL_non,qM_non,qM_obj,qM_isO,qM_isi,qM_plan,qM_there,qM_parts,qM_cut,qM_mend,qM_cuts,qM_tris,qP_mk,qL_s1,qL_s0,qZ_lst,qZ_tup,qM_mk,qN_non,qN_bl,qN_int,qN_str,qN_tup,qN_lst,qB_lst,qB_tup,qL_unX,qL_itX,qL_lstOf,qTs_unX,qTs_itX,qTs_lstOf,qTr_bl,qTr_non,qTr_int,qTr_tup,qTr_lst,qTr_qL]) ?_
    obtain ⟨j,b2,e2,j0,j1,hb2⟩:=draw_lt (n:=5) hb1 (by decide) (by decide)
    have hn:∃ n:Nat,dIx (.lst [.int 0,.int 0,.int 1,.int 2,.int 3]) (.int j) = some (.int (n:Int)) ∧ n ≤ 3:=by
      have:j = 0 ∨ j = 1 ∨ j = 2 ∨ j = 3 ∨ j = 4:=by omega
      rcases this with rfl | rfl | rfl | rfl | rfl
      · exact ⟨0,rfl,by decide⟩
      · exact ⟨0,rfl,by decide⟩
      · exact ⟨1,rfl,by decide⟩
      · exact ⟨2,rfl,by decide⟩
      · exact ⟨3,rfl,by decide⟩
    obtain ⟨n,en,hn3⟩:=hn
    have em:mRng bRng1 (mCons (mOp dIx (mLst (mCons (mK (.int 0)) (mCons (mK (.int 0)) (mCons (mK (.int 1)) (mCons (mK (.int 2)) (mCons (mK (.int 3)) mNil)))))) (mCallF drawF [some 0,none] [] (mOwnA 0 (mCons (mK (.int 5)) mNil)))) mNil) [some b1,some P,some E,some (ownL []),none,none] = .ok (rng 0 n) [some b2,some P,some E,some (ownL []),none,none]:=by
      refine mRng1_at (d:=.int (n:Int)) ?_ ?_
      · generalize ownL [] = OL at *
        generalize hLL:D.lst [.int 0,.int 0,.int 1,.int 2,.int 3] = LL at *
        simp [sSeq,sSet,sRet,sRetN,sExp,sIf,sNil,sAsg,sPar,mVar,mK,mOp,mUn,mTst_e,tstK,mAnd,mOr,mNot,mAndV_e,andK,mOrV_e,orK,mNotV_e,notK,mIf,mEq,mNe,dEq_int,dEq_bl,mIsN,mCons,mNil,mTup,mLst,mMov,mCall,bAbs,mIsi,isT,D.isDct,mCallF_e,callK,callO,callR,fill,puts,mOwnA,gN,gT,gC,gE,SO.opt,dAdd,dSub,dLt,dLe,dGt,dGe,dNeg,mChain_e,chK,mTru,mSeqI_q,mKeysI_q,mFld_q,mMeth_q,mMake_q,mkR_err,clr_ok,clr_err,mIsiC_q,mLenM_q,mSlice_q,sTryRow_q,tryR_nx,tryR_err,mNewL,mCat,mInD,mInDN,mInB,sRaise,mVarX_q,varR,unX_own,unX_lst,unX_non,unX_tup,mLenX_q,itX_own,itX_lst,mIxX_q,atX_int,sAppX_q,appR_some,sInsX_q,insR_some,sSetXO_q,setR_some,lstOf_lst,ownOf_own,mOrT_e,orT,  mRng,msk,ix2_0,ix2_1,ix3_0,ix3_1,ix3_2,mDNew,mMov,SO.opt,qP_x,qP_y,qPl_w,qPl_p,qPl_s,qP_in,qP_eq,qP_inD,qL_len,qTs_len,qL_one,qL_nil,qL_two,qL_map,qTs_map,qL_seq,qTs_seq,qS_keys,qL_sorted,qL_list,qTs_list,qP_non,qL_non,qM_non,qM_obj,qM_isO,qM_isi,qM_plan,qM_there,qM_parts,qM_cut,qM_mend,qM_cuts,qM_tris,qP_mk,qL_s1,qL_s0,qZ_lst,qZ_tup,qM_mk,qN_non,qN_bl,qN_int,qN_str,qN_tup,qN_lst,qB_lst,qB_tup,qL_unX,qL_itX,qL_lstOf,qTs_unX,qTs_itX,qTs_lstOf,qTr_bl,qTr_non,qTr_int,qTr_tup,qTr_lst,qTr_qL,e2,hLL,en]
      · have:n = 0 ∨ n = 1 ∨ n = 2 ∨ n = 3:=by omega
        rcases this with rfl | rfl | rfl | rfl <;> rfl
    refine for_step (ds:=rng 0 n) (s0:=[some b2,some P,some E,some (ownL []),none,none]) (fun rest st=>∃ (L:List Vbx) (b:D) (o4 o5:Option D),IsBag b ∧ (∀ c ∈ L,okTt c.t ∧ lowS c.t ∧ c.t.1 ≤ 1500) ∧ L.length + rest.length = n ∧ st = [some b,some P,some E,some (ownL (L.map bxD)),o4,o5]) rfl em ⟨[],b2,none,none,hb2,(fun c hc=>by cases hc),by rw [rng_len]; simp,rfl⟩ (fun d rest st ⟨L,b,o4,o5,hb,hL,hl,es⟩=>?_) fun st ⟨L,b,o4,o5,hb,hL,hl,es⟩=>?_
    · subst es
      refine ⟨_,rfl,?_⟩
      obtain ⟨x,b3,e3,x0,x1,hb3⟩:=draw_lt (n:=13) hb (by decide) (by decide)
      obtain ⟨y,b4,e4,y0,y1,hb4⟩:=draw_lt (n:=13) hb3 (by decide) (by decide)
      obtain ⟨u,b5,e5,u0,u1,hb5⟩:=draw_lt (n:=13) hb4 (by decide) (by decide)
      obtain ⟨v,b6,e6,v0,v1,hb6⟩:=draw_lt (n:=13) hb5 (by decide) (by decide)
      obtain ⟨a,b7,e7,hb7,ha,lo,h15⟩:=q_ltol hb6
      have i0:dIx (.tup [.int (x - 2),.int (y - 2),.int (u - 2),.int (v - 2)]) (.int 0) = some (.int (x - 2)):=rfl
      have i1:dIx (.tup [.int (x - 2),.int (y - 2),.int (u - 2),.int (v - 2)]) (.int 1) = some (.int (y - 2)):=rfl
      have i2:dIx (.tup [.int (x - 2),.int (y - 2),.int (u - 2),.int (v - 2)]) (.int 2) = some (.int (u - 2)):=rfl
      have i3:dIx (.tup [.int (x - 2),.int (y - 2),.int (u - 2),.int (v - 2)]) (.int 3) = some (.int (v - 2)):=rfl
      have eb:D.tup [.int (x - 2),.int (y - 2),.int (u - 2),.int (v - 2),pD a] = bxD ⟨x - 2,y - 2,u - 2,v - 2,a⟩:=rfl
      refine nx_step rfl (s':=[some b6,some P,some E,some (ownL (L.map bxD)),some d,some (.tup [.int (x - 2),.int (y - 2),.int (u - 2),.int (v - 2)])]) (by
        generalize ownL (L.map bxD) = OL at *
        simp [sSeq,sSet,sRet,sRetN,sExp,sIf,sNil,sAsg,sPar,mVar,mK,mOp,mUn,mTst_e,tstK,mAnd,mOr,mNot,mAndV_e,andK,mOrV_e,orK,mNotV_e,notK,mIf,mEq,mNe,dEq_int,dEq_bl,mIsN,mCons,mNil,mTup,mLst,mMov,mCall,bAbs,mIsi,isT,D.isDct,mCallF_e,callK,callO,callR,fill,puts,mOwnA,gN,gT,gC,gE,SO.opt,dAdd,dSub,dLt,dLe,dGt,dGe,dNeg,mChain_e,chK,mTru,mSeqI_q,mKeysI_q,mFld_q,mMeth_q,mMake_q,mkR_err,clr_ok,clr_err,mIsiC_q,mLenM_q,mSlice_q,sTryRow_q,tryR_nx,tryR_err,mNewL,mCat,mInD,mInDN,mInB,sRaise,mVarX_q,varR,unX_own,unX_lst,unX_non,unX_tup,mLenX_q,itX_own,itX_lst,mIxX_q,atX_int,sAppX_q,appR_some,sInsX_q,insR_some,sSetXO_q,setR_some,lstOf_lst,ownOf_own,mOrT_e,orT,  mRng,msk,ix2_0,ix2_1,ix3_0,ix3_1,ix3_2,mDNew,mMov,SO.opt,qP_x,qP_y,qPl_w,qPl_p,qPl_s,qP_in,qP_eq,qP_inD,qL_len,qTs_len,qL_one,qL_nil,qL_two,qL_map,qTs_map,qL_seq,qTs_seq,qS_keys,qL_sorted,qL_list,qTs_list,qP_non,qL_non,qM_non,qM_obj,qM_isO,qM_isi,qM_plan,qM_there,qM_parts,qM_cut,qM_mend,qM_cuts,qM_tris,qP_mk,qL_s1,qL_s0,qZ_lst,qZ_tup,qM_mk,qN_non,qN_bl,qN_int,qN_str,qN_tup,qN_lst,qB_lst,qB_tup,qL_unX,qL_itX,qL_lstOf,qTs_unX,qTs_itX,qTs_lstOf,qTr_bl,qTr_non,qTr_int,qTr_tup,qTr_lst,qTr_qL,e3,e4,e5,e6]) ?_
      refine nx_is (o:=.nx [some b7,some P,some E,some (ownL ((L ++ [(⟨x - 2,y - 2,u - 2,v - 2,a⟩ : Vbx)]).map bxD)),some d,some (.tup [.int (x - 2),.int (y - 2),.int (u - 2),.int (v - 2)])]) (by
        generalize D.tup [.int (x - 2),.int (y - 2),.int (u - 2),.int (v - 2)] = SD at *
        have hlen:(L.map bxD).length < 16000000:=by rw [List.length_map]; omega
        have eo:(ownOf (ownL (L.map bxD))) = some (L.map bxD):=rfl
        rw [List.map_append]
        show _ = SO.nx [some b7,some P,some E,some (ownL (L.map bxD ++ [bxD ⟨x - 2,y - 2,u - 2,v - 2,a⟩])),some d,some SD]
        rw [←eb]
        generalize pD a = PA at *
        generalize L.map bxD = LB at *
        simp [sSeq,sSet,sRet,sRetN,sExp,sIf,sNil,sAsg,sPar,mVar,mK,mOp,mUn,mTst_e,tstK,mAnd,mOr,mNot,mAndV_e,andK,mOrV_e,orK,mNotV_e,notK,mIf,mEq,mNe,dEq_int,dEq_bl,mIsN,mCons,mNil,mTup,mLst,mMov,mCall,bAbs,mIsi,isT,D.isDct,mCallF_e,callK,callO,callR,fill,puts,mOwnA,gN,gT,gC,gE,SO.opt,dAdd,dSub,dLt,dLe,dGt,dGe,dNeg,mChain_e,chK,mTru,mSeqI_q,mKeysI_q,mFld_q,mMeth_q,mMake_q,mkR_err,clr_ok,clr_err,mIsiC_q,mLenM_q,mSlice_q,sTryRow_q,tryR_nx,tryR_err,mNewL,mCat,mInD,mInDN,mInB,sRaise,mVarX_q,varR,unX_own,unX_lst,unX_non,unX_tup,mLenX_q,itX_own,itX_lst,mIxX_q,atX_int,sAppX_q,appR_some,sInsX_q,insR_some,sSetXO_q,setR_some,lstOf_lst,ownOf_own,mOrT_e,orT,  mRng,msk,ix2_0,ix2_1,ix3_0,ix3_1,ix3_2,mDNew,mMov,SO.opt,qP_x,qP_y,qPl_w,qPl_p,qPl_s,qP_in,qP_eq,qP_inD,qL_len,qTs_len,qL_one,qL_nil,qL_two,qL_map,qTs_map,qL_seq,qTs_seq,qS_keys,qL_sorted,qL_list,qTs_list,qP_non,qL_non,qM_non,qM_obj,qM_isO,qM_isi,qM_plan,qM_there,qM_parts,qM_cut,qM_mend,qM_cuts,qM_tris,qP_mk,qL_s1,qL_s0,qZ_lst,qZ_tup,qM_mk,qN_non,qN_bl,qN_int,qN_str,qN_tup,qN_lst,qB_lst,qB_tup,qL_unX,qL_itX,qL_lstOf,qTs_unX,qTs_itX,qTs_lstOf,qTr_bl,qTr_non,qTr_int,qTr_tup,qTr_lst,qTr_qL,m_lw_sight_3,m_lw_sight_7,m_lw_sight_6,m_lw_sight_8,m_lw_sight_5,m_lw_sight_4,m_lw_sight_2,m_lw_sight,i0,i1,i2,i3,e7,hlen]) ?_
      refine ⟨L ++ [⟨x - 2,y - 2,u - 2,v - 2,a⟩],b7,_,_,hb7,fun c hc=>?_,?_,rfl⟩
      · rcases List.mem_append.mp hc with hc | hc
        · exact hL c hc
        · rw [List.mem_singleton.mp hc]
          exact ⟨ha,lo,h15⟩
      · rw [List.length_append,List.length_singleton]
        rw [List.length_cons] at hl
        omega
    · subst es
      obtain ⟨a,b3,e3,hb3,ha,lo,h15⟩:=q_ltol hb
      subst hE
      refine nx_is (o:=.rt (sgD ⟨a,eye,L⟩) [some b3,some P,some (spotD eye),some (.lst (L.map bxD)),o4,o5]) (by
        have es:sgD ⟨a,eye,L⟩ = .tup [pD a,spotD eye,.lst (L.map bxD)]:=rfl
        rw [es]
        generalize pD a = PA at *
        generalize spotD eye = E at *
        generalize L.map bxD = LB at *
        simp [sSeq,sSet,sRet,sRetN,sExp,sIf,sNil,sAsg,sPar,mVar,mK,mOp,mUn,mTst_e,tstK,mAnd,mOr,mNot,mAndV_e,andK,mOrV_e,orK,mNotV_e,notK,mIf,mEq,mNe,dEq_int,dEq_bl,mIsN,mCons,mNil,mTup,mLst,mMov,mCall,bAbs,mIsi,isT,D.isDct,mCallF_e,callK,callO,callR,fill,puts,mOwnA,gN,gT,gC,gE,SO.opt,dAdd,dSub,dLt,dLe,dGt,dGe,dNeg,mChain_e,chK,mTru,mSeqI_q,mKeysI_q,mFld_q,mMeth_q,mMake_q,mkR_err,clr_ok,clr_err,mIsiC_q,mLenM_q,mSlice_q,sTryRow_q,tryR_nx,tryR_err,mNewL,mCat,mInD,mInDN,mInB,sRaise,mVarX_q,varR,unX_own,unX_lst,unX_non,unX_tup,mLenX_q,itX_own,itX_lst,mIxX_q,atX_int,sAppX_q,appR_some,sInsX_q,insR_some,sSetXO_q,setR_some,lstOf_lst,ownOf_own,mOrT_e,orT,  mRng,msk,ix2_0,ix2_1,ix3_0,ix3_1,ix3_2,mDNew,mMov,SO.opt,qP_x,qP_y,qPl_w,qPl_p,qPl_s,qP_in,qP_eq,qP_inD,qL_len,qTs_len,qL_one,qL_nil,qL_two,qL_map,qTs_map,qL_seq,qTs_seq,qS_keys,qL_sorted,qL_list,qTs_list,qP_non,qL_non,qM_non,qM_obj,qM_isO,qM_isi,qM_plan,qM_there,qM_parts,qM_cut,qM_mend,qM_cuts,qM_tris,qP_mk,qL_s1,qL_s0,qZ_lst,qZ_tup,qM_mk,qN_non,qN_bl,qN_int,qN_str,qN_tup,qN_lst,qB_lst,qB_tup,qL_unX,qL_itX,qL_lstOf,qTs_unX,qTs_itX,qTs_lstOf,qTr_bl,qTr_non,qTr_int,qTr_tup,qTr_lst,qTr_qL,m_lw_sight_3,m_lw_sight_7,m_lw_sight_6,m_lw_sight_8,m_lw_sight_5,m_lw_sight_4,m_lw_sight_2,m_lw_sight,e3]) ?_
      exact ⟨⟨a,eye,L⟩,b3,rfl,hb3,⟨ha,fun c hc=>(hL c hc).1,he⟩,by
        have z:=hl
        simp only [List.length_nil] at z
        show L.length ≤ 3
        omega,⟨lo,h15⟩,fun c hc=>(hL c hc).2⟩
  by_cases q0:(k == 1) = true
  · obtain ⟨x,b2,e2,x0,x1,hb2⟩:=draw_lt (n:=40) hb1 (by decide) (by decide)
    obtain ⟨y,b3,e3,y0,y1,hb3⟩:=draw_lt (n:=40) hb2 (by decide) (by decide)
    refine if_t rfl (by conv=>lhs; simp [sSeq,sSet,sRet,sRetN,sExp,sIf,sNil,sAsg,sPar,mVar,mK,mOp,mUn,mTst_e,tstK,mAnd,mOr,mNot,mAndV_e,andK,mOrV_e,orK,mNotV_e,notK,mIf,mEq,mNe,dEq_int,dEq_bl,mIsN,mCons,mNil,mTup,mLst,mMov,mCall,bAbs,mIsi,isT,D.isDct,mCallF_e,callK,callO,callR,fill,puts,mOwnA,gN,gT,gC,gE,SO.opt,dAdd,dSub,dLt,dLe,dGt,dGe,dNeg,mChain_e,chK,mTru,mSeqI_q,mKeysI_q,mFld_q,mMeth_q,mMake_q,mkR_err,clr_ok,clr_err,mIsiC_q,mLenM_q,mSlice_q,sTryRow_q,tryR_nx,tryR_err,mNewL,mCat,mInD,mInDN,mInB,sRaise,mVarX_q,varR,unX_own,unX_lst,unX_non,unX_tup,mLenX_q,itX_own,itX_lst,mIxX_q,atX_int,sAppX_q,appR_some,sInsX_q,insR_some,sSetXO_q,setR_some,lstOf_lst,ownOf_own,mOrT_e,orT,  mRng,msk,ix2_0,ix2_1,ix3_0,ix3_1,ix3_2,mDNew,mMov,SO.opt,qP_x,qP_y,qPl_w,qPl_p,qPl_s,qP_in,qP_eq,qP_inD,qL_len,qTs_len,qL_one,qL_nil,qL_two,qL_map,qTs_map,qL_seq,qTs_seq,qS_keys,qL_sorted,qL_list,qTs_list,qP_non,qL_non,qM_non,qM_obj,qM_isO,qM_isi,qM_plan,qM_there,qM_parts,qM_cut,qM_mend,qM_cuts,qM_tris,qP_mk,qL_s1,qL_s0,qZ_lst,qZ_tup,qM_mk,qN_non,qN_bl,qN_int,qN_str,qN_tup,qN_lst,qB_lst,qB_tup,qL_unX,qL_itX,qL_lstOf,qTs_unX,qTs_itX,qTs_lstOf,qTr_bl,qTr_non,qTr_int,qTr_tup,qTr_lst,qTr_qL,e1,q0]) ?_
    refine seqP_nx (s':=[some b3,some P,some (spotD (some (x - 12,y - 12))),none,none,none]) (by
      show _ = SO.nx [some b3,some P,some (.tup [.int (x - 12),.int (y - 12)]),none,none,none]
      simp [sSeq,sSet,sRet,sRetN,sExp,sIf,sNil,sAsg,sPar,mVar,mK,mOp,mUn,mTst_e,tstK,mAnd,mOr,mNot,mAndV_e,andK,mOrV_e,orK,mNotV_e,notK,mIf,mEq,mNe,dEq_int,dEq_bl,mIsN,mCons,mNil,mTup,mLst,mMov,mCall,bAbs,mIsi,isT,D.isDct,mCallF_e,callK,callO,callR,fill,puts,mOwnA,gN,gT,gC,gE,SO.opt,dAdd,dSub,dLt,dLe,dGt,dGe,dNeg,mChain_e,chK,mTru,mSeqI_q,mKeysI_q,mFld_q,mMeth_q,mMake_q,mkR_err,clr_ok,clr_err,mIsiC_q,mLenM_q,mSlice_q,sTryRow_q,tryR_nx,tryR_err,mNewL,mCat,mInD,mInDN,mInB,sRaise,mVarX_q,varR,unX_own,unX_lst,unX_non,unX_tup,mLenX_q,itX_own,itX_lst,mIxX_q,atX_int,sAppX_q,appR_some,sInsX_q,insR_some,sSetXO_q,setR_some,lstOf_lst,ownOf_own,mOrT_e,orT,  mRng,msk,ix2_0,ix2_1,ix3_0,ix3_1,ix3_2,mDNew,mMov,SO.opt,qP_x,qP_y,qPl_w,qPl_p,qPl_s,qP_in,qP_eq,qP_inD,qL_len,qTs_len,qL_one,qL_nil,qL_two,qL_map,qTs_map,qL_seq,qTs_seq,qS_keys,qL_sorted,qL_list,qTs_list,qP_non,qL_non,qM_non,qM_obj,qM_isO,qM_isi,qM_plan,qM_there,qM_parts,qM_cut,qM_mend,qM_cuts,qM_tris,qP_mk,qL_s1,qL_s0,qZ_lst,qZ_tup,qM_mk,qN_non,qN_bl,qN_int,qN_str,qN_tup,qN_lst,qB_lst,qB_tup,qL_unX,qL_itX,qL_lstOf,qTs_unX,qTs_itX,qTs_lstOf,qTr_bl,qTr_non,qTr_int,qTr_tup,qTr_lst,qTr_qL,m_lw_sight_3,m_lw_sight_7,m_lw_sight_6,m_lw_sight_8,m_lw_sight_5,m_lw_sight_4,m_lw_sight_2,m_lw_sight,e2,e3]) ?_
    exact fin b3 (some (x - 12,y - 12)) hb3 fun e he=>by
      cases he
      simp only []
      omega
  · have q0:(k == 1) = false:=by simpa using q0
    refine if_fn rfl (by conv=>lhs; simp [sSeq,sSet,sRet,sRetN,sExp,sIf,sNil,sAsg,sPar,mVar,mK,mOp,mUn,mTst_e,tstK,mAnd,mOr,mNot,mAndV_e,andK,mOrV_e,orK,mNotV_e,notK,mIf,mEq,mNe,dEq_int,dEq_bl,mIsN,mCons,mNil,mTup,mLst,mMov,mCall,bAbs,mIsi,isT,D.isDct,mCallF_e,callK,callO,callR,fill,puts,mOwnA,gN,gT,gC,gE,SO.opt,dAdd,dSub,dLt,dLe,dGt,dGe,dNeg,mChain_e,chK,mTru,mSeqI_q,mKeysI_q,mFld_q,mMeth_q,mMake_q,mkR_err,clr_ok,clr_err,mIsiC_q,mLenM_q,mSlice_q,sTryRow_q,tryR_nx,tryR_err,mNewL,mCat,mInD,mInDN,mInB,sRaise,mVarX_q,varR,unX_own,unX_lst,unX_non,unX_tup,mLenX_q,itX_own,itX_lst,mIxX_q,atX_int,sAppX_q,appR_some,sInsX_q,insR_some,sSetXO_q,setR_some,lstOf_lst,ownOf_own,mOrT_e,orT,  mRng,msk,ix2_0,ix2_1,ix3_0,ix3_1,ix3_2,mDNew,mMov,SO.opt,qP_x,qP_y,qPl_w,qPl_p,qPl_s,qP_in,qP_eq,qP_inD,qL_len,qTs_len,qL_one,qL_nil,qL_two,qL_map,qTs_map,qL_seq,qTs_seq,qS_keys,qL_sorted,qL_list,qTs_list,qP_non,qL_non,qM_non,qM_obj,qM_isO,qM_isi,qM_plan,qM_there,qM_parts,qM_cut,qM_mend,qM_cuts,qM_tris,qP_mk,qL_s1,qL_s0,qZ_lst,qZ_tup,qM_mk,qN_non,qN_bl,qN_int,qN_str,qN_tup,qN_lst,qB_lst,qB_tup,qL_unX,qL_itX,qL_lstOf,qTs_unX,qTs_itX,qTs_lstOf,qTr_bl,qTr_non,qTr_int,qTr_tup,qTr_lst,qTr_qL,e1,q0]) ?_
    exact fin b1 none hb1 fun e he=>by cases he
theorem q_lview2 {b:D} (hb:IsBag b) {g:Sg} (h:gOk g) (hl:g.bx.length < 16000000) : ∃ b',f_lw_view [b,sgD g] = .ok (qV g) [some b',none] ∧ IsBag b':=by
  refine run_go f_lw_view_eq (Q:=fun r=>∃ b',r = .ok (qV g) [some b',none] ∧ IsBag b') (by conv=>lhs; simp) ?_
  refine nx_step rfl (s':=[some b,some (sgD g),some (pD g.top),some (spotD g.eye),some (.lst (g.bx.map bxD))]) (by rfl) ?_
  have mk:=fun (s1 e:Env)=>qV_mk g s1 e
  have fin:∀ (b1 TD:D),IsBag b1 → f_as_share [TD] = .ok (pD g.top) [none] → Hs (fun o=>∃ b',runK [.bag,.fr] .fr o = .ok (qV g) [some b',none] ∧ IsBag b') (m_lw_view_4 [some b1,some (sgD g),some TD,some (spotD g.eye),some (.lst (g.bx.map bxD))]):=fun b1 TD hb1 hT=>by
    have bl:bLen [.lst (g.bx.map bxD)] = some (.int g.bx.length):=by
      rw [qB_lst,List.length_map]
    have v1:=q_vinit (BD:=.lst (g.bx.map bxD)) h hl hT rfl
    have v2:=q_vinit (BD:=.tup (g.bx.map bxD)) h hl hT rfl
    have v3:=fun z:g.bx = []=>q_vinit (BD:=.obj "()" [] [.non]) h hl hT (by rw [z]; rfl)
    have dl:dList (.lst (g.bx.map bxD)) = some (g.bx.map bxD):=rfl
    have tp:∀ st:Env,st[4]? = some (some (.lst (g.bx.map bxD))) → mTupOf (mVar 4) st = .ok (.tup (g.bx.map bxD)) st:=fun st e=>by
      unfold mTupOf mVar
      rw [e]
      rfl
    have tp1:=tp [some b1,some (sgD g),some TD,some (spotD g.eye),some (.lst (g.bx.map bxD))] rfl
    by_cases hz:g.bx = []
    · have z0:((g.bx.length:Int) == 0) = true:=by rw [hz]; rfl
      have v3:=v3 hz
      cases he:g.eye with
      | none=>
        have en:spotD (none:Option I2) = .non:=rfl
        rw [he,en] at v3
        rw [en]
        generalize qV g = V at *
        generalize sgD g = SD at *
        generalize D.lst (g.bx.map bxD) = BL at *
        generalize hO:D.obj "()" [] [.non] = OO at *
        generalize hV:D.obj "View" [] [] = OV at *
        refine nx_is (by conv=>lhs; simp [sSeq,sSet,sRet,sRetN,sExp,sIf,sNil,sAsg,sPar,mVar,mK,mOp,mUn,mTst_e,tstK,mAnd,mOr,mNot,mAndV_e,andK,mOrV_e,orK,mNotV_e,notK,mIf,mEq,mNe,dEq_int,dEq_bl,mIsN,mCons,mNil,mTup,mLst,mMov,mCall,bAbs,mIsi,isT,D.isDct,mCallF_e,callK,callO,callR,fill,puts,mOwnA,gN,gT,gC,gE,SO.opt,dAdd,dSub,dLt,dLe,dGt,dGe,dNeg,mChain_e,chK,mTru,mSeqI_q,mKeysI_q,mFld_q,mMeth_q,mMake_q,mkR_err,clr_ok,clr_err,mIsiC_q,mLenM_q,mSlice_q,sTryRow_q,tryR_nx,tryR_err,mNewL,mCat,mInD,mInDN,mInB,sRaise,mVarX_q,varR,unX_own,unX_lst,unX_non,unX_tup,mLenX_q,itX_own,itX_lst,mIxX_q,atX_int,sAppX_q,appR_some,sInsX_q,insR_some,sSetXO_q,setR_some,lstOf_lst,ownOf_own,mOrT_e,orT,  mRng,msk,ix2_0,ix2_1,ix3_0,ix3_1,ix3_2,mDNew,mMov,SO.opt,qP_x,qP_y,qPl_w,qPl_p,qPl_s,qP_in,qP_eq,qP_inD,qL_len,qTs_len,qL_one,qL_nil,qL_two,qL_map,qTs_map,qL_seq,qTs_seq,qS_keys,qL_sorted,qL_list,qTs_list,qP_non,qL_non,qM_non,qM_obj,qM_isO,qM_isi,qM_plan,qM_there,qM_parts,qM_cut,qM_mend,qM_cuts,qM_tris,qP_mk,qL_s1,qL_s0,qZ_lst,qZ_tup,qM_mk,qN_non,qN_bl,qN_int,qN_str,qN_tup,qN_lst,qB_lst,qB_tup,qL_unX,qL_itX,qL_lstOf,qTs_unX,qTs_itX,qTs_lstOf,qTr_bl,qTr_non,qTr_int,qTr_tup,qTr_lst,qTr_qL,m_lw_view_3,m_lw_view_5,m_lw_view_7,m_lw_view_9,m_lw_view_10,m_lw_view_8,m_lw_view_6,m_lw_view_4,m_lw_view_2,m_lw_view,bl,z0,v3,mk,hO,hV]) ?_
        exact ⟨_,rfl,hb1⟩
      | some e=>
        have en:D.isNon (spotD (some e)) = false:=rfl
        rw [he] at v3 tp1
        generalize spotD (some e) = ED at *
        generalize qV g = V at *
        generalize sgD g = SD at *
        generalize D.lst (g.bx.map bxD) = BL at *
        generalize hO:D.obj "()" [] [.non] = OO at *
        generalize hV:D.obj "View" [] [] = OV at *
        refine nx_is (by conv=>lhs; simp [sSeq,sSet,sRet,sRetN,sExp,sIf,sNil,sAsg,sPar,mVar,mK,mOp,mUn,mTst_e,tstK,mAnd,mOr,mNot,mAndV_e,andK,mOrV_e,orK,mNotV_e,notK,mIf,mEq,mNe,dEq_int,dEq_bl,mIsN,mCons,mNil,mTup,mLst,mMov,mCall,bAbs,mIsi,isT,D.isDct,mCallF_e,callK,callO,callR,fill,puts,mOwnA,gN,gT,gC,gE,SO.opt,dAdd,dSub,dLt,dLe,dGt,dGe,dNeg,mChain_e,chK,mTru,mSeqI_q,mKeysI_q,mFld_q,mMeth_q,mMake_q,mkR_err,clr_ok,clr_err,mIsiC_q,mLenM_q,mSlice_q,sTryRow_q,tryR_nx,tryR_err,mNewL,mCat,mInD,mInDN,mInB,sRaise,mVarX_q,varR,unX_own,unX_lst,unX_non,unX_tup,mLenX_q,itX_own,itX_lst,mIxX_q,atX_int,sAppX_q,appR_some,sInsX_q,insR_some,sSetXO_q,setR_some,lstOf_lst,ownOf_own,mOrT_e,orT,  mRng,msk,ix2_0,ix2_1,ix3_0,ix3_1,ix3_2,mDNew,mMov,SO.opt,qP_x,qP_y,qPl_w,qPl_p,qPl_s,qP_in,qP_eq,qP_inD,qL_len,qTs_len,qL_one,qL_nil,qL_two,qL_map,qTs_map,qL_seq,qTs_seq,qS_keys,qL_sorted,qL_list,qTs_list,qP_non,qL_non,qM_non,qM_obj,qM_isO,qM_isi,qM_plan,qM_there,qM_parts,qM_cut,qM_mend,qM_cuts,qM_tris,qP_mk,qL_s1,qL_s0,qZ_lst,qZ_tup,qM_mk,qN_non,qN_bl,qN_int,qN_str,qN_tup,qN_lst,qB_lst,qB_tup,qL_unX,qL_itX,qL_lstOf,qTs_unX,qTs_itX,qTs_lstOf,qTr_bl,qTr_non,qTr_int,qTr_tup,qTr_lst,qTr_qL,m_lw_view_3,m_lw_view_5,m_lw_view_7,m_lw_view_9,m_lw_view_10,m_lw_view_8,m_lw_view_6,m_lw_view_4,m_lw_view_2,m_lw_view,bl,z0,v3,mk,hO,hV,en,mMakeN]) ?_
        exact ⟨_,rfl,hb1⟩
    · have z0:((g.bx.length:Int) == 0) = false:=by
        cases hb:g.bx with
        | nil=>exact absurd hb hz
        | cons a L=>simp; omega
      cases he:g.eye with
      | none=>
        have en:spotD (none:Option I2) = .non:=rfl
        rw [he,en] at v1
        rw [en]
        generalize qV g = V at *
        generalize sgD g = SD at *
        generalize hLB:g.bx.map bxD = LB at *
        generalize hV:D.obj "View" [] [] = OV at *
        generalize hBL:D.lst LB = BL at *
        refine nx_is (by conv=>lhs; simp [sSeq,sSet,sRet,sRetN,sExp,sIf,sNil,sAsg,sPar,mVar,mK,mOp,mUn,mTst_e,tstK,mAnd,mOr,mNot,mAndV_e,andK,mOrV_e,orK,mNotV_e,notK,mIf,mEq,mNe,dEq_int,dEq_bl,mIsN,mCons,mNil,mTup,mLst,mMov,mCall,bAbs,mIsi,isT,D.isDct,mCallF_e,callK,callO,callR,fill,puts,mOwnA,gN,gT,gC,gE,SO.opt,dAdd,dSub,dLt,dLe,dGt,dGe,dNeg,mChain_e,chK,mTru,mSeqI_q,mKeysI_q,mFld_q,mMeth_q,mMake_q,mkR_err,clr_ok,clr_err,mIsiC_q,mLenM_q,mSlice_q,sTryRow_q,tryR_nx,tryR_err,mNewL,mCat,mInD,mInDN,mInB,sRaise,mVarX_q,varR,unX_own,unX_lst,unX_non,unX_tup,mLenX_q,itX_own,itX_lst,mIxX_q,atX_int,sAppX_q,appR_some,sInsX_q,insR_some,sSetXO_q,setR_some,lstOf_lst,ownOf_own,mOrT_e,orT,  mRng,msk,ix2_0,ix2_1,ix3_0,ix3_1,ix3_2,mDNew,mMov,SO.opt,qP_x,qP_y,qPl_w,qPl_p,qPl_s,qP_in,qP_eq,qP_inD,qL_len,qTs_len,qL_one,qL_nil,qL_two,qL_map,qTs_map,qL_seq,qTs_seq,qS_keys,qL_sorted,qL_list,qTs_list,qP_non,qL_non,qM_non,qM_obj,qM_isO,qM_isi,qM_plan,qM_there,qM_parts,qM_cut,qM_mend,qM_cuts,qM_tris,qP_mk,qL_s1,qL_s0,qZ_lst,qZ_tup,qM_mk,qN_non,qN_bl,qN_int,qN_str,qN_tup,qN_lst,qB_lst,qB_tup,qL_unX,qL_itX,qL_lstOf,qTs_unX,qTs_itX,qTs_lstOf,qTr_bl,qTr_non,qTr_int,qTr_tup,qTr_lst,qTr_qL,m_lw_view_3,m_lw_view_5,m_lw_view_7,m_lw_view_9,m_lw_view_10,m_lw_view_8,m_lw_view_6,m_lw_view_4,m_lw_view_2,m_lw_view,bl,z0,v1,mk,hV,mMakeN,dl,hBL]) ?_
        exact ⟨_,rfl,hb1⟩
      | some e=>
        have en:D.isNon (spotD (some e)) = false:=rfl
        rw [he] at v2 tp1
        generalize spotD (some e) = ED at *
        generalize qV g = V at *
        generalize sgD g = SD at *
        generalize D.tup (g.bx.map bxD) = BT at *
        generalize D.lst (g.bx.map bxD) = BL at *
        generalize hV:D.obj "View" [] [] = OV at *
        refine nx_is (by conv=>lhs; simp [sSeq,sSet,sRet,sRetN,sExp,sIf,sNil,sAsg,sPar,mVar,mK,mOp,mUn,mTst_e,tstK,mAnd,mOr,mNot,mAndV_e,andK,mOrV_e,orK,mNotV_e,notK,mIf,mEq,mNe,dEq_int,dEq_bl,mIsN,mCons,mNil,mTup,mLst,mMov,mCall,bAbs,mIsi,isT,D.isDct,mCallF_e,callK,callO,callR,fill,puts,mOwnA,gN,gT,gC,gE,SO.opt,dAdd,dSub,dLt,dLe,dGt,dGe,dNeg,mChain_e,chK,mTru,mSeqI_q,mKeysI_q,mFld_q,mMeth_q,mMake_q,mkR_err,clr_ok,clr_err,mIsiC_q,mLenM_q,mSlice_q,sTryRow_q,tryR_nx,tryR_err,mNewL,mCat,mInD,mInDN,mInB,sRaise,mVarX_q,varR,unX_own,unX_lst,unX_non,unX_tup,mLenX_q,itX_own,itX_lst,mIxX_q,atX_int,sAppX_q,appR_some,sInsX_q,insR_some,sSetXO_q,setR_some,lstOf_lst,ownOf_own,mOrT_e,orT,  mRng,msk,ix2_0,ix2_1,ix3_0,ix3_1,ix3_2,mDNew,mMov,SO.opt,qP_x,qP_y,qPl_w,qPl_p,qPl_s,qP_in,qP_eq,qP_inD,qL_len,qTs_len,qL_one,qL_nil,qL_two,qL_map,qTs_map,qL_seq,qTs_seq,qS_keys,qL_sorted,qL_list,qTs_list,qP_non,qL_non,qM_non,qM_obj,qM_isO,qM_isi,qM_plan,qM_there,qM_parts,qM_cut,qM_mend,qM_cuts,qM_tris,qP_mk,qL_s1,qL_s0,qZ_lst,qZ_tup,qM_mk,qN_non,qN_bl,qN_int,qN_str,qN_tup,qN_lst,qB_lst,qB_tup,qL_unX,qL_itX,qL_lstOf,qTs_unX,qTs_itX,qTs_lstOf,qTr_bl,qTr_non,qTr_int,qTr_tup,qTr_lst,qTr_qL,m_lw_view_3,m_lw_view_5,m_lw_view_7,m_lw_view_9,m_lw_view_10,m_lw_view_8,m_lw_view_6,m_lw_view_4,m_lw_view_2,m_lw_view,bl,z0,v2,mk,hV,mMakeN,en,tp1]) ?_
        exact ⟨_,rfl,hb1⟩
  have x1:dIx (pD g.top) (.int 1) = some (.int g.top.2):=rfl
  have x0:dIx (pD g.top) (.int 0) = some (.int g.top.1):=rfl
  have tP:=q_asshareP h.top.1.1
  by_cases q1:(g.top.2 == 1) = true
  · obtain ⟨r,b1,e1,r0,r1,hb1⟩:=draw_lt (n:=2) hb (by decide) (by decide)
    by_cases q2:(r == 0) = true
    · have tI:=q_asshareI h.top.1.1
      have et:((g.top.1,1) : Int × Int) = g.top:=Prod.ext rfl (eq_of_beq q1).symm
      rw [et] at tI
      have fin2:=fin b1 _ hb1 tI
      generalize pD g.top = PT at *
      generalize D.lst (g.bx.map bxD) = BL at *
      generalize spotD g.eye = ED at *
      generalize sgD g = SD at *
      refine if_t rfl (by conv=>lhs; simp [sSeq,sSet,sRet,sRetN,sExp,sIf,sNil,sAsg,sPar,mVar,mK,mOp,mUn,mTst_e,tstK,mAnd,mOr,mNot,mAndV_e,andK,mOrV_e,orK,mNotV_e,notK,mIf,mEq,mNe,dEq_int,dEq_bl,mIsN,mCons,mNil,mTup,mLst,mMov,mCall,bAbs,mIsi,isT,D.isDct,mCallF_e,callK,callO,callR,fill,puts,mOwnA,gN,gT,gC,gE,SO.opt,dAdd,dSub,dLt,dLe,dGt,dGe,dNeg,mChain_e,chK,mTru,mSeqI_q,mKeysI_q,mFld_q,mMeth_q,mMake_q,mkR_err,clr_ok,clr_err,mIsiC_q,mLenM_q,mSlice_q,sTryRow_q,tryR_nx,tryR_err,mNewL,mCat,mInD,mInDN,mInB,sRaise,mVarX_q,varR,unX_own,unX_lst,unX_non,unX_tup,mLenX_q,itX_own,itX_lst,mIxX_q,atX_int,sAppX_q,appR_some,sInsX_q,insR_some,sSetXO_q,setR_some,lstOf_lst,ownOf_own,mOrT_e,orT,  mRng,msk,ix2_0,ix2_1,ix3_0,ix3_1,ix3_2,mDNew,mMov,SO.opt,qP_x,qP_y,qPl_w,qPl_p,qPl_s,qP_in,qP_eq,qP_inD,qL_len,qTs_len,qL_one,qL_nil,qL_two,qL_map,qTs_map,qL_seq,qTs_seq,qS_keys,qL_sorted,qL_list,qTs_list,qP_non,qL_non,qM_non,qM_obj,qM_isO,qM_isi,qM_plan,qM_there,qM_parts,qM_cut,qM_mend,qM_cuts,qM_tris,qP_mk,qL_s1,qL_s0,qZ_lst,qZ_tup,qM_mk,qN_non,qN_bl,qN_int,qN_str,qN_tup,qN_lst,qB_lst,qB_tup,qL_unX,qL_itX,qL_lstOf,qTs_unX,qTs_itX,qTs_lstOf,qTr_bl,qTr_non,qTr_int,qTr_tup,qTr_lst,qTr_qL,x1,q1,e1,q2]) ?_
      refine seqP_nx (s':=[some b1,some SD,some (.int g.top.1),some ED,some BL]) (by simp [sSeq,sSet,sRet,sRetN,sExp,sIf,sNil,sAsg,sPar,mVar,mK,mOp,mUn,mTst_e,tstK,mAnd,mOr,mNot,mAndV_e,andK,mOrV_e,orK,mNotV_e,notK,mIf,mEq,mNe,dEq_int,dEq_bl,mIsN,mCons,mNil,mTup,mLst,mMov,mCall,bAbs,mIsi,isT,D.isDct,mCallF_e,callK,callO,callR,fill,puts,mOwnA,gN,gT,gC,gE,SO.opt,dAdd,dSub,dLt,dLe,dGt,dGe,dNeg,mChain_e,chK,mTru,mSeqI_q,mKeysI_q,mFld_q,mMeth_q,mMake_q,mkR_err,clr_ok,clr_err,mIsiC_q,mLenM_q,mSlice_q,sTryRow_q,tryR_nx,tryR_err,mNewL,mCat,mInD,mInDN,mInB,sRaise,mVarX_q,varR,unX_own,unX_lst,unX_non,unX_tup,mLenX_q,itX_own,itX_lst,mIxX_q,atX_int,sAppX_q,appR_some,sInsX_q,insR_some,sSetXO_q,setR_some,lstOf_lst,ownOf_own,mOrT_e,orT,  mRng,msk,ix2_0,ix2_1,ix3_0,ix3_1,ix3_2,mDNew,mMov,SO.opt,qP_x,qP_y,qPl_w,qPl_p,qPl_s,qP_in,qP_eq,qP_inD,qL_len,qTs_len,qL_one,qL_nil,qL_two,qL_map,qTs_map,qL_seq,qTs_seq,qS_keys,qL_sorted,qL_list,qTs_list,qP_non,qL_non,qM_non,qM_obj,qM_isO,qM_isi,qM_plan,qM_there,qM_parts,qM_cut,qM_mend,qM_cuts,qM_tris,qP_mk,qL_s1,qL_s0,qZ_lst,qZ_tup,qM_mk,qN_non,qN_bl,qN_int,qN_str,qN_tup,qN_lst,qB_lst,qB_tup,qL_unX,qL_itX,qL_lstOf,qTs_unX,qTs_itX,qTs_lstOf,qTr_bl,qTr_non,qTr_int,qTr_tup,qTr_lst,qTr_qL,m_lw_view_3,m_lw_view_5,m_lw_view_7,m_lw_view_9,m_lw_view_10,m_lw_view_8,m_lw_view_6,m_lw_view_4,m_lw_view_2,m_lw_view,x0]) ?_
      exact fin2
    · have q2:(r == 0) = false:=by simpa using q2
      have fin2:=fin b1 _ hb1 tP
      generalize pD g.top = PT at *
      generalize D.lst (g.bx.map bxD) = BL at *
      generalize spotD g.eye = ED at *
      generalize sgD g = SD at *
      refine if_fn rfl (by conv=>lhs; simp [sSeq,sSet,sRet,sRetN,sExp,sIf,sNil,sAsg,sPar,mVar,mK,mOp,mUn,mTst_e,tstK,mAnd,mOr,mNot,mAndV_e,andK,mOrV_e,orK,mNotV_e,notK,mIf,mEq,mNe,dEq_int,dEq_bl,mIsN,mCons,mNil,mTup,mLst,mMov,mCall,bAbs,mIsi,isT,D.isDct,mCallF_e,callK,callO,callR,fill,puts,mOwnA,gN,gT,gC,gE,SO.opt,dAdd,dSub,dLt,dLe,dGt,dGe,dNeg,mChain_e,chK,mTru,mSeqI_q,mKeysI_q,mFld_q,mMeth_q,mMake_q,mkR_err,clr_ok,clr_err,mIsiC_q,mLenM_q,mSlice_q,sTryRow_q,tryR_nx,tryR_err,mNewL,mCat,mInD,mInDN,mInB,sRaise,mVarX_q,varR,unX_own,unX_lst,unX_non,unX_tup,mLenX_q,itX_own,itX_lst,mIxX_q,atX_int,sAppX_q,appR_some,sInsX_q,insR_some,sSetXO_q,setR_some,lstOf_lst,ownOf_own,mOrT_e,orT,  mRng,msk,ix2_0,ix2_1,ix3_0,ix3_1,ix3_2,mDNew,mMov,SO.opt,qP_x,qP_y,qPl_w,qPl_p,qPl_s,qP_in,qP_eq,qP_inD,qL_len,qTs_len,qL_one,qL_nil,qL_two,qL_map,qTs_map,qL_seq,qTs_seq,qS_keys,qL_sorted,qL_list,qTs_list,qP_non,qL_non,qM_non,qM_obj,qM_isO,qM_isi,qM_plan,qM_there,qM_parts,qM_cut,qM_mend,qM_cuts,qM_tris,qP_mk,qL_s1,qL_s0,qZ_lst,qZ_tup,qM_mk,qN_non,qN_bl,qN_int,qN_str,qN_tup,qN_lst,qB_lst,qB_tup,qL_unX,qL_itX,qL_lstOf,qTs_unX,qTs_itX,qTs_lstOf,qTr_bl,qTr_non,qTr_int,qTr_tup,qTr_lst,qTr_qL,x1,q1,e1,q2]) ?_
      exact fin2
  · have q1:(g.top.2 == 1) = false:=by simpa using q1
    have fin2:=fin b _ hb tP
    generalize pD g.top = PT at *
    generalize D.lst (g.bx.map bxD) = BL at *
    generalize spotD g.eye = ED at *
    generalize sgD g = SD at *
    refine if_fn rfl (by conv=>lhs; simp [sSeq,sSet,sRet,sRetN,sExp,sIf,sNil,sAsg,sPar,mVar,mK,mOp,mUn,mTst_e,tstK,mAnd,mOr,mNot,mAndV_e,andK,mOrV_e,orK,mNotV_e,notK,mIf,mEq,mNe,dEq_int,dEq_bl,mIsN,mCons,mNil,mTup,mLst,mMov,mCall,bAbs,mIsi,isT,D.isDct,mCallF_e,callK,callO,callR,fill,puts,mOwnA,gN,gT,gC,gE,SO.opt,dAdd,dSub,dLt,dLe,dGt,dGe,dNeg,mChain_e,chK,mTru,mSeqI_q,mKeysI_q,mFld_q,mMeth_q,mMake_q,mkR_err,clr_ok,clr_err,mIsiC_q,mLenM_q,mSlice_q,sTryRow_q,tryR_nx,tryR_err,mNewL,mCat,mInD,mInDN,mInB,sRaise,mVarX_q,varR,unX_own,unX_lst,unX_non,unX_tup,mLenX_q,itX_own,itX_lst,mIxX_q,atX_int,sAppX_q,appR_some,sInsX_q,insR_some,sSetXO_q,setR_some,lstOf_lst,ownOf_own,mOrT_e,orT,  mRng,msk,ix2_0,ix2_1,ix3_0,ix3_1,ix3_2,mDNew,mMov,SO.opt,qP_x,qP_y,qPl_w,qPl_p,qPl_s,qP_in,qP_eq,qP_inD,qL_len,qTs_len,qL_one,qL_nil,qL_two,qL_map,qTs_map,qL_seq,qTs_seq,qS_keys,qL_sorted,qL_list,qTs_list,qP_non,qL_non,qM_non,qM_obj,qM_isO,qM_isi,qM_plan,qM_there,qM_parts,qM_cut,qM_mend,qM_cuts,qM_tris,qP_mk,qL_s1,qL_s0,qZ_lst,qZ_tup,qM_mk,qN_non,qN_bl,qN_int,qN_str,qN_tup,qN_lst,qB_lst,qB_tup,qL_unX,qL_itX,qL_lstOf,qTs_unX,qTs_itX,qTs_lstOf,qTr_bl,qTr_non,qTr_int,qTr_tup,qTr_lst,qTr_qL,x1,q1]) ?_
    exact fin2
theorem q_lview {b:D} (hb:IsBag b) {g:Sg} (h:gDr g) : ∃ b',f_lw_view [b,sgD g] = .ok (qV g) [some b',none] ∧ IsBag b':=q_lview2 hb h.ok (by have:=h.len; omega)
inductive Rw1 where
  | far (a:I2) (t:Tr)
  | asked (a c:I2)
def Rw1.at_:Rw1 → I2
  | .far a _=>a
  | .asked a _=>a
theorem eqs_self {α:Type} (f:α → D) (h:∀ a,D.eq (f a) (f a) = true) : ∀ L:List α,D.eqs (L.map f) (L.map f) = true
  | []=>rfl
  | a :: L=>by
    show (D.eq (f a) (f a) && D.eqs (L.map f) (L.map f)) = true
    rw [h a,eqs_self f h L]
    rfl
def ldNs:List Str:=["plan", "heights", "edition", "tries", "made", "done", "undone", "gaps"]
def ldO (PL:D) (ih:Nat) (ed tr:Int) (im idn iu ig:Nat) : D:=.obj "Land" ldNs [PL,.ptr ih,.int ed,.int tr,.ptr im,.ptr idn,.ptr iu,.ptr ig]
structure LdAt (w p s:Int) (cs:List D) (k ih im idn iu ig:Nat) (f:Ht) (ed tr:Int) (mf:Ht) (dn un:List D) (gf:Tr → D) : Prop where
  o:cs[k]? = some (ldO (qPl w p s) ih ed tr im idn iu ig)
  h:cs[ih]? = some (qH (plcI w p s) f)
  m:cs[im]? = some (qH (plcI w p s) mf)
  d:cs[idn]? = some (.lst dn)
  u:cs[iu]? = some (.lst un)
  g:cs[ig]? = some (dicD kT gf (shp w p s))
  ne:[k,ih,im,idn,iu,ig].Nodup
def qS3 (x:I2 × Int × Int) : D:=.tup [qP x.1,.int x.2.1,.int x.2.2]
def eUpd (f:Ht) (c:I2 × Int) : Ht:=fun b=>if b = c.1 then c.2 else f b
def mdKs:List Str:=["heights", "edition", "tries", "made", "done", "undone"]
def mdO (ih:Nat) (ed tr:Int) (im idn iu:Nat) : D:=.tup [.dct ((mdKs.map (Sum.inr:Str → Key)).map fun x=>[x]) [.ptr ih,.int ed,.int tr,.ptr im,.ptr idn,.ptr iu]]
/-- where the law's model stands and what it holds -/
structure MdAt (w p s:Int) (cs:List D) (k ih im idn iu:Nat) (f:Ht) (ed tr:Int) (mf:Ht) (dn un:List D) : Prop where
  o:cs[k]? = some (mdO ih ed tr im idn iu)
  h:cs[ih]? = some (qH (plcI w p s) f)
  m:cs[im]? = some (qH (plcI w p s) mf)
  d:cs[idn]? = some (.lst dn)
  u:cs[iu]? = some (.lst un)
  ne:[k,ih,im,idn,iu].Nodup
def rI (lo:Int) (n:Nat) : List Int:=(List.range n).map fun (i:Nat)=>lo + (i:Int)
theorem compMY_go {α:Type} {g:MG} {e:M} {vs:List Nat} {q:α → D} {I:Env → Prop} {A:α → Prop} : ∀ {ds:List D} {acc:List α} {s:Env},I s → (∀ z ∈ acc,A z) → (∀ d ∈ ds,∀ s,I s → ∃ s1 z s3,g d s = some s1 ∧ e s1 = .ok (q z) s3 ∧ A z ∧ I (swipe s3 vs)) → acc.length + ds.length < 16000000 →
    ∃ (zs:List α) (s':Env),compM g mYes e vs ds s (acc.map q) = .ok (zs.map q) s' ∧ I s' ∧ (∀ z ∈ zs,A z) ∧ zs.length = acc.length + ds.length
  | [],acc,s,hI,hA,_,_=>⟨acc,s,rfl,hI,hA,rfl⟩
  | d :: ds,acc,s,hI,hA,h,hl=>by
    obtain ⟨s1,z,s3,e1,e3,hz,h3⟩:=h d List.mem_cons_self s hI
    have hl:acc.length + (ds.length + 1) < 16000000:=hl
    have hlt:(acc.map q).length < 16000000:=by rw [List.length_map]; omega
    unfold compM
    rw [e1]
    simp only []
    rw [show mYes s1 = .ok true s1 from rfl,R.bind_ok,if_pos rfl,e3,R.bind_ok,if_pos hlt]
    obtain ⟨zs,s',q1,q2,q3,q4⟩:=compMY_go (acc:=acc ++ [z]) h3 (fun d hd=>(List.mem_append.mp hd).elim (hA d) fun q=>by rw [List.mem_singleton.mp q]; exact hz) (fun d hd=>h d (List.mem_cons_of_mem _ hd)) (by rw [List.length_append]; simp only [List.length_cons,List.length_nil]; omega)
    rw [List.map_append] at q1
    refine ⟨zs,s',q1,q2,q3,?_⟩
    rw [List.length_append] at q4
    simp only [List.length_cons,List.length_nil] at q4 ⊢
    omega
theorem compY_ev {α:Type} {mi:MA} {g:MG} {e:M} {vs:List Nat} {q:α → D} {s s1:Env} {ds:List D} (I:Env → Prop) (A:α → Prop) (hi:mi s = .ok ds s1) (h0:I (swipe s1 vs)) (h:∀ d ∈ ds,∀ s,I s → ∃ s1 z s3,g d s = some s1 ∧ e s1 = .ok (q z) s3 ∧ A z ∧ I (swipe s3 vs)) (hl:ds.length < 16000000) :
    ∃ (zs:List α) (s':Env),mComp mi g mYes e vs s = .ok (.lst (zs.map q)) (srest s1 s' vs) ∧ I s' ∧ (∀ z ∈ zs,A z) ∧ zs.length = ds.length:=by
  obtain ⟨zs,s',q1,q2,q3,q4⟩:=compMY_go (acc:=[]) h0 (fun _ h=>by cases h) h (by simpa using hl)
  refine ⟨zs,s',?_,q2,q3,by simpa using q4⟩
  unfold mComp
  rw [hi,R.bind_ok,show ([] : List D) = ([] : List α).map q from rfl,q1]
  rfl
theorem LdAt.fr {w p s:Int} {cs cs':List D} {k ih im idn iu ig:Nat} {f:Ht} {ed tr:Int} {mf:Ht} {dn un:List D} {gf:Tr → D} (A:LdAt w p s cs k ih im idn iu ig f ed tr mf dn un gf) {S:List Nat} (h:∀ j x,j ∉ S → cs[j]? = some x → cs'[j]? = some x) (hS:∀ j ∈ [k,ih,im,idn,iu,ig],j ∉ S) : LdAt w p s cs' k ih im idn iu ig f ed tr mf dn un gf:=
  ⟨h _ _ (hS _ (by simp)) A.o,h _ _ (hS _ (by simp)) A.h,h _ _ (hS _ (by simp)) A.m,h _ _ (hS _ (by simp)) A.d,h _ _ (hS _ (by simp)) A.u,h _ _ (hS _ (by simp)) A.g,A.ne⟩
theorem MdAt.fr {w p s:Int} {cs cs':List D} {k ih im idn iu:Nat} {f:Ht} {ed tr:Int} {mf:Ht} {dn un:List D} (M:MdAt w p s cs k ih im idn iu f ed tr mf dn un) {S:List Nat} (h:∀ j x,j ∉ S → cs[j]? = some x → cs'[j]? = some x) (hS:∀ j ∈ [k,ih,im,idn,iu],j ∉ S) : MdAt w p s cs' k ih im idn iu f ed tr mf dn un:=
  ⟨h _ _ (hS _ (by simp)) M.o,h _ _ (hS _ (by simp)) M.h,h _ _ (hS _ (by simp)) M.m,h _ _ (hS _ (by simp)) M.d,h _ _ (hS _ (by simp)) M.u,M.ne⟩
def qDc (L:List I2) (ζ:I2 → D) : D:=.dct (L.map kP) (L.map ζ)
def corL (w p s:Int) : List I2:=(plcI w p s).filter fun a=>corI s a
def vwNs:List Str:=["plan", "room", "bases", "kept", "wish"]
def vwO (PL RM:D) (ib ik iw:Nat) : D:=.obj "Viewer" vwNs [PL,RM,.ptr ib,.ptr ik,.ptr iw]
abbrev qVc (g:I2 → I2) : I2 → D:=fun a=>qP (g a)
structure VwAt (w p s:Int) (cs:List D) (k ib ik iw:Nat) (RM:D) (gb:I2 → I2) (K:List I2) (gk:I2 → I2) (W:List I2) : Prop where
  o:cs[k]? = some (vwO (qPl w p s) RM ib ik iw)
  b:cs[ib]? = some (qDc (corL w p s) (qVc gb))
  c:cs[ik]? = some (qDc K (qVc gk))
  w:cs[iw]? = some (qS W)
  ne:[k,ib,ik,iw].Nodup
def mkKs:List Str:=["bases", "kept", "wish", "space"]
def mkO (ib ik:Nat) (W:List I2) (SP:D) : D:=.tup [.dct ((mkKs.map (Sum.inr:Str → Key)).map fun x=>[x]) [.ptr ib,.ptr ik,qL W,SP]]
/-- the law's model of a far end -/
structure MkAt (w p s:Int) (cs:List D) (k ib ik:Nat) (RM:D) (gb:I2 → I2) (K:List I2) (gk:I2 → I2) (W:List I2) : Prop where
  o:cs[k]? = some (mkO ib ik W RM)
  b:cs[ib]? = some (qDc (corL w p s) (qVc gb))
  c:cs[ik]? = some (qDc K (qVc gk))
  ne:[k,ib,ik].Nodup
theorem VwAt.fr {w p s:Int} {cs cs':List D} {k ib ik iw:Nat} {RM:D} {gb:I2 → I2} {K:List I2} {gk:I2 → I2} {W:List I2} (A:VwAt w p s cs k ib ik iw RM gb K gk W) {S:List Nat} (h:∀ j x,j ∉ S → cs[j]? = some x → cs'[j]? = some x) (hS:∀ j ∈ [k,ib,ik,iw],j ∉ S) : VwAt w p s cs' k ib ik iw RM gb K gk W:=
  ⟨h _ _ (hS _ (by simp)) A.o,h _ _ (hS _ (by simp)) A.b,h _ _ (hS _ (by simp)) A.c,h _ _ (hS _ (by simp)) A.w,A.ne⟩
theorem MkAt.fr {w p s:Int} {cs cs':List D} {k ib ik:Nat} {RM:D} {gb:I2 → I2} {K:List I2} {gk:I2 → I2} {W:List I2} (A:MkAt w p s cs k ib ik RM gb K gk W) {S:List Nat} (h:∀ j x,j ∉ S → cs[j]? = some x → cs'[j]? = some x) (hS:∀ j ∈ [k,ib,ik],j ∉ S) : MkAt w p s cs' k ib ik RM gb K gk W:=
  ⟨h _ _ (hS _ (by simp)) A.o,h _ _ (hS _ (by simp)) A.b,h _ _ (hS _ (by simp)) A.c,A.ne⟩
structure WInv (w p s:Int) (W:List I2) : Prop where
  pw:W.Pairwise ltP2
  cut:∀ a ∈ W,isCut w p s a
  cl:∀ a ∈ W,∀ c ∈ upI w p s a,c ∈ W
theorem WInv.nd {w p s:Int} {W:List I2} (h:WInv w p s W) : W.Nodup:=h.pw.imp fun {a b} h e=>by
  subst e
  exact ltP2_asym a a h h
structure NwI (s:Int) (f:Ht) (L:List (I2 × I2)) (gb:I2 → I2) (K:List I2) (gk:I2 → I2) : Prop where
  b:∀ a,corI s a = true → (gb a = (f a,0) ∨ ((a,gb a) ∈ L ∧ 0 < (gb a).2)) ∧ ∀ v,(a,v) ∈ L → v.2 ≤ (gb a).2
  k:∀ a,a ∈ K ↔ corI s a = false ∧ ∃ v,(a,v) ∈ L
  g:∀ a ∈ K,(a,gk a) ∈ L ∧ ∀ v,(a,v) ∈ L → v.2 ≤ (gk a).2
theorem NwI.nil {s:Int} {f:Ht} {gk:I2 → I2} : NwI s f [] (fun a=>(f a,0)) [] gk:=
  ⟨fun a _=>⟨.inl rfl,fun v h=>by cases h⟩,fun a=>⟨(fun h=>by cases h),fun ⟨_,v,h⟩=>by cases h⟩,fun a h=>by cases h⟩
def pkK (N:Nat) : List (List Key):=(rI 1 N).map fun i=>[Sum.inl i]
def lkNs:List Str:=["land", "packets", "last"]
structure LkAt (cs:List D) (k ip il N:Nat) (ps:List D) : Prop where
  o:cs[k]? = some (.obj "Link" lkNs [.ptr il,.ptr ip,.int (N:Int)])
  p:cs[ip]? = some (.tup [.dct (pkK N) ps])
  l:ps.length = N
  ne:k ≠ ip
theorem LkAt.fr {cs cs':List D} {k ip il N:Nat} {ps:List D} (A:LkAt cs k ip il N ps) {S:List Nat} (h:∀ (j:Nat) (x:D),j ∉ S → cs[j]? = some x → cs'[j]? = some x) (hS:∀ j ∈ [k,ip],j ∉ S) : LkAt cs' k ip il N ps:=
  ⟨h _ _ (hS _ (by simp)) A.o,h _ _ (hS _ (by simp)) A.p,A.l,A.ne⟩
def pqK (P:List (Int × D)) : List (List Key):=P.map fun x=>[Sum.inl x.1]
structure LqAt (cs:List D) (k ip il N:Nat) (P:List (Int × D)) : Prop where
  o:cs[k]? = some (.obj "Link" lkNs [.ptr il,.ptr ip,.int (N:Int)])
  p:cs[ip]? = some (.tup [.dct (pqK P) (P.map (·.2))])
  le:∀ x ∈ P,x.1 ≤ (N:Int)
  nd:(P.map (·.1)).Nodup
  sm:P.length < 1000
  ne:k ≠ ip
theorem LqAt.fr {cs cs':List D} {k ip il N:Nat} {P:List (Int × D)} (A:LqAt cs k ip il N P) {S:List Nat} (h:∀ (j:Nat) (x:D),j ∉ S → cs[j]? = some x → cs'[j]? = some x) (hS:∀ j ∈ [k,ip],j ∉ S) : LqAt cs' k ip il N P:=
  ⟨h _ _ (hS _ (by simp)) A.o,h _ _ (hS _ (by simp)) A.p,A.le,A.nd,A.sm,A.ne⟩
structure Newer (gb:I2 → I2) (K:List I2) (gk gb':I2 → I2) (K':List I2) (gk':I2 → I2) : Prop where
  b:∀ a,(gb a).2 ≤ (gb' a).2
  k:∀ a ∈ K,a ∈ K'
  g:∀ a ∈ K,(gk a).2 ≤ (gk' a).2
theorem Newer.trans {gb gk gb' gk' gb'' gk'':I2 → I2} {K K' K'':List I2} (h:Newer gb K gk gb' K' gk') (h':Newer gb' K' gk' gb'' K'' gk'') : Newer gb K gk gb'' K'' gk'':=
  ⟨fun a=>Int.le_trans (h.b a) (h'.b a),fun a z=>h'.k a (h.k a z),fun a z=>Int.le_trans (h.g a z) (h'.g a (h.k a z))⟩
def bkS:List (I2 × Int × Int) → Ht → Ht
  | [],f=>f
  | x :: st,f=>eUpd (bkS st f) (x.1,x.2.1)
def fwS:List (I2 × Int × Int) → Ht → Ht
  | [],f=>f
  | x :: st,f=>fwS st (eUpd f (x.1,x.2.2))
/-- the steps st lead from g to f and back -/
structure StL (w p s:Int) (st:List (I2 × Int × Int)) (g f:Ht) : Prop where
  b:bkS st f = g
  f:fwS st g = f
  i:∀ x ∈ st,inI w p s x.1 = true
  n:st.length < 16000000
structure HsE where
  st:List (I2 × Int × Int)
  j:Nat
  g:Ht
def ChD (w p s:Int) (cs:List D) (Z:List Nat) : Ht → List HsE → Prop
  | _,[]=>True
  | f,e :: P=>StL w p s e.st e.g f ∧ cs[e.j]? = some (qH (plcI w p s) e.g) ∧ e.j ∉ Z ∧ hOk e.g ∧ ChD w p s cs Z e.g P
def ChU (w p s:Int) (cs:List D) (Z:List Nat) : Ht → List HsE → Prop
  | _,[]=>True
  | f,e :: P=>StL w p s e.st f e.g ∧ cs[e.j]? = some (qH (plcI w p s) e.g) ∧ e.j ∉ Z ∧ hOk e.g ∧ ChU w p s cs Z e.g P
def dnP (P:List HsE) : List D:=P.reverse.map fun e=>D.lst (e.st.map qS3)
def dnM (P:List HsE) : List D:=P.reverse.map fun e=>D.ptr e.j
theorem ChD.fr {w p s:Int} {cs cs':List D} {Z Z' S:List Nat} (h:∀ (j:Nat) (x:D),j ∉ S → cs[j]? = some x → cs'[j]? = some x) (hS:∀ j,j ∉ Z → j < cs.length → j ∉ S ∧ j ∉ Z') : ∀ {P:List HsE} {f:Ht},ChD w p s cs Z f P → ChD w p s cs' Z' f P
  | [],_,_=>trivial
  | e :: P,f,⟨h1,h2,h3,h4,h5⟩=>by
    obtain ⟨s1,s2⟩:=hS e.j h3 (List.getElem?_eq_some_iff.mp h2).1
    exact ⟨h1,h _ _ s1 h2,s2,h4,ChD.fr h hS h5⟩
theorem ChU.fr {w p s:Int} {cs cs':List D} {Z Z' S:List Nat} (h:∀ (j:Nat) (x:D),j ∉ S → cs[j]? = some x → cs'[j]? = some x) (hS:∀ j,j ∉ Z → j < cs.length → j ∉ S ∧ j ∉ Z') : ∀ {P:List HsE} {f:Ht},ChU w p s cs Z f P → ChU w p s cs' Z' f P
  | [],_,_=>trivial
  | e :: P,f,⟨h1,h2,h3,h4,h5⟩=>by
    obtain ⟨s1,s2⟩:=hS e.j h3 (List.getElem?_eq_some_iff.mp h2).1
    exact ⟨h1,h _ _ s1 h2,s2,h4,ChU.fr h hS h5⟩
abbrev ldZ (iu iu':Nat) : List Nat:=[1,2,3,4,iu,6,11,8,7,9,iu']
/-- a land and the law's model of it,with all that can be taken back or done again; Y: cells of others -/
structure DlA (w p s:Int) (cs:List D) (Y:List Nat) (f:Ht) (ed tr:Int) (mf:Ht) (P U:List HsE) (gf:Tr → D) (iu iu':Nat) : Prop where
  L:LdAt w p s cs 1 2 3 4 iu 6 f ed tr mf (dnP P) (dnP U) gf
  M:MdAt w p s cs 11 8 7 9 iu' f ed tr mf (dnM P) (dnM U)
  hd:ChD w p s cs (ldZ iu iu' ++ Y) f P
  hu:ChU w p s cs (ldZ iu iu' ++ Y) f U
  hf:hOk f
  hg:∀ t,D.flat 60 (gf t) = true
  hY:∀ y ∈ Y,y < cs.length
  ne:iu ∉ [11,8,7,9,iu'] ∧ iu' ∉ [1,2,3,4,6]
/-- others' cells change -/
theorem DlA.fr {w p s:Int} {cs cs':List D} {Y Y' S:List Nat} {f:Ht} {ed tr:Int} {mf:Ht} {P U:List HsE} {gf:Tr → D} {iu iu':Nat} (A:DlA w p s cs Y f ed tr mf P U gf iu iu') (h:∀ (j:Nat) (x:D),j ∉ S → cs[j]? = some x → cs'[j]? = some x) (hS:∀ j ∈ S,j ∈ Y) (hZ:∀ j ∈ ldZ iu iu',j ∉ S) (hY':∀ y ∈ Y',(y ∈ Y ∨ cs.length ≤ y) ∧ y < cs'.length) : DlA w p s cs' Y' f ed tr mf P U gf iu iu':=by
  have key:∀ j,j ∉ ldZ iu iu' ++ Y → j < cs.length → j ∉ S ∧ j ∉ ldZ iu iu' ++ Y':=fun j hj hl=>⟨fun z=>hj (List.mem_append_right _ (hS j z)),fun z=>hj ((List.mem_append.mp z).elim (List.mem_append_left _) fun z=>((hY' j z).1).elim (List.mem_append_right _) fun q=>by omega)⟩
  exact ⟨A.L.fr h fun j hj=>hZ j (by
    simp only [List.mem_cons,List.not_mem_nil,or_false] at hj ⊢
    omega),A.M.fr h fun j hj=>hZ j (by
    simp only [List.mem_cons,List.not_mem_nil,or_false] at hj ⊢
    omega),A.hd.fr h key,A.hu.fr h key,A.hf,A.hg,fun y hy=>(hY' y hy).2,A.ne⟩
structure NewW (W:List I2) (gb:I2 → I2) (K:List I2) (gk gb':I2 → I2) (K':List I2) (gk':I2 → I2) : Prop where
  b:∀ a,(gb a).2 ≤ (gb' a).2
  k:∀ a ∈ W,a ∈ K → a ∈ K'
  g:∀ a ∈ W,a ∈ K → (gk a).2 ≤ (gk' a).2
theorem NewW.trans {W:List I2} {gb gk gb' gk' gb'' gk'':I2 → I2} {K K' K'':List I2} (h:NewW W gb K gk gb' K' gk') (h':NewW W gb' K' gk' gb'' K'' gk'') : NewW W gb K gk gb'' K'' gk'':=
  ⟨fun a=>Int.le_trans (h.b a) (h'.b a),fun a w z=>h'.k a w (h.k a w z),fun a w z=>Int.le_trans (h.g a w z) (h'.g a w (h.k a w z))⟩
theorem eq_bx (a:Vbx) : D.eq (bxD a) (bxD a) = true:=by
  unfold bxD pD
  simp [D.eq,D.eqs]
theorem flat_bx (n:Nat) : ∀ L:List Vbx,D.flats (n + 3) (L.map bxD) = true
  | []=>rfl
  | a :: L=>by
    show (D.flat (n + 3) (bxD a) && D.flats (n + 3) (L.map bxD)) = true
    rw [flat_bx n L]
    rfl
theorem dEq_bx (L:List Vbx) : dEq (.lst (L.map bxD)) (.lst (L.map bxD)) = some true:=by
  have h1:D.flat 60 (.lst (L.map bxD)) = true:=flat_bx 56 L
  unfold dEq
  rw [h1]
  show some (D.eqs (L.map bxD) (L.map bxD)) = _
  rw [eqs_self bxD eq_bx]
theorem pl_bxn:∀ L:List Vbx,plDs (L.map fun b=>bxD (vbn b)) = true
  | []=>rfl
  | a :: L=>by
    show (plD (bxD (vbn a)) && plDs (L.map fun b=>bxD (vbn b))) = true
    rw [pl_bxn L]
    rfl
theorem pl_spot (e:Option I2) : plD (spotD e) = true:=by cases e <;> rfl
theorem lendV {P E T E2:D} {L:List D} (h1:plD P = true) (h2:plD E = true) : lendB [.ob "View" [],.fr,.fr,.xl,.fr] 3 [some (.obj "View" ["tolerance", "eye"] [P,E]),some T,some E2,some (ownL L),none] [some (.obj "View" ["tolerance", "eye"] [P,E]),some T,some E2,some (.lst L),none] = some [some (.obj "View" ["tolerance", "eye"] [P,E]),some T,some E2,some (ownL L),none]:=by
  have h:plDs [P,E] = true:=by
    show (plD P && (plD E && true)) = true
    rw [h1,h2]
    rfl
  have e0:lendS false (.ob "View" []) (some (.obj "View" ["tolerance", "eye"] [P,E])) (some (.obj "View" ["tolerance", "eye"] [P,E])) = some (some (.obj "View" ["tolerance", "eye"] [P,E])):=by
    show (if plDs [P,E] = true then some (some (D.obj "View" ["tolerance", "eye"] [P,E])) else none) = _
    rw [if_pos h]
  show (match lendS false (.ob "View" []) (some (.obj "View" ["tolerance", "eye"] [P,E])) (some (.obj "View" ["tolerance", "eye"] [P,E])),some [some T,some E2,some (ownL L),none] with
    | some z,some r=>some (z :: r)
    | _,_=>none) = _
  rw [e0]
theorem q_vinitO {g:Sg} (h:gOk g) (hl:g.bx.length < 16000000) : f_View_init__o [.obj "View" [] [],pD g.top,spotD g.eye,ownL (g.bx.map bxD)] = .ok .non [some (qV g),none,none,some (ownL (g.bx.map bxD))]:=by
  have hT:=q_asshareP (a:=g.top) h.top.1.1
  refine run_eq f_View_init__o_eq (by conv=>lhs; simp) ?_
  refine nx_step rfl (fO_new (i:=0) (f:= "tolerance") (c:= "View") (ns:=[]) (ds:=[]) (d:=pD g.top) (s1:=[some (.obj "View" [] []),some (pD g.top),some (spotD g.eye),some (ownL (g.bx.map bxD)),none]) (by
    generalize spotD g.eye = E at *
    generalize pD g.top = P at *
    generalize D.obj "View" [] [] = O at *
    generalize ownL (g.bx.map bxD) = OB at *
    simp [sSeq,sSet,sRet,sRetN,sExp,sIf,sNil,sAsg,sPar,mVar,mK,mOp,mUn,mTst_e,tstK,mAnd,mOr,mNot,mAndV_e,andK,mOrV_e,orK,mNotV_e,notK,mIf,mEq,mNe,dEq_int,dEq_bl,mIsN,mCons,mNil,mTup,mLst,mMov,mCall,bAbs,mIsi,isT,D.isDct,mCallF_e,callK,callO,callR,fill,puts,mOwnA,gN,gT,gC,gE,SO.opt,dAdd,dSub,dLt,dLe,dGt,dGe,dNeg,mChain_e,chK,mTru,mSeqI_q,mKeysI_q,mFld_q,mMeth_q,mMake_q,mkR_err,clr_ok,clr_err,mIsiC_q,mLenM_q,mSlice_q,sTryRow_q,tryR_nx,tryR_err,mNewL,mCat,mInD,mInDN,mInB,sRaise,mVarX_q,varR,unX_own,unX_lst,unX_non,unX_tup,mLenX_q,itX_own,itX_lst,mIxX_q,atX_int,sAppX_q,appR_some,sInsX_q,insR_some,sSetXO_q,setR_some,lstOf_lst,ownOf_own,mOrT_e,orT,  mRng,msk,ix2_0,ix2_1,ix3_0,ix3_1,ix3_2,mDNew,mMov,SO.opt,qP_x,qP_y,qPl_w,qPl_p,qPl_s,qP_in,qP_eq,qP_inD,qL_len,qTs_len,qL_one,qL_nil,qL_two,qL_map,qTs_map,qL_seq,qTs_seq,qS_keys,qL_sorted,qL_list,qTs_list,qP_non,qL_non,qM_non,qM_obj,qM_isO,qM_isi,qM_plan,qM_there,qM_parts,qM_cut,qM_mend,qM_cuts,qM_tris,qP_mk,qL_s1,qL_s0,qZ_lst,qZ_tup,qM_mk,qN_non,qN_bl,qN_int,qN_str,qN_tup,qN_lst,qB_lst,qB_tup,qL_unX,qL_itX,qL_lstOf,qTs_unX,qTs_itX,qTs_lstOf,qTr_bl,qTr_non,qTr_int,qTr_tup,qTr_lst,qTr_qL,hT]) rfl (by decide) (by decide)) ?_
  refine nx_step rfl (fO_new (i:=0) (f:= "eye") (c:= "View") (ns:=["tolerance"]) (ds:=[pD g.top]) (d:=spotD g.eye) (s1:=[some (.obj "View" ["tolerance"] [pD g.top]),some (pD g.top),some (spotD g.eye),some (ownL (g.bx.map bxD)),none]) rfl rfl (by decide) (by decide)) ?_
  have eb:∀ b ∈ g.bx,f_as_box [bxD b] = .ok (bxD (vbn b)) [none]:=fun b hb=>q_asbox (h.bx b hb).1.1
  have ec:mComp (mSeqE (mVar 3)) (gN 4) mYes (mCallF f_as_box [none] [] (mCons (mVar 4) mNil)) [4] [some (.obj "View" ["tolerance", "eye"] [pD g.top,spotD g.eye]),some (pD g.top),some (spotD g.eye),some (.lst (g.bx.map bxD)),none] = .ok (.lst (g.bx.map fun b=>bxD (vbn b))) [some (.obj "View" ["tolerance", "eye"] [pD g.top,spotD g.eye]),some (pD g.top),some (spotD g.eye),some (.lst (g.bx.map bxD)),none]:=by
    generalize D.obj "View" ["tolerance", "eye"] [pD g.top,spotD g.eye] = O at *
    generalize spotD g.eye = E at *
    generalize pD g.top = P at *
    have ec:=comp_q (mi:=mSeqE (mVar 3)) (i:=4) (c:=mYes) (e:=mCallF f_as_box [none] [] (mCons (mVar 4) mNil)) (s:=[some O,some P,some E,some (.lst (g.bx.map bxD)),none]) (s0:=[some O,some P,some E,some (.lst (g.bx.map bxD)),none]) g.bx bxD (fun _=>true) (fun b=>bxD (vbn b)) rfl rfl (fun b hb=>rfl) (fun b hb _=>⟨some (bxD b),by
      have e:=eb b hb
      show mCallF f_as_box [none] [] (mCons (mVar 4) mNil) [some O,some P,some E,some (.lst (g.bx.map bxD)),some (bxD b)] = _
      generalize D.lst (g.bx.map bxD) = LB at *
      generalize bxD b = B at *
      simp [sSeq,sSet,sRet,sRetN,sExp,sIf,sNil,sAsg,sPar,mVar,mK,mOp,mUn,mTst_e,tstK,mAnd,mOr,mNot,mAndV_e,andK,mOrV_e,orK,mNotV_e,notK,mIf,mEq,mNe,dEq_int,dEq_bl,mIsN,mCons,mNil,mTup,mLst,mMov,mCall,bAbs,mIsi,isT,D.isDct,mCallF_e,callK,callO,callR,fill,puts,mOwnA,gN,gT,gC,gE,SO.opt,dAdd,dSub,dLt,dLe,dGt,dGe,dNeg,mChain_e,chK,mTru,mSeqI_q,mKeysI_q,mFld_q,mMeth_q,mMake_q,mkR_err,clr_ok,clr_err,mIsiC_q,mLenM_q,mSlice_q,sTryRow_q,tryR_nx,tryR_err,mNewL,mCat,mInD,mInDN,mInB,sRaise,mVarX_q,varR,unX_own,unX_lst,unX_non,unX_tup,mLenX_q,itX_own,itX_lst,mIxX_q,atX_int,sAppX_q,appR_some,sInsX_q,insR_some,sSetXO_q,setR_some,lstOf_lst,ownOf_own,mOrT_e,orT,  mRng,msk,ix2_0,ix2_1,ix3_0,ix3_1,ix3_2,mDNew,mMov,SO.opt,qP_x,qP_y,qPl_w,qPl_p,qPl_s,qP_in,qP_eq,qP_inD,qL_len,qTs_len,qL_one,qL_nil,qL_two,qL_map,qTs_map,qL_seq,qTs_seq,qS_keys,qL_sorted,qL_list,qTs_list,qP_non,qL_non,qM_non,qM_obj,qM_isO,qM_isi,qM_plan,qM_there,qM_parts,qM_cut,qM_mend,qM_cuts,qM_tris,qP_mk,qL_s1,qL_s0,qZ_lst,qZ_tup,qM_mk,qN_non,qN_bl,qN_int,qN_str,qN_tup,qN_lst,qB_lst,qB_tup,qL_unX,qL_itX,qL_lstOf,qTs_unX,qTs_itX,qTs_lstOf,qTr_bl,qTr_non,qTr_int,qTr_tup,qTr_lst,qTr_qL,e]⟩) hl
    rw [ec,filter_yes]
  refine nx_is (fO_new (i:=0) (f:= "boxes") (c:= "View") (ns:=["tolerance", "eye"]) (ds:=[pD g.top,spotD g.eye]) (d:=.lst (g.bx.map fun b=>bxD (vbn b))) (s1:=[some (.obj "View" ["tolerance", "eye"] [pD g.top,spotD g.eye]),some (pD g.top),some (spotD g.eye),some (ownL (g.bx.map bxD)),none]) (mLend_is (ds:=g.bx.map bxD) (s2:=[some (.obj "View" ["tolerance", "eye"] [pD g.top,spotD g.eye]),some (pD g.top),some (spotD g.eye),some (.lst (g.bx.map bxD)),none]) rfl ec (lendV rfl (pl_spot _)) (pl_bxn _)) rfl (by decide) (by decide)) ?_
  rfl
theorem q_holds {g:Sg} (h:gOk g) {L:List Tr} (hL:∀ t ∈ L,t.small) : f_lw_holds [qV g,sgD g,.lst (L.map qT)] = .ok (.bl true) [none,none,none]:=by
  have s1:=same_refl 8 (pD g.top) rfl
  have s2:=same_refl 8 (spotD g.eye) (by cases g.eye <;> rfl)
  have t1:=qV_tol g
  have t2:=qV_eye g
  have x0:dIx (sgD g) (.int 0) = some (pD g.top):=rfl
  have x1:dIx (sgD g) (.int 1) = some (spotD g.eye):=rfl
  have li:=fun t=>q_limit h t
  have ll:=fun t=>q_llimit h t
  have fa:=fun {t:Tr} (ht:t.small)=>q_far h ht
  have lf:=fun {t:Tr} (ht:t.small)=>q_lfar h ht
  have m1:=qV_isM g "limit"
  have m2:=qV_isM g "far"
  have sS:=fun a:Int × Int=>same_refl 8 (pD a) rfl
  have sI:=fun a:Int=>same_refl 8 (.int a) rfl
  refine run_eq f_lw_holds_eq (by conv=>lhs; simp) ?_
  generalize qV g = VV at *
  generalize sgD g = SD at *
  generalize pD g.top = PT at *
  generalize spotD g.eye = PE at *
  have hz:seqI (.lst (L.map qT)) = some (L.map qT):=rfl
  refine nx_step rfl (s':=[some VV,some SD,some (.lst (L.map qT)),some (.bl true),none]) (by
    generalize D.lst (L.map qT) = LT at *
    simp [sSeq,sSet,sRet,sRetN,sExp,sIf,sNil,sAsg,sPar,mVar,mK,mOp,mUn,mTst_e,tstK,mAnd,mOr,mNot,mAndV_e,andK,mOrV_e,orK,mNotV_e,notK,mIf,mEq,mNe,dEq_int,dEq_bl,mIsN,mCons,mNil,mTup,mLst,mMov,mCall,bAbs,mIsi,isT,D.isDct,mCallF_e,callK,callO,callR,fill,puts,mOwnA,gN,gT,gC,gE,SO.opt,dAdd,dSub,dLt,dLe,dGt,dGe,dNeg,mChain_e,chK,mTru,mSeqI_q,mKeysI_q,mFld_q,mMeth_q,mMake_q,mkR_err,clr_ok,clr_err,mIsiC_q,mLenM_q,mSlice_q,sTryRow_q,tryR_nx,tryR_err,mNewL,mCat,mInD,mInDN,mInB,sRaise,mVarX_q,varR,unX_own,unX_lst,unX_non,unX_tup,mLenX_q,itX_own,itX_lst,mIxX_q,atX_int,sAppX_q,appR_some,sInsX_q,insR_some,sSetXO_q,setR_some,lstOf_lst,ownOf_own,mOrT_e,orT,  mRng,msk,ix2_0,ix2_1,ix3_0,ix3_1,ix3_2,mDNew,mMov,SO.opt,qP_x,qP_y,qPl_w,qPl_p,qPl_s,qP_in,qP_eq,qP_inD,qL_len,qTs_len,qL_one,qL_nil,qL_two,qL_map,qTs_map,qL_seq,qTs_seq,qS_keys,qL_sorted,qL_list,qTs_list,qP_non,qL_non,qM_non,qM_obj,qM_isO,qM_isi,qM_plan,qM_there,qM_parts,qM_cut,qM_mend,qM_cuts,qM_tris,qP_mk,qL_s1,qL_s0,qZ_lst,qZ_tup,qM_mk,qN_non,qN_bl,qN_int,qN_str,qN_tup,qN_lst,qB_lst,qB_tup,qL_unX,qL_itX,qL_lstOf,qTs_unX,qTs_itX,qTs_lstOf,qTr_bl,qTr_non,qTr_int,qTr_tup,qTr_lst,qTr_qL,t1,t2,x0,x1,s1,s2]) ?_
  refine for_step (ds:=L.map qT) (s0:=[some VV,some SD,some (.lst (L.map qT)),some (.bl true),none]) (fun rest st=>∃ (M:List Tr) (o4:Option D),(∀ t ∈ M,t.small) ∧ rest = M.map qT ∧ st = [some VV,some SD,some (.lst (L.map qT)),some (.bl true),o4]) rfl (by
    generalize hLT:D.lst (L.map qT) = LT at *
    simp [sSeq,sSet,sRet,sRetN,sExp,sIf,sNil,sAsg,sPar,mVar,mK,mOp,mUn,mTst_e,tstK,mAnd,mOr,mNot,mAndV_e,andK,mOrV_e,orK,mNotV_e,notK,mIf,mEq,mNe,dEq_int,dEq_bl,mIsN,mCons,mNil,mTup,mLst,mMov,mCall,bAbs,mIsi,isT,D.isDct,mCallF_e,callK,callO,callR,fill,puts,mOwnA,gN,gT,gC,gE,SO.opt,dAdd,dSub,dLt,dLe,dGt,dGe,dNeg,mChain_e,chK,mTru,mSeqI_q,mKeysI_q,mFld_q,mMeth_q,mMake_q,mkR_err,clr_ok,clr_err,mIsiC_q,mLenM_q,mSlice_q,sTryRow_q,tryR_nx,tryR_err,mNewL,mCat,mInD,mInDN,mInB,sRaise,mVarX_q,varR,unX_own,unX_lst,unX_non,unX_tup,mLenX_q,itX_own,itX_lst,mIxX_q,atX_int,sAppX_q,appR_some,sInsX_q,insR_some,sSetXO_q,setR_some,lstOf_lst,ownOf_own,mOrT_e,orT,  mRng,msk,ix2_0,ix2_1,ix3_0,ix3_1,ix3_2,mDNew,mMov,SO.opt,qP_x,qP_y,qPl_w,qPl_p,qPl_s,qP_in,qP_eq,qP_inD,qL_len,qTs_len,qL_one,qL_nil,qL_two,qL_map,qTs_map,qL_seq,qTs_seq,qS_keys,qL_sorted,qL_list,qTs_list,qP_non,qL_non,qM_non,qM_obj,qM_isO,qM_isi,qM_plan,qM_there,qM_parts,qM_cut,qM_mend,qM_cuts,qM_tris,qP_mk,qL_s1,qL_s0,qZ_lst,qZ_tup,qM_mk,qN_non,qN_bl,qN_int,qN_str,qN_tup,qN_lst,qB_lst,qB_tup,qL_unX,qL_itX,qL_lstOf,qTs_unX,qTs_itX,qTs_lstOf,qTr_bl,qTr_non,qTr_int,qTr_tup,qTr_lst,qTr_qL,hz]) ⟨L,none,hL,rfl,rfl⟩ (fun d rest st ⟨M,o4,hM,er,es⟩=>?_) fun st ⟨M,o4,hM,er,es⟩=>?_
  · cases M with
    | nil=>cases er
    | cons t M=>
      subst es
      have hd:=(List.cons.inj er).1
      have hr:=(List.cons.inj er).2
      subst hd
      refine ⟨[some VV,some SD,some (.lst (L.map qT)),some (.bl true),some (qT t)],rfl,?_⟩
      have ts:=hM t List.mem_cons_self
      have e1:=li t
      have e2:=ll t
      have e3:=fa ts
      have e4:=lf ts
      have e5:=sS (limS g t)
      have e6:=sI (farV g.eye t)
      refine nx_step rfl (s':=[some VV,some SD,some (.lst (L.map qT)),some (.bl true),some (qT t)]) (by
        generalize D.lst (L.map qT) = LT at *
        generalize qT t = TD at *
        generalize pD (limS g t) = PL at *
        simp [sSeq,sSet,sRet,sRetN,sExp,sIf,sNil,sAsg,sPar,mVar,mK,mOp,mUn,mTst_e,tstK,mAnd,mOr,mNot,mAndV_e,andK,mOrV_e,orK,mNotV_e,notK,mIf,mEq,mNe,dEq_int,dEq_bl,mIsN,mCons,mNil,mTup,mLst,mMov,mCall,bAbs,mIsi,isT,D.isDct,mCallF_e,callK,callO,callR,fill,puts,mOwnA,gN,gT,gC,gE,SO.opt,dAdd,dSub,dLt,dLe,dGt,dGe,dNeg,mChain_e,chK,mTru,mSeqI_q,mKeysI_q,mFld_q,mMeth_q,mMake_q,mkR_err,clr_ok,clr_err,mIsiC_q,mLenM_q,mSlice_q,sTryRow_q,tryR_nx,tryR_err,mNewL,mCat,mInD,mInDN,mInB,sRaise,mVarX_q,varR,unX_own,unX_lst,unX_non,unX_tup,mLenX_q,itX_own,itX_lst,mIxX_q,atX_int,sAppX_q,appR_some,sInsX_q,insR_some,sSetXO_q,setR_some,lstOf_lst,ownOf_own,mOrT_e,orT,  mRng,msk,ix2_0,ix2_1,ix3_0,ix3_1,ix3_2,mDNew,mMov,SO.opt,qP_x,qP_y,qPl_w,qPl_p,qPl_s,qP_in,qP_eq,qP_inD,qL_len,qTs_len,qL_one,qL_nil,qL_two,qL_map,qTs_map,qL_seq,qTs_seq,qS_keys,qL_sorted,qL_list,qTs_list,qP_non,qL_non,qM_non,qM_obj,qM_isO,qM_isi,qM_plan,qM_there,qM_parts,qM_cut,qM_mend,qM_cuts,qM_tris,qP_mk,qL_s1,qL_s0,qZ_lst,qZ_tup,qM_mk,qN_non,qN_bl,qN_int,qN_str,qN_tup,qN_lst,qB_lst,qB_tup,qL_unX,qL_itX,qL_lstOf,qTs_unX,qTs_itX,qTs_lstOf,qTr_bl,qTr_non,qTr_int,qTr_tup,qTr_lst,qTr_qL,m1,e1,e2,e5]) ?_
      refine nx_is (o:=.nx [some VV,some SD,some (.lst (L.map qT)),some (.bl true),some (qT t)]) (by
        generalize D.lst (L.map qT) = LT at *
        generalize qT t = TD at *
        generalize farV g.eye t = FV at *
        simp [sSeq,sSet,sRet,sRetN,sExp,sIf,sNil,sAsg,sPar,mVar,mK,mOp,mUn,mTst_e,tstK,mAnd,mOr,mNot,mAndV_e,andK,mOrV_e,orK,mNotV_e,notK,mIf,mEq,mNe,dEq_int,dEq_bl,mIsN,mCons,mNil,mTup,mLst,mMov,mCall,bAbs,mIsi,isT,D.isDct,mCallF_e,callK,callO,callR,fill,puts,mOwnA,gN,gT,gC,gE,SO.opt,dAdd,dSub,dLt,dLe,dGt,dGe,dNeg,mChain_e,chK,mTru,mSeqI_q,mKeysI_q,mFld_q,mMeth_q,mMake_q,mkR_err,clr_ok,clr_err,mIsiC_q,mLenM_q,mSlice_q,sTryRow_q,tryR_nx,tryR_err,mNewL,mCat,mInD,mInDN,mInB,sRaise,mVarX_q,varR,unX_own,unX_lst,unX_non,unX_tup,mLenX_q,itX_own,itX_lst,mIxX_q,atX_int,sAppX_q,appR_some,sInsX_q,insR_some,sSetXO_q,setR_some,lstOf_lst,ownOf_own,mOrT_e,orT,  mRng,msk,ix2_0,ix2_1,ix3_0,ix3_1,ix3_2,mDNew,mMov,SO.opt,qP_x,qP_y,qPl_w,qPl_p,qPl_s,qP_in,qP_eq,qP_inD,qL_len,qTs_len,qL_one,qL_nil,qL_two,qL_map,qTs_map,qL_seq,qTs_seq,qS_keys,qL_sorted,qL_list,qTs_list,qP_non,qL_non,qM_non,qM_obj,qM_isO,qM_isi,qM_plan,qM_there,qM_parts,qM_cut,qM_mend,qM_cuts,qM_tris,qP_mk,qL_s1,qL_s0,qZ_lst,qZ_tup,qM_mk,qN_non,qN_bl,qN_int,qN_str,qN_tup,qN_lst,qB_lst,qB_tup,qL_unX,qL_itX,qL_lstOf,qTs_unX,qTs_itX,qTs_lstOf,qTr_bl,qTr_non,qTr_int,qTr_tup,qTr_lst,qTr_qL,m_lw_holds_4,m_lw_holds_3,m_lw_holds_5,m_lw_holds_2,m_lw_holds,m2,e3,e4,e6]) ?_
      exact ⟨M,_,fun u hu=>hM u (List.mem_cons_of_mem _ hu),hr,rfl⟩
  · subst es
    generalize D.lst (L.map qT) = LT at *
    refine nx_is (by conv=>lhs; simp [sSeq,sSet,sRet,sRetN,sExp,sIf,sNil,sAsg,sPar,mVar,mK,mOp,mUn,mTst_e,tstK,mAnd,mOr,mNot,mAndV_e,andK,mOrV_e,orK,mNotV_e,notK,mIf,mEq,mNe,dEq_int,dEq_bl,mIsN,mCons,mNil,mTup,mLst,mMov,mCall,bAbs,mIsi,isT,D.isDct,mCallF_e,callK,callO,callR,fill,puts,mOwnA,gN,gT,gC,gE,SO.opt,dAdd,dSub,dLt,dLe,dGt,dGe,dNeg,mChain_e,chK,mTru,mSeqI_q,mKeysI_q,mFld_q,mMeth_q,mMake_q,mkR_err,clr_ok,clr_err,mIsiC_q,mLenM_q,mSlice_q,sTryRow_q,tryR_nx,tryR_err,mNewL,mCat,mInD,mInDN,mInB,sRaise,mVarX_q,varR,unX_own,unX_lst,unX_non,unX_tup,mLenX_q,itX_own,itX_lst,mIxX_q,atX_int,sAppX_q,appR_some,sInsX_q,insR_some,sSetXO_q,setR_some,lstOf_lst,ownOf_own,mOrT_e,orT,  mRng,msk,ix2_0,ix2_1,ix3_0,ix3_1,ix3_2,mDNew,mMov,SO.opt,qP_x,qP_y,qPl_w,qPl_p,qPl_s,qP_in,qP_eq,qP_inD,qL_len,qTs_len,qL_one,qL_nil,qL_two,qL_map,qTs_map,qL_seq,qTs_seq,qS_keys,qL_sorted,qL_list,qTs_list,qP_non,qL_non,qM_non,qM_obj,qM_isO,qM_isi,qM_plan,qM_there,qM_parts,qM_cut,qM_mend,qM_cuts,qM_tris,qP_mk,qL_s1,qL_s0,qZ_lst,qZ_tup,qM_mk,qN_non,qN_bl,qN_int,qN_str,qN_tup,qN_lst,qB_lst,qB_tup,qL_unX,qL_itX,qL_lstOf,qTs_unX,qTs_itX,qTs_lstOf,qTr_bl,qTr_non,qTr_int,qTr_tup,qTr_lst,qTr_qL,m_lw_holds_4,m_lw_holds_3,m_lw_holds_5,m_lw_holds_2,m_lw_holds]) ?_
    rfl
def lbx (L:List Vbx) : D:=.lst (L.map bxD)
def b8 (k:Int) : Vbx:=⟨k - 1,k - 1,k,k,(9 - k,1)⟩
def B8:List Vbx:=[b8 0,b8 1,b8 2,b8 3,b8 4,b8 5,b8 6,b8 7]
theorem lsts_bx:∀ Ls:List (List Vbx),lsts (Ls.map lbx) = some (Ls.map fun L=>L.map bxD)
  | []=>rfl
  | L :: Ls=>by
    show (lsts (Ls.map lbx)).map (L.map bxD :: ·) = _
    rw [lsts_bx Ls]
    rfl
theorem flat_lbx:∀ Ls:List (List Vbx),(Ls.map fun L=>L.map bxD).flatten = Ls.flatten.map bxD
  | []=>rfl
  | L :: Ls=>by rw [List.map_cons,List.flatten_cons,flat_lbx Ls,List.flatten_cons,List.map_append]
theorem len_flat {n:Nat} : ∀ {Ls:List (List Vbx)},(∀ L ∈ Ls,L.length ≤ n) → Ls.flatten.length ≤ Ls.length * n
  | [],_=>Nat.zero_le _
  | L :: Ls,h=>by
    have i1:=len_flat fun x hx=>h x (List.mem_cons_of_mem _ hx)
    have i2:=h L List.mem_cons_self
    rw [List.flatten_cons,List.length_append,List.length_cons,Nat.succ_mul]
    omega
theorem okT_b8:∀ b ∈ B8,okTt b.t:=fun b hb=>by
  have:∀ k:Int,0 ≤ k → k ≤ 7 → okTt (b8 k).t:=fun k h0 h1=>⟨⟨by show 0 ≤ 9 - k; omega,Nat.lt_of_le_of_lt (m:=9) (by show (9 - k).natAbs ≤ 9; omega) (by decide)⟩,by show (0:Int) < 1; decide,by show (1:Int).natAbs < 2 ^ 27; decide⟩
  simp only [B8,List.mem_cons,List.not_mem_nil,or_false] at hb
  rcases hb with rfl | rfl | rfl | rfl | rfl | rfl | rfl | rfl <;> exact this _ (by decide) (by decide)
theorem asbox_int:f_as_box [.tup [.int 0,.int 0,.int 99,.int 99,.int 3]] = .ok (bxD ⟨0,0,99,99,(3,1)⟩) [none]:=by
  have h:f_as_share [.int 3] = .ok (pD (3,1)) [none]:=q_asshareI (by decide)
  refine run_eq f_as_box_eq (by conv=>lhs; simp) ?_
  refine nx_step rfl (s':=[some (.tup [.int 0,.int 0,.int 99,.int 99,.int 3]),some (.lst [.int 0,.int 0,.int 99,.int 99]),some (.int 3),none,none,none,none]) (by rfl) ?_
  refine nx_step rfl (s':=[some (.tup [.int 0,.int 0,.int 99,.int 99,.int 3]),some (.lst [.int 0,.int 0,.int 99,.int 99]),some (.int 3),some (.int 0),some (.int 0),some (.int 99),some (.int 99)]) (by rfl) ?_
  have eb:bxD ⟨0,0,99,99,(3,1)⟩ = .tup [.int 0,.int 0,.int 99,.int 99,pD (3,1)]:=rfl
  rw [eb]
  generalize D.tup [.int 0,.int 0,.int 99,.int 99,.int 3] = BD at *
  generalize D.lst [.int 0,.int 0,.int 99,.int 99] = LL at *
  have p1:bPick2 mn2 [.int 0,.int 99] = some (.int 0):=rfl
  have p2:bPick2 mx2 [.int 0,.int 99] = some (.int 99):=rfl
  generalize pD (3,1) = PZ at *
  refine nx_is (by conv=>lhs; simp [sSeq,sSet,sRet,sRetN,sExp,sIf,sNil,sAsg,sPar,mVar,mK,mOp,mUn,mTst_e,tstK,mAnd,mOr,mNot,mAndV_e,andK,mOrV_e,orK,mNotV_e,notK,mIf,mEq,mNe,dEq_int,dEq_bl,mIsN,mCons,mNil,mTup,mLst,mMov,mCall,bAbs,mIsi,isT,D.isDct,mCallF_e,callK,callO,callR,fill,puts,mOwnA,gN,gT,gC,gE,SO.opt,dAdd,dSub,dLt,dLe,dGt,dGe,dNeg,mChain_e,chK,mTru,mSeqI_q,mKeysI_q,mFld_q,mMeth_q,mMake_q,mkR_err,clr_ok,clr_err,mIsiC_q,mLenM_q,mSlice_q,sTryRow_q,tryR_nx,tryR_err,mNewL,mCat,mInD,mInDN,mInB,sRaise,mVarX_q,varR,unX_own,unX_lst,unX_non,unX_tup,mLenX_q,itX_own,itX_lst,mIxX_q,atX_int,sAppX_q,appR_some,sInsX_q,insR_some,sSetXO_q,setR_some,lstOf_lst,ownOf_own,mOrT_e,orT,  mRng,msk,ix2_0,ix2_1,ix3_0,ix3_1,ix3_2,mDNew,mMov,SO.opt,qP_x,qP_y,qPl_w,qPl_p,qPl_s,qP_in,qP_eq,qP_inD,qL_len,qTs_len,qL_one,qL_nil,qL_two,qL_map,qTs_map,qL_seq,qTs_seq,qS_keys,qL_sorted,qL_list,qTs_list,qP_non,qL_non,qM_non,qM_obj,qM_isO,qM_isi,qM_plan,qM_there,qM_parts,qM_cut,qM_mend,qM_cuts,qM_tris,qP_mk,qL_s1,qL_s0,qZ_lst,qZ_tup,qM_mk,qN_non,qN_bl,qN_int,qN_str,qN_tup,qN_lst,qB_lst,qB_tup,qL_unX,qL_itX,qL_lstOf,qTs_unX,qTs_itX,qTs_lstOf,qTr_bl,qTr_non,qTr_int,qTr_tup,qTr_lst,qTr_qL,m_as_box_3,m_as_box_2,m_as_box,p1,p2,h]) ?_
  rfl
def gWh:Sg:=⟨(7,1),none,[⟨0,0,99,99,(3,1)⟩]⟩
theorem gWh_ok:gOk gWh:=⟨⟨⟨by decide,by decide⟩,by decide,by decide⟩,fun b hb=>by
  rw [List.mem_singleton.mp hb]
  exact ⟨⟨by decide,by decide⟩,by decide,by decide⟩,fun e he=>(by cases he)⟩
theorem vinit_wh:f_View_init [.obj "View" [] [],.int 7,.non,.lst [.tup [.int 0,.int 0,.int 99,.int 99,.int 3]]] = .ok .non [some (qV gWh),none,none,none]:=by
  have hT:f_as_share [.int 7] = .ok (pD (7,1)) [none]:=q_asshareI (by decide)
  have hb:=asbox_int
  refine run_eq f_View_init_eq (by conv=>lhs; simp) ?_
  generalize D.tup [.int 0,.int 0,.int 99,.int 99,.int 3] = BD at *
  refine nx_step rfl (fO_new (i:=0) (f:= "tolerance") (c:= "View") (ns:=[]) (ds:=[]) (d:=pD (7,1)) (s1:=[some (.obj "View" [] []),some (.int 7),some .non,some (.lst [BD]),none]) (by
    generalize pD (7,1) = P at *
    generalize D.obj "View" [] [] = O at *
    generalize D.lst [BD] = LB at *
    simp [sSeq,sSet,sRet,sRetN,sExp,sIf,sNil,sAsg,sPar,mVar,mK,mOp,mUn,mTst_e,tstK,mAnd,mOr,mNot,mAndV_e,andK,mOrV_e,orK,mNotV_e,notK,mIf,mEq,mNe,dEq_int,dEq_bl,mIsN,mCons,mNil,mTup,mLst,mMov,mCall,bAbs,mIsi,isT,D.isDct,mCallF_e,callK,callO,callR,fill,puts,mOwnA,gN,gT,gC,gE,SO.opt,dAdd,dSub,dLt,dLe,dGt,dGe,dNeg,mChain_e,chK,mTru,mSeqI_q,mKeysI_q,mFld_q,mMeth_q,mMake_q,mkR_err,clr_ok,clr_err,mIsiC_q,mLenM_q,mSlice_q,sTryRow_q,tryR_nx,tryR_err,mNewL,mCat,mInD,mInDN,mInB,sRaise,mVarX_q,varR,unX_own,unX_lst,unX_non,unX_tup,mLenX_q,itX_own,itX_lst,mIxX_q,atX_int,sAppX_q,appR_some,sInsX_q,insR_some,sSetXO_q,setR_some,lstOf_lst,ownOf_own,mOrT_e,orT,  mRng,msk,ix2_0,ix2_1,ix3_0,ix3_1,ix3_2,mDNew,mMov,SO.opt,qP_x,qP_y,qPl_w,qPl_p,qPl_s,qP_in,qP_eq,qP_inD,qL_len,qTs_len,qL_one,qL_nil,qL_two,qL_map,qTs_map,qL_seq,qTs_seq,qS_keys,qL_sorted,qL_list,qTs_list,qP_non,qL_non,qM_non,qM_obj,qM_isO,qM_isi,qM_plan,qM_there,qM_parts,qM_cut,qM_mend,qM_cuts,qM_tris,qP_mk,qL_s1,qL_s0,qZ_lst,qZ_tup,qM_mk,qN_non,qN_bl,qN_int,qN_str,qN_tup,qN_lst,qB_lst,qB_tup,qL_unX,qL_itX,qL_lstOf,qTs_unX,qTs_itX,qTs_lstOf,qTr_bl,qTr_non,qTr_int,qTr_tup,qTr_lst,qTr_qL,hT]) rfl (by decide) (by decide)) ?_
  refine nx_step rfl (fO_new (i:=0) (f:= "eye") (c:= "View") (ns:=["tolerance"]) (ds:=[pD (7,1)]) (d:=.non) (s1:=[some (.obj "View" ["tolerance"] [pD (7,1)]),some (.int 7),some .non,some (.lst [BD]),none]) rfl rfl (by decide) (by decide)) ?_
  have ec:mComp (mSeqE (mVar 3)) (gN 4) mYes (mCallF f_as_box [none] [] (mCons (mVar 4) mNil)) [4] [some (.obj "View" ["tolerance", "eye"] [pD (7,1),.non]),some (.int 7),some .non,some (.lst [BD]),none] = .ok (.lst [bxD ⟨0,0,99,99,(3,1)⟩]) [some (.obj "View" ["tolerance", "eye"] [pD (7,1),.non]),some (.int 7),some .non,some (.lst [BD]),none]:=by
    generalize D.obj "View" ["tolerance", "eye"] [pD (7,1),.non] = O at *
    generalize bxD ⟨0,0,99,99,(3,1)⟩ = XB at *
    have ec:=comp_q (mi:=mSeqE (mVar 3)) (i:=4) (c:=mYes) (e:=mCallF f_as_box [none] [] (mCons (mVar 4) mNil)) (s:=[some O,some (.int 7),some .non,some (.lst [BD]),none]) (s0:=[some O,some (.int 7),some .non,some (.lst [BD]),none]) [()] (fun _=>BD) (fun _=>true) (fun _=>XB) rfl rfl (fun b hb=>rfl) (fun b _ _=>⟨some BD,by
      show mCallF f_as_box [none] [] (mCons (mVar 4) mNil) [some O,some (.int 7),some .non,some (.lst [BD]),some BD] = _
      generalize D.lst [BD] = LB at *
      simp [sSeq,sSet,sRet,sRetN,sExp,sIf,sNil,sAsg,sPar,mVar,mK,mOp,mUn,mTst_e,tstK,mAnd,mOr,mNot,mAndV_e,andK,mOrV_e,orK,mNotV_e,notK,mIf,mEq,mNe,dEq_int,dEq_bl,mIsN,mCons,mNil,mTup,mLst,mMov,mCall,bAbs,mIsi,isT,D.isDct,mCallF_e,callK,callO,callR,fill,puts,mOwnA,gN,gT,gC,gE,SO.opt,dAdd,dSub,dLt,dLe,dGt,dGe,dNeg,mChain_e,chK,mTru,mSeqI_q,mKeysI_q,mFld_q,mMeth_q,mMake_q,mkR_err,clr_ok,clr_err,mIsiC_q,mLenM_q,mSlice_q,sTryRow_q,tryR_nx,tryR_err,mNewL,mCat,mInD,mInDN,mInB,sRaise,mVarX_q,varR,unX_own,unX_lst,unX_non,unX_tup,mLenX_q,itX_own,itX_lst,mIxX_q,atX_int,sAppX_q,appR_some,sInsX_q,insR_some,sSetXO_q,setR_some,lstOf_lst,ownOf_own,mOrT_e,orT,  mRng,msk,ix2_0,ix2_1,ix3_0,ix3_1,ix3_2,mDNew,mMov,SO.opt,qP_x,qP_y,qPl_w,qPl_p,qPl_s,qP_in,qP_eq,qP_inD,qL_len,qTs_len,qL_one,qL_nil,qL_two,qL_map,qTs_map,qL_seq,qTs_seq,qS_keys,qL_sorted,qL_list,qTs_list,qP_non,qL_non,qM_non,qM_obj,qM_isO,qM_isi,qM_plan,qM_there,qM_parts,qM_cut,qM_mend,qM_cuts,qM_tris,qP_mk,qL_s1,qL_s0,qZ_lst,qZ_tup,qM_mk,qN_non,qN_bl,qN_int,qN_str,qN_tup,qN_lst,qB_lst,qB_tup,qL_unX,qL_itX,qL_lstOf,qTs_unX,qTs_itX,qTs_lstOf,qTr_bl,qTr_non,qTr_int,qTr_tup,qTr_lst,qTr_qL,hb]⟩) (by decide)
    rw [ec,filter_yes]
    rfl
  refine nx_is (fO_new (i:=0) (f:= "boxes") (c:= "View") (ns:=["tolerance", "eye"]) (ds:=[pD (7,1),.non]) (d:=.lst [bxD ⟨0,0,99,99,(3,1)⟩]) (s1:=[some (.obj "View" ["tolerance", "eye"] [pD (7,1),.non]),some (.int 7),some .non,some (.lst [BD]),none]) ec rfl (by decide) (by decide)) ?_
  rfl
theorem lim_wh {w p s:Int} (hP:Plan w p s) {t:Tr} (ht:t ∈ shp w p s) : limS gWh t = (3,1):=by
  have tn:=tin hP ht
  have g1:=plcI_mem.mp tn.one
  have g2:=plcI_mem.mp tn.two
  have g3:=plcI_mem.mp tn.three
  simp only [] at g1 g2 g3
  have b1:=tn.sm
  have hc:tch (vbn ⟨0,0,99,99,(3,1)⟩) t = true:=by
    have e1:(vbn ⟨0,0,99,99,(3,1)⟩) = ⟨0,0,99,99,(3,1)⟩:=rfl
    rw [e1]
    unfold tch
    simp only [Bool.and_eq_true,decide_eq_true_eq]
    have hw:=hP.w
    have hp:=hP.p
    have hs:=hP.s
    have ws:w * s ≤ 24 ∧ p * s ≤ 24:=by
      have hw:w = 1 ∨ w = 2 ∨ w = 3:=by omega
      have hp:p = 1 ∨ p = 2 ∨ p = 3:=by omega
      rcases hw with rfl | rfl | rfl <;> rcases hp with rfl | rfl | rfl <;> rcases hs with rfl | rfl | rfl <;> decide
    omega
  unfold limS limB
  simp [gWh,limB,limN,hc]
theorem plain_law (ns:List Int) (hl:ns.length ≤ 63) : ∃ s',m_law (none :: some (bagD ns 0 7) :: List.replicate 9 none) = .rt (.bl true) s':=by
  show Hs (fun o=>∃ s',o = .rt (.bl true) s') (m_law [none,some (bagD ns 0 7),none,none,none,none,none,none,none,none,none])
  obtain ⟨w,p,s,b1,e1,hM,hP,hb1⟩:=q_planM (b:=bagD ns 0 7) ⟨ns,0,7,rfl,hl⟩
  generalize bagD ns 0 7 = b0 at *
  obtain ⟨g,b2,e2,hb2,hg⟩:=q_lsight hb1 (qPl w p s)
  have sh_:=fun {b:D} (hb:IsBag b)=>q_lshape hP hb
  have si_:=fun {b:D} (hb:IsBag b)=>q_lsight hb (qPl w p s)
  have lim_:=fun {t:Tr} (ht:t ∈ shp w p s)=>lim_wh hP ht
  have small:∀ t ∈ shp w p s,t.small:=fun t ht=>(tin hP ht).sm
  generalize qPl w p s = PL at *
  refine nx_step rfl (s':=[none,some b1,some PL,none,none,none,none,none,none,none,none]) (by simp [sSeq,sSet,sRet,sRetN,sExp,sIf,sNil,sAsg,sPar,mVar,mK,mOp,mUn,mTst_e,tstK,mAnd,mOr,mNot,mAndV_e,andK,mOrV_e,orK,mNotV_e,notK,mIf,mEq,mNe,dEq_int,dEq_bl,mIsN,mCons,mNil,mTup,mLst,mMov,mCall,bAbs,mIsi,isT,D.isDct,mCallF_e,callK,callO,callR,fill,puts,mOwnA,gN,gT,gC,gE,SO.opt,dAdd,dSub,dLt,dLe,dGt,dGe,dNeg,mChain_e,chK,mTru,mSeqI_q,mKeysI_q,mFld_q,mMeth_q,mMake_q,mkR_err,clr_ok,clr_err,mIsiC_q,mLenM_q,mSlice_q,sTryRow_q,tryR_nx,tryR_err,mNewL,mCat,mInD,mInDN,mInB,sRaise,mVarX_q,varR,unX_own,unX_lst,unX_non,unX_tup,mLenX_q,itX_own,itX_lst,mIxX_q,atX_int,sAppX_q,appR_some,sInsX_q,insR_some,sSetXO_q,setR_some,lstOf_lst,ownOf_own,mOrT_e,orT,  mRng,msk,ix2_0,ix2_1,ix3_0,ix3_1,ix3_2,mDNew,mMov,SO.opt,qP_x,qP_y,qPl_w,qPl_p,qPl_s,qP_in,qP_eq,qP_inD,qL_len,qTs_len,qL_one,qL_nil,qL_two,qL_map,qTs_map,qL_seq,qTs_seq,qS_keys,qL_sorted,qL_list,qTs_list,qP_non,qL_non,qM_non,qM_obj,qM_isO,qM_isi,qM_plan,qM_there,qM_parts,qM_cut,qM_mend,qM_cuts,qM_tris,qP_mk,qL_s1,qL_s0,qZ_lst,qZ_tup,qM_mk,qN_non,qN_bl,qN_int,qN_str,qN_tup,qN_lst,qB_lst,qB_tup,qL_unX,qL_itX,qL_lstOf,qTs_unX,qTs_itX,qTs_lstOf,qTr_bl,qTr_non,qTr_int,qTr_tup,qTr_lst,qTr_qL,e1]) ?_
  refine nx_step rfl (s':=[none,some b2,some PL,some (sgD g),none,none,none,none,none,none,none]) (by simp [sSeq,sSet,sRet,sRetN,sExp,sIf,sNil,sAsg,sPar,mVar,mK,mOp,mUn,mTst_e,tstK,mAnd,mOr,mNot,mAndV_e,andK,mOrV_e,orK,mNotV_e,notK,mIf,mEq,mNe,dEq_int,dEq_bl,mIsN,mCons,mNil,mTup,mLst,mMov,mCall,bAbs,mIsi,isT,D.isDct,mCallF_e,callK,callO,callR,fill,puts,mOwnA,gN,gT,gC,gE,SO.opt,dAdd,dSub,dLt,dLe,dGt,dGe,dNeg,mChain_e,chK,mTru,mSeqI_q,mKeysI_q,mFld_q,mMeth_q,mMake_q,mkR_err,clr_ok,clr_err,mIsiC_q,mLenM_q,mSlice_q,sTryRow_q,tryR_nx,tryR_err,mNewL,mCat,mInD,mInDN,mInB,sRaise,mVarX_q,varR,unX_own,unX_lst,unX_non,unX_tup,mLenX_q,itX_own,itX_lst,mIxX_q,atX_int,sAppX_q,appR_some,sInsX_q,insR_some,sSetXO_q,setR_some,lstOf_lst,ownOf_own,mOrT_e,orT,  mRng,msk,ix2_0,ix2_1,ix3_0,ix3_1,ix3_2,mDNew,mMov,SO.opt,qP_x,qP_y,qPl_w,qPl_p,qPl_s,qP_in,qP_eq,qP_inD,qL_len,qTs_len,qL_one,qL_nil,qL_two,qL_map,qTs_map,qL_seq,qTs_seq,qS_keys,qL_sorted,qL_list,qTs_list,qP_non,qL_non,qM_non,qM_obj,qM_isO,qM_isi,qM_plan,qM_there,qM_parts,qM_cut,qM_mend,qM_cuts,qM_tris,qP_mk,qL_s1,qL_s0,qZ_lst,qZ_tup,qM_mk,qN_non,qN_bl,qN_int,qN_str,qN_tup,qN_lst,qB_lst,qB_tup,qL_unX,qL_itX,qL_lstOf,qTs_unX,qTs_itX,qTs_lstOf,qTr_bl,qTr_non,qTr_int,qTr_tup,qTr_lst,qTr_qL,e2]) ?_
  obtain ⟨L,st3,e3,⟨b3,hb3,es3⟩,hL,lenL⟩:=compY_ev (mi:=mRng bRng1 (mCons (mK (.int 6)) mNil)) (g:=gN 5) (e:=mCallF f_lw_shape [some 1,none] [] (mOwnA 1 (mCons (mVar 2) mNil))) (vs:=[5]) (q:=qT) (s:=[none,some b2,some PL,some (sgD g),none,none,none,none,none,none,none]) (s1:=[none,some b2,some PL,some (sgD g),none,none,none,none,none,none,none]) (ds:=rng 0 6) (fun st=>∃ bb:D,IsBag bb ∧ st = [none,some bb,some PL,some (sgD g),none,none,none,none,none,none,none]) (fun t=>t ∈ shp w p s) rfl ⟨b2,hb2,rfl⟩ (fun d hd st ⟨bb,hbb,es⟩=>by
    subst es
    obtain ⟨t,b4,ht,e4,hb4⟩:=sh_ hbb
    refine ⟨_,t,[none,some b4,some PL,some (sgD g),none,some d,none,none,none,none,none],rfl,?_,ht,b4,hb4,rfl⟩
    generalize sgD g = SD at *
    generalize qT t = TD at *
    simp [sSeq,sSet,sRet,sRetN,sExp,sIf,sNil,sAsg,sPar,mVar,mK,mOp,mUn,mTst_e,tstK,mAnd,mOr,mNot,mAndV_e,andK,mOrV_e,orK,mNotV_e,notK,mIf,mEq,mNe,dEq_int,dEq_bl,mIsN,mCons,mNil,mTup,mLst,mMov,mCall,bAbs,mIsi,isT,D.isDct,mCallF_e,callK,callO,callR,fill,puts,mOwnA,gN,gT,gC,gE,SO.opt,dAdd,dSub,dLt,dLe,dGt,dGe,dNeg,mChain_e,chK,mTru,mSeqI_q,mKeysI_q,mFld_q,mMeth_q,mMake_q,mkR_err,clr_ok,clr_err,mIsiC_q,mLenM_q,mSlice_q,sTryRow_q,tryR_nx,tryR_err,mNewL,mCat,mInD,mInDN,mInB,sRaise,mVarX_q,varR,unX_own,unX_lst,unX_non,unX_tup,mLenX_q,itX_own,itX_lst,mIxX_q,atX_int,sAppX_q,appR_some,sInsX_q,insR_some,sSetXO_q,setR_some,lstOf_lst,ownOf_own,mOrT_e,orT,  mRng,msk,ix2_0,ix2_1,ix3_0,ix3_1,ix3_2,mDNew,mMov,SO.opt,qP_x,qP_y,qPl_w,qPl_p,qPl_s,qP_in,qP_eq,qP_inD,qL_len,qTs_len,qL_one,qL_nil,qL_two,qL_map,qTs_map,qL_seq,qTs_seq,qS_keys,qL_sorted,qL_list,qTs_list,qP_non,qL_non,qM_non,qM_obj,qM_isO,qM_isi,qM_plan,qM_there,qM_parts,qM_cut,qM_mend,qM_cuts,qM_tris,qP_mk,qL_s1,qL_s0,qZ_lst,qZ_tup,qM_mk,qN_non,qN_bl,qN_int,qN_str,qN_tup,qN_lst,qB_lst,qB_tup,qL_unX,qL_itX,qL_lstOf,qTs_unX,qTs_itX,qTs_lstOf,qTr_bl,qTr_non,qTr_int,qTr_tup,qTr_lst,qTr_qL,e4]) (by rw [rng_len]; decide)
  subst es3
  rw [rng_len] at lenL
  have hs:=fun {g':Sg} (h:gOk g')=>q_holds h (L:=L) fun t ht=>small t (hL t ht)
  have lt0:∃ t0,t0 ∈ shp w p s ∧ dIx (.lst (L.map qT)) (.int 0) = some (qT t0):=by
    obtain ⟨t0,h1,h2⟩:=dIx_map (q:=qT) (L:=L) (r:=0) (by decide) (by rw [lenL]; decide)
    exact ⟨t0,hL t0 h1,h2⟩
  obtain ⟨t0,ht0,ix0⟩:=lt0
  refine nx_step rfl (s':=[none,some b3,some PL,some (sgD g),some (.lst (L.map qT)),none,none,none,none,none,none]) (by
    show ((mComp _ _ _ _ _ _).so fun d s1=>SO.nx (s1.set 4 (some d))) = _
    rw [e3]
    rfl) ?_
  clear e3 sh_
  generalize D.lst (L.map qT) = LT at *
  obtain ⟨b4,e4,hb4⟩:=q_lview hb3 hg
  have h1:=hs hg.ok
  refine nx_step rfl (s':=[none,some b4,some PL,some (sgD g),some LT,none,some (.bl true),none,none,none,none]) (by
    generalize sgD g = SD at *
    generalize qV g = VV at *
    simp [sSeq,sSet,sRet,sRetN,sExp,sIf,sNil,sAsg,sPar,mVar,mK,mOp,mUn,mTst_e,tstK,mAnd,mOr,mNot,mAndV_e,andK,mOrV_e,orK,mNotV_e,notK,mIf,mEq,mNe,dEq_int,dEq_bl,mIsN,mCons,mNil,mTup,mLst,mMov,mCall,bAbs,mIsi,isT,D.isDct,mCallF_e,callK,callO,callR,fill,puts,mOwnA,gN,gT,gC,gE,SO.opt,dAdd,dSub,dLt,dLe,dGt,dGe,dNeg,mChain_e,chK,mTru,mSeqI_q,mKeysI_q,mFld_q,mMeth_q,mMake_q,mkR_err,clr_ok,clr_err,mIsiC_q,mLenM_q,mSlice_q,sTryRow_q,tryR_nx,tryR_err,mNewL,mCat,mInD,mInDN,mInB,sRaise,mVarX_q,varR,unX_own,unX_lst,unX_non,unX_tup,mLenX_q,itX_own,itX_lst,mIxX_q,atX_int,sAppX_q,appR_some,sInsX_q,insR_some,sSetXO_q,setR_some,lstOf_lst,ownOf_own,mOrT_e,orT,  mRng,msk,ix2_0,ix2_1,ix3_0,ix3_1,ix3_2,mDNew,mMov,SO.opt,qP_x,qP_y,qPl_w,qPl_p,qPl_s,qP_in,qP_eq,qP_inD,qL_len,qTs_len,qL_one,qL_nil,qL_two,qL_map,qTs_map,qL_seq,qTs_seq,qS_keys,qL_sorted,qL_list,qTs_list,qP_non,qL_non,qM_non,qM_obj,qM_isO,qM_isi,qM_plan,qM_there,qM_parts,qM_cut,qM_mend,qM_cuts,qM_tris,qP_mk,qL_s1,qL_s0,qZ_lst,qZ_tup,qM_mk,qN_non,qN_bl,qN_int,qN_str,qN_tup,qN_lst,qB_lst,qB_tup,qL_unX,qL_itX,qL_lstOf,qTs_unX,qTs_itX,qTs_lstOf,qTr_bl,qTr_non,qTr_int,qTr_tup,qTr_lst,qTr_qL,e4,h1]) ?_
  have sg2:dIx (sgD g) (.int 2) = some (.lst (g.bx.map bxD)):=rfl
  have sg0:dIx (sgD g) (.int 0) = some (pD g.top):=rfl
  have sg1:dIx (sgD g) (.int 1) = some (spotD g.eye):=rfl
  have glen:=hg.len
  have vO:=q_vinitO hg.ok (by omega)
  have dl:dList (.lst (g.bx.map bxD)) = some (g.bx.map bxD):=rfl
  refine nx_step rfl (s':=[none,some b4,some PL,some (sgD g),some LT,none,some (.bl true),some (ownL (g.bx.map bxD)),none,none,none]) (by
    show ((mNewL dList (mOp dIx (mVar 3) (mK (.int 2))) [none,some b4,some PL,some (sgD g),some LT,none,some (.bl true),none,none,none,none]).so fun d s1=>match d with
      | .lst ds=>SO.nx (s1.set 7 (some (ownL ds)))
      | _=>.stuck) = _
    have e:mNewL dList (mOp dIx (mVar 3) (mK (.int 2))) [none,some b4,some PL,some (sgD g),some LT,none,some (.bl true),none,none,none,none] = .ok (.lst (g.bx.map bxD)) [none,some b4,some PL,some (sgD g),some LT,none,some (.bl true),none,none,none,none]:=by
      generalize sgD g = SD at *
      generalize hLB:D.lst (g.bx.map bxD) = LB at *
      simp [sSeq,sSet,sRet,sRetN,sExp,sIf,sNil,sAsg,sPar,mVar,mK,mOp,mUn,mTst_e,tstK,mAnd,mOr,mNot,mAndV_e,andK,mOrV_e,orK,mNotV_e,notK,mIf,mEq,mNe,dEq_int,dEq_bl,mIsN,mCons,mNil,mTup,mLst,mMov,mCall,bAbs,mIsi,isT,D.isDct,mCallF_e,callK,callO,callR,fill,puts,mOwnA,gN,gT,gC,gE,SO.opt,dAdd,dSub,dLt,dLe,dGt,dGe,dNeg,mChain_e,chK,mTru,mSeqI_q,mKeysI_q,mFld_q,mMeth_q,mMake_q,mkR_err,clr_ok,clr_err,mIsiC_q,mLenM_q,mSlice_q,sTryRow_q,tryR_nx,tryR_err,mNewL,mCat,mInD,mInDN,mInB,sRaise,mVarX_q,varR,unX_own,unX_lst,unX_non,unX_tup,mLenX_q,itX_own,itX_lst,mIxX_q,atX_int,sAppX_q,appR_some,sInsX_q,insR_some,sSetXO_q,setR_some,lstOf_lst,ownOf_own,mOrT_e,orT,  mRng,msk,ix2_0,ix2_1,ix3_0,ix3_1,ix3_2,mDNew,mMov,SO.opt,qP_x,qP_y,qPl_w,qPl_p,qPl_s,qP_in,qP_eq,qP_inD,qL_len,qTs_len,qL_one,qL_nil,qL_two,qL_map,qTs_map,qL_seq,qTs_seq,qS_keys,qL_sorted,qL_list,qTs_list,qP_non,qL_non,qM_non,qM_obj,qM_isO,qM_isi,qM_plan,qM_there,qM_parts,qM_cut,qM_mend,qM_cuts,qM_tris,qP_mk,qL_s1,qL_s0,qZ_lst,qZ_tup,qM_mk,qN_non,qN_bl,qN_int,qN_str,qN_tup,qN_lst,qB_lst,qB_tup,qL_unX,qL_itX,qL_lstOf,qTs_unX,qTs_itX,qTs_lstOf,qTr_bl,qTr_non,qTr_int,qTr_tup,qTr_lst,qTr_qL,mNewL,sg2,dl,hLB]
    rw [e]
    rfl) ?_
  refine nx_step rfl (s':=[none,some b4,some PL,some (sgD g),some LT,none,some (.bl true),some (ownL (g.bx.map bxD)),some (qV g),none,none]) (by
    show ((mMakeNO "View" f_View_init__o (fun us ws:List D=>(us.drop 0).take 1 ++ (ws.drop 0).take 1) 7 2 (mCons (mOp dIx (mVar 3) (mK (.int 0))) mNil) (mCons (mOp dIx (mVar 3) (mK (.int 1))) mNil) [none,some b4,some PL,some (sgD g),some LT,none,some (.bl true),some (ownL (g.bx.map bxD)),none,none,none]).so fun d s1=>SO.nx (s1.set 8 (some d))) = _
    have ea:mCons (mOp dIx (mVar 3) (mK (.int 0))) mNil [none,some b4,some PL,some (sgD g),some LT,none,some (.bl true),some (ownL (g.bx.map bxD)),none,none,none] = .ok [pD g.top] [none,some b4,some PL,some (sgD g),some LT,none,some (.bl true),some (ownL (g.bx.map bxD)),none,none,none]:=rfl
    have eb:mCons (mOp dIx (mVar 3) (mK (.int 1))) mNil [none,some b4,some PL,some (sgD g),some LT,none,some (.bl true),some (ownL (g.bx.map bxD)),none,none,none] = .ok [spotD g.eye] [none,some b4,some PL,some (sgD g),some LT,none,some (.bl true),some (ownL (g.bx.map bxD)),none,none,none]:=rfl
    have em:mMakeNO "View" f_View_init__o (fun us ws:List D=>(us.drop 0).take 1 ++ (ws.drop 0).take 1) 7 2 (mCons (mOp dIx (mVar 3) (mK (.int 0))) mNil) (mCons (mOp dIx (mVar 3) (mK (.int 1))) mNil) [none,some b4,some PL,some (sgD g),some LT,none,some (.bl true),some (ownL (g.bx.map bxD)),none,none,none] = .ok (qV g) [none,some b4,some PL,some (sgD g),some LT,none,some (.bl true),some (ownL (g.bx.map bxD)),none,none,none]:=by
      unfold mMakeNO
      rw [ea,R.bind_ok,eb,R.bind_ok]
      show madeO 7 2 [none,some b4,some PL,some (sgD g),some LT,none,some (.bl true),some (ownL (g.bx.map bxD)),none,none,none] (f_View_init__o [.obj "View" [] [],pD g.top,spotD g.eye,ownL (g.bx.map bxD)]) = _
      rw [vO]
      rfl
    rw [em]
    rfl) ?_
  have eql:=dEq_bx g.bx
  have lnd:mLend [.fr,.bag,.fr,.fr,.fr,.fr,.fr,.xl,.fr,.fr,.fr] 7 .xl .fr (mEq (mVar 7) (mOp dIx (mVar 3) (mK (.int 2)))) [none,some b4,some PL,some (sgD g),some LT,none,some (.bl true),some (ownL (g.bx.map bxD)),some (qV g),none,none] = .ok (.bl true) [none,some b4,some PL,some (sgD g),some LT,none,some (.bl true),some (ownL (g.bx.map bxD)),some (qV g),none,none]:=mLend_is (ds:=g.bx.map bxD) (s2:=[none,some b4,some PL,some (sgD g),some LT,none,some (.bl true),some (.lst (g.bx.map bxD)),some (qV g),none,none]) rfl (by
    show mEq (mVar 7) (mOp dIx (mVar 3) (mK (.int 2))) [none,some b4,some PL,some (sgD g),some LT,none,some (.bl true),some (.lst (g.bx.map bxD)),some (qV g),none,none] = _
    generalize sgD g = SD at *
    generalize D.lst (g.bx.map bxD) = LB at *
    generalize qV g = VV at *
    simp [sSeq,sSet,sRet,sRetN,sExp,sIf,sNil,sAsg,sPar,mVar,mK,mOp,mUn,mTst_e,tstK,mAnd,mOr,mNot,mAndV_e,andK,mOrV_e,orK,mNotV_e,notK,mIf,mEq,mNe,dEq_int,dEq_bl,mIsN,mCons,mNil,mTup,mLst,mMov,mCall,bAbs,mIsi,isT,D.isDct,mCallF_e,callK,callO,callR,fill,puts,mOwnA,gN,gT,gC,gE,SO.opt,dAdd,dSub,dLt,dLe,dGt,dGe,dNeg,mChain_e,chK,mTru,mSeqI_q,mKeysI_q,mFld_q,mMeth_q,mMake_q,mkR_err,clr_ok,clr_err,mIsiC_q,mLenM_q,mSlice_q,sTryRow_q,tryR_nx,tryR_err,mNewL,mCat,mInD,mInDN,mInB,sRaise,mVarX_q,varR,unX_own,unX_lst,unX_non,unX_tup,mLenX_q,itX_own,itX_lst,mIxX_q,atX_int,sAppX_q,appR_some,sInsX_q,insR_some,sSetXO_q,setR_some,lstOf_lst,ownOf_own,mOrT_e,orT,  mRng,msk,ix2_0,ix2_1,ix3_0,ix3_1,ix3_2,mDNew,mMov,SO.opt,qP_x,qP_y,qPl_w,qPl_p,qPl_s,qP_in,qP_eq,qP_inD,qL_len,qTs_len,qL_one,qL_nil,qL_two,qL_map,qTs_map,qL_seq,qTs_seq,qS_keys,qL_sorted,qL_list,qTs_list,qP_non,qL_non,qM_non,qM_obj,qM_isO,qM_isi,qM_plan,qM_there,qM_parts,qM_cut,qM_mend,qM_cuts,qM_tris,qP_mk,qL_s1,qL_s0,qZ_lst,qZ_tup,qM_mk,qN_non,qN_bl,qN_int,qN_str,qN_tup,qN_lst,qB_lst,qB_tup,qL_unX,qL_itX,qL_lstOf,qTs_unX,qTs_itX,qTs_lstOf,qTr_bl,qTr_non,qTr_int,qTr_tup,qTr_lst,qTr_qL,sg2,eql]) (by rfl) rfl
  have eAnd:mAndV (mVar 6) (mLend [.fr,.bag,.fr,.fr,.fr,.fr,.fr,.xl,.fr,.fr,.fr] 7 .xl .fr (mEq (mVar 7) (mOp dIx (mVar 3) (mK (.int 2))))) [none,some b4,some PL,some (sgD g),some LT,none,some (.bl true),some (ownL (g.bx.map bxD)),some (qV g),none,none] = .ok (.bl true) [none,some b4,some PL,some (sgD g),some LT,none,some (.bl true),some (ownL (g.bx.map bxD)),some (qV g),none,none]:=by
    rw [mAndV_e]
    show (R.ok (D.bl true) [none,some b4,some PL,some (sgD g),some LT,none,some (.bl true),some (ownL (g.bx.map bxD)),some (qV g),none,none]).bind (andK _) = _
    rw [R.bind_ok]
    exact lnd
  clear lnd
  refine nx_step rfl (s':=[none,some b4,some PL,some (sgD g),some LT,none,some (.bl true),some (ownL (g.bx.map bxD)),some (qV g),none,none]) (by
    show ((mAndV (mVar 6) (mLend _ _ _ _ _) _).so fun d s1=>SO.nx (s1.set 6 (some d))) = _
    rw [eAnd]
    rfl) ?_
  obtain ⟨XB,hXB⟩ : ∃ XB:D,XB = .tup [.int (0 - 9),.int (0 - 9),.int 99,.int 99,.tup [.int 0,.int 1]]:=⟨_,rfl⟩
  have la:(g.bx.map bxD).length < 16000000:=by rw [List.length_map]; omega
  refine nx_step rfl (s':=[none,some b4,some PL,some (sgD g),some LT,none,some (.bl true),some (ownL (g.bx.map bxD ++ [XB])),some (qV g),none,none]) (by
    rw [hXB]
    show (if (g.bx.map bxD).length < 16000000 then SO.nx _ else SO.stuck) = _
    rw [if_pos la]
    rfl) ?_
  obtain ⟨RV,hRV⟩ : ∃ RV:List D,RV = (g.bx.map bxD ++ [XB]).reverse:=⟨_,rfl⟩
  refine nx_step rfl (s':=[none,some b4,some PL,some (sgD g),some LT,none,some (.bl true),some (ownL RV),some (qV g),none,none]) (by
    rw [hRV]
    rfl) ?_
  refine nx_step rfl (s':=[none,some b4,some PL,some (sgD g),some LT,none,some (.bl true),some (ownL RV),some (qV g),none,none]) (by
    generalize sgD g = SD at *
    generalize qV g = VV at *
    generalize ownL RV = OV at *
    simp [sSeq,sSet,sRet,sRetN,sExp,sIf,sNil,sAsg,sPar,mVar,mK,mOp,mUn,mTst_e,tstK,mAnd,mOr,mNot,mAndV_e,andK,mOrV_e,orK,mNotV_e,notK,mIf,mEq,mNe,dEq_int,dEq_bl,mIsN,mCons,mNil,mTup,mLst,mMov,mCall,bAbs,mIsi,isT,D.isDct,mCallF_e,callK,callO,callR,fill,puts,mOwnA,gN,gT,gC,gE,SO.opt,dAdd,dSub,dLt,dLe,dGt,dGe,dNeg,mChain_e,chK,mTru,mSeqI_q,mKeysI_q,mFld_q,mMeth_q,mMake_q,mkR_err,clr_ok,clr_err,mIsiC_q,mLenM_q,mSlice_q,sTryRow_q,tryR_nx,tryR_err,mNewL,mCat,mInD,mInDN,mInB,sRaise,mVarX_q,varR,unX_own,unX_lst,unX_non,unX_tup,mLenX_q,itX_own,itX_lst,mIxX_q,atX_int,sAppX_q,appR_some,sInsX_q,insR_some,sSetXO_q,setR_some,lstOf_lst,ownOf_own,mOrT_e,orT,  mRng,msk,ix2_0,ix2_1,ix3_0,ix3_1,ix3_2,mDNew,mMov,SO.opt,qP_x,qP_y,qPl_w,qPl_p,qPl_s,qP_in,qP_eq,qP_inD,qL_len,qTs_len,qL_one,qL_nil,qL_two,qL_map,qTs_map,qL_seq,qTs_seq,qS_keys,qL_sorted,qL_list,qTs_list,qP_non,qL_non,qM_non,qM_obj,qM_isO,qM_isi,qM_plan,qM_there,qM_parts,qM_cut,qM_mend,qM_cuts,qM_tris,qP_mk,qL_s1,qL_s0,qZ_lst,qZ_tup,qM_mk,qN_non,qN_bl,qN_int,qN_str,qN_tup,qN_lst,qB_lst,qB_tup,qL_unX,qL_itX,qL_lstOf,qTs_unX,qTs_itX,qTs_lstOf,qTr_bl,qTr_non,qTr_int,qTr_tup,qTr_lst,qTr_qL,h1]) ?_
  obtain ⟨Ls,st5,e5,⟨b5,hb5,es5⟩,hLs,lenLs⟩:=compY_ev (mi:=mRng bRng1 (mCons (mK (.int 5)) mNil)) (g:=gN 5) (e:=mOp dIx (mCallF f_lw_sight [some 1,none] [] (mOwnA 1 (mCons (mVar 2) mNil))) (mK (.int 2))) (vs:=[5]) (q:=lbx) (s:=[none,some b4,some PL,some (sgD g),some LT,none,some (.bl true),some (ownL RV),some (qV g),none,none]) (s1:=[none,some b4,some PL,some (sgD g),some LT,none,some (.bl true),some (ownL RV),some (qV g),none,none]) (ds:=rng 0 5) (fun st=>∃ bb:D,IsBag bb ∧ st = [none,some bb,some PL,some (sgD g),some LT,none,some (.bl true),some (ownL RV),some (qV g),none,none]) (fun M=>M.length ≤ 3 ∧ ∀ b ∈ M,okTt b.t) rfl ⟨b4,hb4,rfl⟩ (fun d hd st ⟨bb,hbb,es⟩=>by
    subst es
    obtain ⟨g2,b6,e6,hb6,hg2⟩:=si_ hbb
    have sg:dIx (sgD g2) (.int 2) = some (lbx g2.bx):=rfl
    refine ⟨_,g2.bx,[none,some b6,some PL,some (sgD g),some LT,some d,some (.bl true),some (ownL RV),some (qV g),none,none],rfl,?_,⟨hg2.len,hg2.ok.bx⟩,b6,hb6,rfl⟩
    generalize sgD g2 = SD2 at *
    generalize lbx g2.bx = LB2 at *
    generalize sgD g = SD at *
    generalize qV g = VV at *
    generalize ownL RV = OV at *
    simp [sSeq,sSet,sRet,sRetN,sExp,sIf,sNil,sAsg,sPar,mVar,mK,mOp,mUn,mTst_e,tstK,mAnd,mOr,mNot,mAndV_e,andK,mOrV_e,orK,mNotV_e,notK,mIf,mEq,mNe,dEq_int,dEq_bl,mIsN,mCons,mNil,mTup,mLst,mMov,mCall,bAbs,mIsi,isT,D.isDct,mCallF_e,callK,callO,callR,fill,puts,mOwnA,gN,gT,gC,gE,SO.opt,dAdd,dSub,dLt,dLe,dGt,dGe,dNeg,mChain_e,chK,mTru,mSeqI_q,mKeysI_q,mFld_q,mMeth_q,mMake_q,mkR_err,clr_ok,clr_err,mIsiC_q,mLenM_q,mSlice_q,sTryRow_q,tryR_nx,tryR_err,mNewL,mCat,mInD,mInDN,mInB,sRaise,mVarX_q,varR,unX_own,unX_lst,unX_non,unX_tup,mLenX_q,itX_own,itX_lst,mIxX_q,atX_int,sAppX_q,appR_some,sInsX_q,insR_some,sSetXO_q,setR_some,lstOf_lst,ownOf_own,mOrT_e,orT,  mRng,msk,ix2_0,ix2_1,ix3_0,ix3_1,ix3_2,mDNew,mMov,SO.opt,qP_x,qP_y,qPl_w,qPl_p,qPl_s,qP_in,qP_eq,qP_inD,qL_len,qTs_len,qL_one,qL_nil,qL_two,qL_map,qTs_map,qL_seq,qTs_seq,qS_keys,qL_sorted,qL_list,qTs_list,qP_non,qL_non,qM_non,qM_obj,qM_isO,qM_isi,qM_plan,qM_there,qM_parts,qM_cut,qM_mend,qM_cuts,qM_tris,qP_mk,qL_s1,qL_s0,qZ_lst,qZ_tup,qM_mk,qN_non,qN_bl,qN_int,qN_str,qN_tup,qN_lst,qB_lst,qB_tup,qL_unX,qL_itX,qL_lstOf,qTs_unX,qTs_itX,qTs_lstOf,qTr_bl,qTr_non,qTr_int,qTr_tup,qTr_lst,qTr_qL,e6,sg]) (by rw [rng_len]; decide)
  subst es5
  rw [rng_len] at lenLs
  refine nx_step rfl (s':=[none,some b5,some PL,some (sgD g),some LT,none,some (.bl true),some (ownL RV),some (qV g),some (.lst (Ls.map lbx)),none]) (by
    show ((mComp _ _ _ _ _ _).so fun d s1=>SO.nx (s1.set 9 (some d))) = _
    rw [e5]
    rfl) ?_
  clear e5 si_
  obtain ⟨BX,hBX⟩ : ∃ BX:List Vbx,BX = Ls.flatten:=⟨_,rfl⟩
  have lBX:BX.length ≤ 15:=by
    have:=len_flat (n:=3) (Ls:=Ls) fun M h=>(hLs M h).1
    rw [hBX]
    omega
  have okBX:∀ b ∈ BX,okTt b.t:=fun b hb=>by
    rw [hBX] at hb
    obtain ⟨M,hM1,hM2⟩:=List.mem_flatten.mp hb
    exact (hLs M hM1).2 b hM2
  have esum:bSumL [.lst (Ls.map lbx),.lst []] = some (BX.map bxD):=by
    cases Ls with
    | nil=>cases lenLs
    | cons M Ls=>
      show (lsts ((M :: Ls).map lbx)).bind _ = _
      rw [lsts_bx,Option.bind_some,flat_lbx,←hBX]
      exact if_pos (by rw [List.length_map]; omega)
  refine nx_step rfl (s':=[none,some b5,some PL,some (sgD g),some LT,none,some (.bl true),some (ownL RV),some (qV g),some (.lst (BX.map bxD)),none]) (by
    show ((R.opt ((bSumL [.lst (Ls.map lbx),.lst []]).map D.lst) [none,some b5,some PL,some (sgD g),some LT,none,some (.bl true),some (ownL RV),some (qV g),some (.lst (Ls.map lbx)),none]).so fun d s1=>SO.nx (s1.set 9 (some d))) = _
    rw [esum]
    rfl) ?_
  have ecat:dCat (.lst (BX.map bxD)) (.lst (B8.map bxD)) = some ((BX ++ B8).map bxD):=by
    show (if (BX.map bxD).length + (B8.map bxD).length < 16000000 then some (BX.map bxD ++ B8.map bxD) else none) = _
    rw [if_pos (by rw [List.length_map,List.length_map]; have:B8.length = 8:=rfl; omega),List.map_append]
  have ec8:mComp (mRng bRng1 (mCons (mK (.int 8)) mNil)) (gN 5) mYes (mTup (mCons (mOp dSub (mVar 5) (mK (.int 1))) (mCons (mOp dSub (mVar 5) (mK (.int 1))) (mCons (mVar 5) (mCons (mVar 5) (mCons (mTup (mCons (mOp dSub (mK (.int 9)) (mVar 5)) (mCons (mK (.int 1)) mNil))) mNil)))))) [5] [none,some b5,some PL,some (sgD g),some LT,none,some (.bl true),some (ownL RV),some (qV g),some (.lst (BX.map bxD)),none] = .ok (.lst (B8.map bxD)) [none,some b5,some PL,some (sgD g),some LT,none,some (.bl true),some (ownL RV),some (qV g),some (.lst (BX.map bxD)),none]:=by
    refine comp_a (s0:=[none,some b5,some PL,some (sgD g),some LT,none,some (.bl true),some (ownL RV),some (qV g),some (.lst (BX.map bxD)),none]) [(0:Int),1,2,3,4,5,6,7] D.int (fun k=>bxD (b8 k)) rfl rfl (fun k _=>⟨some (.int k),?_⟩) (by decide)
    show (mTup (mCons (mOp dSub (mVar 5) (mK (.int 1))) (mCons (mOp dSub (mVar 5) (mK (.int 1))) (mCons (mVar 5) (mCons (mVar 5) (mCons (mTup (mCons (mOp dSub (mK (.int 9)) (mVar 5)) (mCons (mK (.int 1)) mNil))) mNil)))))) [none,some b5,some PL,some (sgD g),some LT,some (.int k),some (.bl true),some (ownL RV),some (qV g),some (.lst (BX.map bxD)),none] = .ok (.tup [.int (k - 1),.int (k - 1),.int k,.int k,.tup [.int (9 - k),.int 1]]) [none,some b5,some PL,some (sgD g),some LT,some (.int k),some (.bl true),some (ownL RV),some (qV g),some (.lst (BX.map bxD)),none]
    generalize sgD g = SD at *
    generalize qV g = VV at *
    generalize ownL RV = OV at *
    generalize D.lst (BX.map bxD) = LB at *
    simp [sSeq,sSet,sRet,sRetN,sExp,sIf,sNil,sAsg,sPar,mVar,mK,mOp,mUn,mTst_e,tstK,mAnd,mOr,mNot,mAndV_e,andK,mOrV_e,orK,mNotV_e,notK,mIf,mEq,mNe,dEq_int,dEq_bl,mIsN,mCons,mNil,mTup,mLst,mMov,mCall,bAbs,mIsi,isT,D.isDct,mCallF_e,callK,callO,callR,fill,puts,mOwnA,gN,gT,gC,gE,SO.opt,dAdd,dSub,dLt,dLe,dGt,dGe,dNeg,mChain_e,chK,mTru,mSeqI_q,mKeysI_q,mFld_q,mMeth_q,mMake_q,mkR_err,clr_ok,clr_err,mIsiC_q,mLenM_q,mSlice_q,sTryRow_q,tryR_nx,tryR_err,mNewL,mCat,mInD,mInDN,mInB,sRaise,mVarX_q,varR,unX_own,unX_lst,unX_non,unX_tup,mLenX_q,itX_own,itX_lst,mIxX_q,atX_int,sAppX_q,appR_some,sInsX_q,insR_some,sSetXO_q,setR_some,lstOf_lst,ownOf_own,mOrT_e,orT,  mRng,msk,ix2_0,ix2_1,ix3_0,ix3_1,ix3_2,mDNew,mMov,SO.opt,qP_x,qP_y,qPl_w,qPl_p,qPl_s,qP_in,qP_eq,qP_inD,qL_len,qTs_len,qL_one,qL_nil,qL_two,qL_map,qTs_map,qL_seq,qTs_seq,qS_keys,qL_sorted,qL_list,qTs_list,qP_non,qL_non,qM_non,qM_obj,qM_isO,qM_isi,qM_plan,qM_there,qM_parts,qM_cut,qM_mend,qM_cuts,qM_tris,qP_mk,qL_s1,qL_s0,qZ_lst,qZ_tup,qM_mk,qN_non,qN_bl,qN_int,qN_str,qN_tup,qN_lst,qB_lst,qB_tup,qL_unX,qL_itX,qL_lstOf,qTs_unX,qTs_itX,qTs_lstOf,qTr_bl,qTr_non,qTr_int,qTr_tup,qTr_lst,qTr_qL]
  refine nx_step rfl (s':=[none,some b5,some PL,some (sgD g),some LT,none,some (.bl true),some (ownL RV),some (qV g),some (.lst ((BX ++ B8).map bxD)),none]) (by
    show ((mCat (mVar 9) (mComp _ _ _ _ _) [none,some b5,some PL,some (sgD g),some LT,none,some (.bl true),some (ownL RV),some (qV g),some (.lst (BX.map bxD)),none]).so fun d s1=>SO.nx (s1.set 9 (some d))) = _
    have em:mCat (mVar 9) (mComp (mRng bRng1 (mCons (mK (.int 8)) mNil)) (gN 5) mYes (mTup (mCons (mOp dSub (mVar 5) (mK (.int 1))) (mCons (mOp dSub (mVar 5) (mK (.int 1))) (mCons (mVar 5) (mCons (mVar 5) (mCons (mTup (mCons (mOp dSub (mK (.int 9)) (mVar 5)) (mCons (mK (.int 1)) mNil))) mNil)))))) [5]) [none,some b5,some PL,some (sgD g),some LT,none,some (.bl true),some (ownL RV),some (qV g),some (.lst (BX.map bxD)),none] = .ok (.lst ((BX ++ B8).map bxD)) [none,some b5,some PL,some (sgD g),some LT,none,some (.bl true),some (ownL RV),some (qV g),some (.lst (BX.map bxD)),none]:=by
      unfold mCat
      show ((R.ok (D.lst (BX.map bxD)) [none,some b5,some PL,some (sgD g),some LT,none,some (.bl true),some (ownL RV),some (qV g),some (.lst (BX.map bxD)),none]).bind _) = _
      rw [R.bind_ok,ec8,R.bind_ok,ecat]
      rfl
    rw [em]
    rfl) ?_
  clear ec8 ecat
  obtain ⟨g3,hg3⟩ : ∃ g3:Sg,g3 = ⟨g.top,g.eye,BX ++ B8⟩:=⟨_,rfl⟩
  have ok3:gOk g3:=by
    rw [hg3]
    exact ⟨hg.ok.top,fun b hb=>(List.mem_append.mp hb).elim (okBX b) (okT_b8 b),hg.ok.eye⟩
  have v3:f_View_init [.obj "View" [] [],pD g.top,spotD g.eye,.lst ((BX ++ B8).map bxD)] = .ok .non [some (qV g3),none,none,none]:=by
    have e:=q_vinit ok3 (by rw [hg3]; show (BX ++ B8).length < 16000000; rw [List.length_append]; have:B8.length = 8:=rfl; omega) (TD:=pD g3.top) (BD:=.lst (g3.bx.map bxD)) (q_asshareP ok3.top.1.1) rfl
    rw [hg3] at e ⊢
    exact e
  have s3:sgD g3 = .tup [pD g.top,spotD g.eye,.lst ((BX ++ B8).map bxD)]:=by rw [hg3]; rfl
  have k3:=fun (s1 e:Env)=>qV_mk g3 s1 e
  have h3:=hs ok3
  have vw:=vinit_wh
  have kw:=fun (s1 e:Env)=>qV_mk gWh s1 e
  have lw:=q_limit gWh_ok t0
  rw [lim_ ht0] at lw
  have mw:=qV_isM gWh "limit"
  have tw:=qV_tol gWh
  have sw1:f_lw_same 8 [pD (3,1),.tup [.int 3,.int 1]] = .ok (.bl true) [none,none]:=same_refl 8 (pD (3,1)) rfl
  have sw2:f_lw_same 8 [pD gWh.top,.tup [.int 7,.int 1]] = .ok (.bl true) [none,none]:=same_refl 8 (pD (7,1)) rfl
  have sg30:dIx (.tup [pD g.top,spotD g.eye,.lst ((BX ++ B8).map bxD)]) (.int 0) = some (pD g.top):=rfl
  have sg31:dIx (.tup [pD g.top,spotD g.eye,.lst ((BX ++ B8).map bxD)]) (.int 1) = some (spotD g.eye):=rfl
  rw [s3] at h3
  generalize pD gWh.top = P7 at *
  generalize pD (3,1) = P3 at *
  generalize hL3:D.lst ((BX ++ B8).map bxD) = L3 at *
  generalize pD g.top = PT at *
  generalize spotD g.eye = PE at *
  generalize sgD g = SD at *
  generalize qV g = VV at *
  generalize qV g3 = V3 at *
  generalize qV gWh = VW at *
  generalize ownL RV = OV at *
  generalize qT t0 = T0 at *
  refine nx_step rfl (s':=[none,some b5,some PL,some (.tup [PT,PE,L3]),some LT,none,some (.bl true),some OV,some VV,some L3,none]) (by simp [sSeq,sSet,sRet,sRetN,sExp,sIf,sNil,sAsg,sPar,mVar,mK,mOp,mUn,mTst_e,tstK,mAnd,mOr,mNot,mAndV_e,andK,mOrV_e,orK,mNotV_e,notK,mIf,mEq,mNe,dEq_int,dEq_bl,mIsN,mCons,mNil,mTup,mLst,mMov,mCall,bAbs,mIsi,isT,D.isDct,mCallF_e,callK,callO,callR,fill,puts,mOwnA,gN,gT,gC,gE,SO.opt,dAdd,dSub,dLt,dLe,dGt,dGe,dNeg,mChain_e,chK,mTru,mSeqI_q,mKeysI_q,mFld_q,mMeth_q,mMake_q,mkR_err,clr_ok,clr_err,mIsiC_q,mLenM_q,mSlice_q,sTryRow_q,tryR_nx,tryR_err,mNewL,mCat,mInD,mInDN,mInB,sRaise,mVarX_q,varR,unX_own,unX_lst,unX_non,unX_tup,mLenX_q,itX_own,itX_lst,mIxX_q,atX_int,sAppX_q,appR_some,sInsX_q,insR_some,sSetXO_q,setR_some,lstOf_lst,ownOf_own,mOrT_e,orT,  mRng,msk,ix2_0,ix2_1,ix3_0,ix3_1,ix3_2,mDNew,mMov,SO.opt,qP_x,qP_y,qPl_w,qPl_p,qPl_s,qP_in,qP_eq,qP_inD,qL_len,qTs_len,qL_one,qL_nil,qL_two,qL_map,qTs_map,qL_seq,qTs_seq,qS_keys,qL_sorted,qL_list,qTs_list,qP_non,qL_non,qM_non,qM_obj,qM_isO,qM_isi,qM_plan,qM_there,qM_parts,qM_cut,qM_mend,qM_cuts,qM_tris,qP_mk,qL_s1,qL_s0,qZ_lst,qZ_tup,qM_mk,qN_non,qN_bl,qN_int,qN_str,qN_tup,qN_lst,qB_lst,qB_tup,qL_unX,qL_itX,qL_lstOf,qTs_unX,qTs_itX,qTs_lstOf,qTr_bl,qTr_non,qTr_int,qTr_tup,qTr_lst,qTr_qL,sg0,sg1]) ?_
  refine nx_step rfl (s':=[none,some b5,some PL,some (.tup [PT,PE,L3]),some LT,none,some (.bl true),some OV,some V3,some L3,none]) (by
    generalize hO:D.obj "View" [] [] = OO at *
    simp [sSeq,sSet,sRet,sRetN,sExp,sIf,sNil,sAsg,sPar,mVar,mK,mOp,mUn,mTst_e,tstK,mAnd,mOr,mNot,mAndV_e,andK,mOrV_e,orK,mNotV_e,notK,mIf,mEq,mNe,dEq_int,dEq_bl,mIsN,mCons,mNil,mTup,mLst,mMov,mCall,bAbs,mIsi,isT,D.isDct,mCallF_e,callK,callO,callR,fill,puts,mOwnA,gN,gT,gC,gE,SO.opt,dAdd,dSub,dLt,dLe,dGt,dGe,dNeg,mChain_e,chK,mTru,mSeqI_q,mKeysI_q,mFld_q,mMeth_q,mMake_q,mkR_err,clr_ok,clr_err,mIsiC_q,mLenM_q,mSlice_q,sTryRow_q,tryR_nx,tryR_err,mNewL,mCat,mInD,mInDN,mInB,sRaise,mVarX_q,varR,unX_own,unX_lst,unX_non,unX_tup,mLenX_q,itX_own,itX_lst,mIxX_q,atX_int,sAppX_q,appR_some,sInsX_q,insR_some,sSetXO_q,setR_some,lstOf_lst,ownOf_own,mOrT_e,orT,  mRng,msk,ix2_0,ix2_1,ix3_0,ix3_1,ix3_2,mDNew,mMov,SO.opt,qP_x,qP_y,qPl_w,qPl_p,qPl_s,qP_in,qP_eq,qP_inD,qL_len,qTs_len,qL_one,qL_nil,qL_two,qL_map,qTs_map,qL_seq,qTs_seq,qS_keys,qL_sorted,qL_list,qTs_list,qP_non,qL_non,qM_non,qM_obj,qM_isO,qM_isi,qM_plan,qM_there,qM_parts,qM_cut,qM_mend,qM_cuts,qM_tris,qP_mk,qL_s1,qL_s0,qZ_lst,qZ_tup,qM_mk,qN_non,qN_bl,qN_int,qN_str,qN_tup,qN_lst,qB_lst,qB_tup,qL_unX,qL_itX,qL_lstOf,qTs_unX,qTs_itX,qTs_lstOf,qTr_bl,qTr_non,qTr_int,qTr_tup,qTr_lst,qTr_qL,mMakeN,hO,sg30,sg31,v3,k3]) ?_
  refine nx_step rfl (s':=[none,some b5,some PL,some (.tup [PT,PE,L3]),some LT,none,some (.bl true),some OV,some V3,some L3,none]) (by
    simp [sSeq,sSet,sRet,sRetN,sExp,sIf,sNil,sAsg,sPar,mVar,mK,mOp,mUn,mTst_e,tstK,mAnd,mOr,mNot,mAndV_e,andK,mOrV_e,orK,mNotV_e,notK,mIf,mEq,mNe,dEq_int,dEq_bl,mIsN,mCons,mNil,mTup,mLst,mMov,mCall,bAbs,mIsi,isT,D.isDct,mCallF_e,callK,callO,callR,fill,puts,mOwnA,gN,gT,gC,gE,SO.opt,dAdd,dSub,dLt,dLe,dGt,dGe,dNeg,mChain_e,chK,mTru,mSeqI_q,mKeysI_q,mFld_q,mMeth_q,mMake_q,mkR_err,clr_ok,clr_err,mIsiC_q,mLenM_q,mSlice_q,sTryRow_q,tryR_nx,tryR_err,mNewL,mCat,mInD,mInDN,mInB,sRaise,mVarX_q,varR,unX_own,unX_lst,unX_non,unX_tup,mLenX_q,itX_own,itX_lst,mIxX_q,atX_int,sAppX_q,appR_some,sInsX_q,insR_some,sSetXO_q,setR_some,lstOf_lst,ownOf_own,mOrT_e,orT,  mRng,msk,ix2_0,ix2_1,ix3_0,ix3_1,ix3_2,mDNew,mMov,SO.opt,qP_x,qP_y,qPl_w,qPl_p,qPl_s,qP_in,qP_eq,qP_inD,qL_len,qTs_len,qL_one,qL_nil,qL_two,qL_map,qTs_map,qL_seq,qTs_seq,qS_keys,qL_sorted,qL_list,qTs_list,qP_non,qL_non,qM_non,qM_obj,qM_isO,qM_isi,qM_plan,qM_there,qM_parts,qM_cut,qM_mend,qM_cuts,qM_tris,qP_mk,qL_s1,qL_s0,qZ_lst,qZ_tup,qM_mk,qN_non,qN_bl,qN_int,qN_str,qN_tup,qN_lst,qB_lst,qB_tup,qL_unX,qL_itX,qL_lstOf,qTs_unX,qTs_itX,qTs_lstOf,qTr_bl,qTr_non,qTr_int,qTr_tup,qTr_lst,qTr_qL,h3]) ?_
  generalize D.tup [PT,PE,L3] = S3 at *
  refine nx_step rfl (s':=[none,some b5,some PL,some S3,some LT,none,some (.bl true),some OV,some V3,some L3,some VW]) (by
    generalize hO:D.obj "View" [] [] = OO at *
    generalize hB:D.tup [.int 0,.int 0,.int 99,.int 99,.int 3] = BB at *
    generalize hLB:D.lst [BB] = LB at *
    simp [sSeq,sSet,sRet,sRetN,sExp,sIf,sNil,sAsg,sPar,mVar,mK,mOp,mUn,mTst_e,tstK,mAnd,mOr,mNot,mAndV_e,andK,mOrV_e,orK,mNotV_e,notK,mIf,mEq,mNe,dEq_int,dEq_bl,mIsN,mCons,mNil,mTup,mLst,mMov,mCall,bAbs,mIsi,isT,D.isDct,mCallF_e,callK,callO,callR,fill,puts,mOwnA,gN,gT,gC,gE,SO.opt,dAdd,dSub,dLt,dLe,dGt,dGe,dNeg,mChain_e,chK,mTru,mSeqI_q,mKeysI_q,mFld_q,mMeth_q,mMake_q,mkR_err,clr_ok,clr_err,mIsiC_q,mLenM_q,mSlice_q,sTryRow_q,tryR_nx,tryR_err,mNewL,mCat,mInD,mInDN,mInB,sRaise,mVarX_q,varR,unX_own,unX_lst,unX_non,unX_tup,mLenX_q,itX_own,itX_lst,mIxX_q,atX_int,sAppX_q,appR_some,sInsX_q,insR_some,sSetXO_q,setR_some,lstOf_lst,ownOf_own,mOrT_e,orT,  mRng,msk,ix2_0,ix2_1,ix3_0,ix3_1,ix3_2,mDNew,mMov,SO.opt,qP_x,qP_y,qPl_w,qPl_p,qPl_s,qP_in,qP_eq,qP_inD,qL_len,qTs_len,qL_one,qL_nil,qL_two,qL_map,qTs_map,qL_seq,qTs_seq,qS_keys,qL_sorted,qL_list,qTs_list,qP_non,qL_non,qM_non,qM_obj,qM_isO,qM_isi,qM_plan,qM_there,qM_parts,qM_cut,qM_mend,qM_cuts,qM_tris,qP_mk,qL_s1,qL_s0,qZ_lst,qZ_tup,qM_mk,qN_non,qN_bl,qN_int,qN_str,qN_tup,qN_lst,qB_lst,qB_tup,qL_unX,qL_itX,qL_lstOf,qTs_unX,qTs_itX,qTs_lstOf,qTr_bl,qTr_non,qTr_int,qTr_tup,qTr_lst,qTr_qL,mMakeN,hO,hB,hLB,vw,kw]) ?_
  generalize hU3:D.tup [.int 3,.int 1] = U3 at *
  generalize hU7:D.tup [.int 7,.int 1] = U7 at *
  refine nx_is (by conv=>lhs; simp [sSeq,sSet,sRet,sRetN,sExp,sIf,sNil,sAsg,sPar,mVar,mK,mOp,mUn,mTst_e,tstK,mAnd,mOr,mNot,mAndV_e,andK,mOrV_e,orK,mNotV_e,notK,mIf,mEq,mNe,dEq_int,dEq_bl,mIsN,mCons,mNil,mTup,mLst,mMov,mCall,bAbs,mIsi,isT,D.isDct,mCallF_e,callK,callO,callR,fill,puts,mOwnA,gN,gT,gC,gE,SO.opt,dAdd,dSub,dLt,dLe,dGt,dGe,dNeg,mChain_e,chK,mTru,mSeqI_q,mKeysI_q,mFld_q,mMeth_q,mMake_q,mkR_err,clr_ok,clr_err,mIsiC_q,mLenM_q,mSlice_q,sTryRow_q,tryR_nx,tryR_err,mNewL,mCat,mInD,mInDN,mInB,sRaise,mVarX_q,varR,unX_own,unX_lst,unX_non,unX_tup,mLenX_q,itX_own,itX_lst,mIxX_q,atX_int,sAppX_q,appR_some,sInsX_q,insR_some,sSetXO_q,setR_some,lstOf_lst,ownOf_own,mOrT_e,orT,  mRng,msk,ix2_0,ix2_1,ix3_0,ix3_1,ix3_2,mDNew,mMov,SO.opt,qP_x,qP_y,qPl_w,qPl_p,qPl_s,qP_in,qP_eq,qP_inD,qL_len,qTs_len,qL_one,qL_nil,qL_two,qL_map,qTs_map,qL_seq,qTs_seq,qS_keys,qL_sorted,qL_list,qTs_list,qP_non,qL_non,qM_non,qM_obj,qM_isO,qM_isi,qM_plan,qM_there,qM_parts,qM_cut,qM_mend,qM_cuts,qM_tris,qP_mk,qL_s1,qL_s0,qZ_lst,qZ_tup,qM_mk,qN_non,qN_bl,qN_int,qN_str,qN_tup,qN_lst,qB_lst,qB_tup,qL_unX,qL_itX,qL_lstOf,qTs_unX,qTs_itX,qTs_lstOf,qTr_bl,qTr_non,qTr_int,qTr_tup,qTr_lst,qTr_qL,m_law_19,m_law_18,m_law_17,m_law_16,m_law_15,m_law_14,m_law_13,m_law_12,m_law_11,m_law_10,m_law_9,m_law_8,m_law_7,m_law_6,m_law_5,m_law_4,m_law_3,m_law,mw,lw,ix0,hU3,hU7,sw1,tw,sw2]) ?_
  exact ⟨_,rfl⟩
end Bk
namespace K48
open PySem PySem.Spec PyProof.Rows L2 Bk
section
variable {P:Program} {w:World} {K:PySem.W.Frag} {mg:Str → Option Value} {base:Heap} [Bk.Cls]
def empL (K:PySem.W.Frag) : List (Addr × D):=[(kwdAt ("View",some "__init__") "boxes" K,.non)]
theorem ok__wall (c:Cty faL xsL fnL K mg) : Cal P w K mg base 1 "_wall" [.fr] .fr f__wall []:=by
    rw [f__wall_eq]
    obtain ⟨fd,F⟩:=c.def_ 0 (d:=d__wall) rfl
    exact Cal.of F (fn_ok (Γ:=[.fr]) F sc__wall rfl rfl rfl (by decide) fun cdv A outer s H E hr G W tk=>
    (ms_one (ms_while (fuel:=fu__wall_1) (ps_while (passes_of rfl) (mt_tru me_bl)
    (ms_one ms_pass))))) (c.glo 0) (fun _ _ _ _ _ _ us hl=>match us,hl with | [_],_=>rfl)
theorem ok_is_whole (c:Cty faL xsL fnL K mg) : Cal P w K mg base 1 "is_whole" [.fr] .fr f_is_whole []:=by
    rw [f_is_whole_eq]
    obtain ⟨fd,F⟩:=c.def_ 1 (d:=d_is_whole) rfl
    exact Cal.of F (fn_ok (Γ:=[.fr]) F sc_is_whole rfl rfl rfl (by decide) fun cdv A outer s H E hr G W tk=>
    (ms_one (ms_ret (me_and (me_isi (t:=.int) (pe_callB call_isi rfl (c.free 25) (by decide +kernel) (pa_cons (me_var (pv 0) rfl) (pa_cons (pe_bltn (v:=.ty "int") rfl (c.free 24) (by decide +kernel) rfl) pa_nil)))) (me_one (me_not (me_isi (t:=.bool) (pe_callB call_isi rfl (c.free 25) (by decide +kernel) (pa_cons (me_var (pv 0) rfl) (pa_cons (pe_bltn (v:=.ty "bool") rfl (c.free 26) (by decide +kernel) rfl) pa_nil)))))))))) (c.glo 1) (fun _ _ _ _ _ _ us hl=>match us,hl with | [_],_=>rfl)
theorem ok_less (c:Cty faL xsL fnL K mg) : Cal P w K mg base 1 "less" [.fr,.fr] .fr f_less []:=by
    rw [f_less_eq]
    obtain ⟨fd,F⟩:=c.def_ 2 (d:=d_less) rfl
    exact Cal.of F (fn_ok (Γ:=[.fr,.fr]) F sc_less rfl rfl rfl (by decide) fun cdv A outer s H E hr G W tk=>
    (ms_one (ms_ret (me_lt (me_mul (me_ix (me_var (pv 0) rfl) me_int (fun _ _=>rfl)) (me_ix (me_var (pv 1) rfl) me_int (fun _ _=>rfl))) (me_mul (me_ix (me_var (pv 1) rfl) me_int (fun _ _=>rfl)) (me_ix (me_var (pv 0) rfl) me_int (fun _ _=>rfl))))))) (c.glo 2) (fun _ _ _ _ _ _ us hl=>match us,hl with | [_,_],_=>rfl)
theorem ok_as_share (c:Cty faL xsL fnL K mg) (C_is_whole:Cal P w K mg base 1 "is_whole" [.fr] .fr f_is_whole []) : Cal P w K mg base 3 "as_share" [.fr] .fr f_as_share []:=by
    rw [f_as_share_eq]
    obtain ⟨fd,F⟩:=c.def_ 3 (d:=d_as_share) rfl
    exact Cal.of F (fn_ok (Γ:=[.fr,.fr]) F sc_as_share rfl rfl rfl (by decide) fun cdv A outer s H E hr G W tk=>
    (ms_cons (ms_set (ps_set (i:=1) sc_as_share.nd rfl (Or.inl rfl) (me_ifExp (mt_tru (me_callC (sp:=[none]) (dflt:=[]) C_is_whole (hr.mono (by first | decide | omega)) tk rfl (mr_fr (me_var (pv 0) rfl) mr_nil))) (me_tup (ma_cons (me_var (pv 0) rfl) (ma_cons me_int ma_nil)) (len_cons (len_cons len_nil)) (by decide)) (me_var (pv 0) rfl))) rfl)
    (ms_cons (ms_if (mt_lt (me_ix (me_var (pv 1) rfl) me_int (fun _ _=>rfl)) me_int)
    (ms_one ms_stuck)
    ms_nil)
    (ms_one (ms_ret (me_var (pv 1) rfl)))))) (c.glo 3) (fun _ _ _ _ _ _ us hl=>match us,hl with | [_],_=>rfl)
theorem ok_as_box (c:Cty faL xsL fnL K mg) (C_as_share:Cal P w K mg base 3 "as_share" [.fr] .fr f_as_share []) : Cal P w K mg base 4 "as_box" [.fr] .fr f_as_box []:=by
    rw [f_as_box_eq]
    obtain ⟨fd,F⟩:=c.def_ 4 (d:=d_as_box) rfl
    exact Cal.of F (fn_ok (Γ:=[.fr,.fr,.fr,.fr,.fr,.fr,.fr]) F sc_as_box rfl rfl rfl (by decide) fun cdv A outer s H E hr G W tk=>
    (ms_cons (ms_starF (ps_asg (me_var (pv 0) rfl) (pg_starF rfl (pgs_cons (pg_name (i:=1) sc_as_box.nd rfl (Or.inl rfl)) (pgs_cons (pg_name (i:=2) sc_as_box.nd rfl (Or.inl rfl)) pgs_nil)))) rfl rfl)
    (ms_cons (ms_asg (ps_asg (me_var (pv 1) rfl) (mg_tup (k:=4) rfl (mg_cons (mg_n (pg_name (i:=3) sc_as_box.nd rfl (Or.inl rfl)) rfl) (mg_cons (mg_n (pg_name (i:=4) sc_as_box.nd rfl (Or.inl rfl)) rfl) (mg_cons (mg_n (pg_name (i:=5) sc_as_box.nd rfl (Or.inl rfl)) rfl) (mg_cons (mg_n (pg_name (i:=6) sc_as_box.nd rfl (Or.inl rfl)) rfl) mg_nil)))))))
    (ms_one (ms_ret (me_tup (ma_cons (me_min2 (pe_callB (call_min2 rfl) rfl (c.free 27) (by decide +kernel) (ma_cons (me_var (pv 3) rfl) (ma_cons (me_var (pv 5) rfl) ma_nil)))) (ma_cons (me_min2 (pe_callB (call_min2 rfl) rfl (c.free 27) (by decide +kernel) (ma_cons (me_var (pv 4) rfl) (ma_cons (me_var (pv 6) rfl) ma_nil)))) (ma_cons (me_max2 (pe_callB (call_max2 rfl) rfl (c.free 28) (by decide +kernel) (ma_cons (me_var (pv 3) rfl) (ma_cons (me_var (pv 5) rfl) ma_nil)))) (ma_cons (me_max2 (pe_callB (call_max2 rfl) rfl (c.free 28) (by decide +kernel) (ma_cons (me_var (pv 4) rfl) (ma_cons (me_var (pv 6) rfl) ma_nil)))) (ma_cons (me_callC (sp:=[none]) (dflt:=[]) C_as_share (hr.mono (by first | decide | omega)) tk rfl (mr_fr (me_var (pv 2) rfl) mr_nil)) ma_nil))))) (len_cons (len_cons (len_cons (len_cons (len_cons len_nil))))) (by decide))))))) (c.glo 4) (fun _ _ _ _ _ _ us hl=>match us,hl with | [_],_=>rfl)
theorem ok_touches (c:Cty faL xsL fnL K mg) : Cal P w K mg base 1 "touches" [.fr,.fr] .fr f_touches []:=by
    rw [f_touches_eq]
    obtain ⟨fd,F⟩:=c.def_ 5 (d:=d_touches) rfl
    exact Cal.of F (fn_ok (Γ:=[.fr,.fr,.fr,.fr,.fr,.fr,.fr,.fr,.fr]) F sc_touches rfl rfl rfl (by decide) fun cdv A outer s H E hr G W tk=>
    (ms_cons (ms_asg (ps_asg (me_var (pv 0) rfl) (mg_tup (k:=5) rfl (mg_cons (mg_n (pg_name (i:=2) sc_touches.nd rfl (Or.inl rfl)) rfl) (mg_cons (mg_n (pg_name (i:=3) sc_touches.nd rfl (Or.inl rfl)) rfl) (mg_cons (mg_n (pg_name (i:=4) sc_touches.nd rfl (Or.inl rfl)) rfl) (mg_cons (mg_n (pg_name (i:=5) sc_touches.nd rfl (Or.inl rfl)) rfl) (mg_cons (mg_n (pg_name (i:=6) sc_touches.nd rfl (Or.inl rfl)) rfl) mg_nil))))))))
    (ms_cons (ms_set (ps_set (i:=7) sc_touches.nd rfl (Or.inl rfl) (me_fix (me_lst (ma_cons (me_ix (me_var (pv 1) rfl) me_int (fun _ _=>rfl)) (ma_cons (me_ix (me_var (pv 1) rfl) me_int (fun _ _=>rfl)) (ma_cons (me_ix (me_var (pv 1) rfl) me_int (fun _ _=>rfl)) ma_nil))) (len_cons (len_cons (len_cons len_nil))) (by decide)))) rfl)
    (ms_cons (ms_set (ps_set (i:=8) sc_touches.nd rfl (Or.inl rfl) (me_fix (me_lst (ma_cons (me_ix (me_var (pv 1) rfl) me_int (fun _ _=>rfl)) (ma_cons (me_ix (me_var (pv 1) rfl) me_int (fun _ _=>rfl)) (ma_cons (me_ix (me_var (pv 1) rfl) me_int (fun _ _=>rfl)) ma_nil))) (len_cons (len_cons (len_cons len_nil))) (by decide)))) rfl)
    (ms_one (ms_ret (me_and (me_le (me_var (pv 2) rfl) (me_best (pe_callB (call_maxI hr rfl) rfl (c.free 28) (by decide +kernel) (ma_cons (me_var (pv 7) rfl) ma_nil)))) (me_and (me_ge (me_var (pv 4) rfl) (me_best (pe_callB (call_minI hr rfl) rfl (c.free 27) (by decide +kernel) (ma_cons (me_var (pv 7) rfl) ma_nil)))) (me_and (me_le (me_var (pv 3) rfl) (me_best (pe_callB (call_maxI hr rfl) rfl (c.free 28) (by decide +kernel) (ma_cons (me_var (pv 8) rfl) ma_nil)))) (me_one (me_ge (me_var (pv 5) rfl) (me_best (pe_callB (call_minI hr rfl) rfl (c.free 27) (by decide +kernel) (ma_cons (me_var (pv 8) rfl) ma_nil)))))))))))))) (c.glo 5) (fun _ _ _ _ _ _ us hl=>match us,hl with | [_,_],_=>rfl)
theorem ok_lw_whole (c:Cty faL xsL fnL K mg) : Cal P w K mg base 1 "_law_whole" [.fr] .fr f_lw_whole []:=by
    rw [f_lw_whole_eq]
    obtain ⟨fd,F⟩:=c.def_ 6 (d:=d_lw_whole) rfl
    exact Cal.of F (fn_ok (Γ:=[.fr]) F sc_lw_whole rfl rfl rfl (by decide) fun cdv A outer s H E hr G W tk=>
    (ms_one (ms_ret (me_and (me_isi (t:=.int) (pe_callB call_isi rfl (c.free 25) (by decide +kernel) (pa_cons (me_var (pv 0) rfl) (pa_cons (pe_bltn (v:=.ty "int") rfl (c.free 24) (by decide +kernel) rfl) pa_nil)))) (me_one (me_not (me_isi (t:=.bool) (pe_callB call_isi rfl (c.free 25) (by decide +kernel) (pa_cons (me_var (pv 0) rfl) (pa_cons (pe_bltn (v:=.ty "bool") rfl (c.free 26) (by decide +kernel) rfl) pa_nil)))))))))) (c.glo 6) (fun _ _ _ _ _ _ us hl=>match us,hl with | [_],_=>rfl)
theorem ok_lw_same (c:Cty faL xsL fnL K mg) (C_lw_whole:Cal P w K mg base 1 "_law_whole" [.fr] .fr f_lw_whole []) : ∀ n:Nat,Cal P w K mg base (2 + n) "_law_same" [.fr,.fr] .fr (f_lw_same n) []
  | 0=>by
    obtain ⟨fd,F⟩:=c.def_ 7 (d:=d_lw_same) rfl
    exact Cal.of (ps:=["_law_found", "_law_due"]) F fn_stuck (c.glo 7) (fun _ _ _ _ _ _ us hl=>match us,hl with | [_,_],_=>rfl)
  | n + 1=>by
    have ih:=ok_lw_same c C_lw_whole n
    obtain ⟨fd,F⟩:=c.def_ 7 (d:=d_lw_same) rfl
    exact Cal.of F (fn_ok (Γ:=[.fr,.fr,.fr]) (k:=2 + n) F sc_lw_same rfl rfl rfl (by decide) fun cdv A outer s H E hr G W tk=>
    (ms_cons (ms_if (mt_isN (me_var (pv 1) rfl))
    (ms_one (ms_ret (me_isN (me_var (pv 0) rfl))))
    ms_nil)
    (ms_cons (ms_if (mt_tru (me_isi (t:=.bool) (pe_callB call_isi rfl (c.free 25) (by decide +kernel) (pa_cons (me_var (pv 1) rfl) (pa_cons (pe_bltn (v:=.ty "bool") rfl (c.free 26) (by decide +kernel) rfl) pa_nil)))))
    (ms_one (ms_ret (me_and (me_isi (t:=.bool) (pe_callB call_isi rfl (c.free 25) (by decide +kernel) (pa_cons (me_var (pv 0) rfl) (pa_cons (pe_bltn (v:=.ty "bool") rfl (c.free 26) (by decide +kernel) rfl) pa_nil)))) (me_one (me_eq hr (me_var (pv 0) rfl) (me_var (pv 1) rfl))))))
    ms_nil)
    (ms_cons (ms_if (mt_tru (me_isi (t:=.int) (pe_callB call_isi rfl (c.free 25) (by decide +kernel) (pa_cons (me_var (pv 1) rfl) (pa_cons (pe_bltn (v:=.ty "int") rfl (c.free 24) (by decide +kernel) rfl) pa_nil)))))
    (ms_one (ms_ret (me_and (me_callC (sp:=[none]) (dflt:=[]) C_lw_whole (hr.mono (by first | decide | omega)) tk rfl (mr_fr (me_var (pv 0) rfl) mr_nil)) (me_one (me_eq hr (me_var (pv 0) rfl) (me_var (pv 1) rfl))))))
    ms_nil)
    (ms_cons (ms_if (mt_tru (me_isi (t:=.str) (pe_callB call_isi rfl (c.free 25) (by decide +kernel) (pa_cons (me_var (pv 1) rfl) (pa_cons (pe_bltn (v:=.ty "str") rfl (c.free 29) (by decide +kernel) rfl) pa_nil)))))
    (ms_one (ms_ret (me_and (me_isi (t:=.str) (pe_callB call_isi rfl (c.free 25) (by decide +kernel) (pa_cons (me_var (pv 0) rfl) (pa_cons (pe_bltn (v:=.ty "str") rfl (c.free 29) (by decide +kernel) rfl) pa_nil)))) (me_one (me_eq hr (me_var (pv 0) rfl) (me_var (pv 1) rfl))))))
    ms_nil)
    (ms_cons (ms_if (mt_w (mt_and (mt_tru (me_isi (t:=.tuple) (pe_callB call_isi rfl (c.free 25) (by decide +kernel) (pa_cons (me_var (pv 1) rfl) (pa_cons (pe_bltn (v:=.ty "tuple") rfl (c.free 30) (by decide +kernel) rfl) pa_nil))))) (mt_and1 (mt_not (mt_tru (me_isi (t:=.tuple) (pe_callB call_isi rfl (c.free 25) (by decide +kernel) (pa_cons (me_var (pv 0) rfl) (pa_cons (pe_bltn (v:=.ty "tuple") rfl (c.free 30) (by decide +kernel) rfl) pa_nil)))))))))
    (ms_one (ms_ret me_bl))
    ms_nil)
    (ms_cons (ms_if (mt_w (mt_and (mt_tru (me_isi (t:=.list) (pe_callB call_isi rfl (c.free 25) (by decide +kernel) (pa_cons (me_var (pv 1) rfl) (pa_cons (pe_bltn (v:=.ty "list") rfl (c.free 31) (by decide +kernel) rfl) pa_nil))))) (mt_and1 (mt_not (mt_tru (me_isi (t:=.list) (pe_callB call_isi rfl (c.free 25) (by decide +kernel) (pa_cons (me_var (pv 0) rfl) (pa_cons (pe_bltn (v:=.ty "list") rfl (c.free 31) (by decide +kernel) rfl) pa_nil)))))))))
    (ms_one (ms_ret me_bl))
    ms_nil)
    (ms_cons (ms_if (mt_ne hr (me_len (pe_callB call_len rfl (c.free 32) PySem.boot_len (ma_cons (me_var (pv 0) rfl) ma_nil))) (me_len (pe_callB call_len rfl (c.free 32) PySem.boot_len (ma_cons (me_var (pv 1) rfl) ma_nil))))
    (ms_one (ms_ret me_bl))
    ms_nil)
    (ms_cons (ms_for (ps_for (passes_of rfl) rfl (mi_rng1 (pi_range1 rfl (c.free 33) (ma_cons (me_len (pe_callB call_len rfl (c.free 32) PySem.boot_len (ma_cons (me_var (pv 1) rfl) ma_nil))) ma_nil))) (mg_n (pg_name (i:=2) sc_lw_same.nd rfl (Or.inl rfl)) rfl)
    (ms_one (ms_if (mt_not (mt_tru (me_callC (sp:=[none,none]) (dflt:=[]) ih (hr.mono (by first | decide | omega)) tk rfl (mr_fr (me_ix (me_var (pv 0) rfl) (me_var (pv 2) rfl) (fun _ _=>rfl)) (mr_fr (me_ix (me_var (pv 1) rfl) (me_var (pv 2) rfl) (fun _ _=>rfl)) mr_nil)))))
    (ms_one (ms_ret me_bl))
    ms_nil))))
    (ms_one (ms_ret me_bl))))))))))) (c.glo 7) (fun _ _ _ _ _ _ us hl=>match us,hl with | [_,_],_=>rfl)
theorem ok_lw_draw (c:Cty faL xsL fnL K mg) : Cal P w K mg base 1 "_law_draw" [.bag,.fr] .fr drawF []:=by
  obtain ⟨fd,F⟩:=c.def_ 9 (d:=d_lw_draw) rfl
  refine Cal.of F (F.ok sc_lw_draw (spM_len rfl) fun cdv A outer s H vs Q E hr hsp=>?_) (c.glo 9) (fun _ _ _ _ _ _ us hl=>match us,hl with | [_,_],_=>rfl)
  obtain ⟨b,cc,ns,k,z,many,rfl,hbc,hb,hcc,hm,hm2,hl,fin⟩:=draw_pre hsp
  have nd:=sc_lw_draw.nd
  refine ⟨_,pss_cons (ps_set (i:=2) nd rfl (Or.inl rfl) (pe_ix ix_list (pv 0) pe_int (fun _ _=>rfl)))
    (pss_cons (ps_set (i:=3) nd rfl (Or.inl rfl) (pe_ix ix_list (pv 0) pe_int (fun _ _=>rfl)))
    (pss_cons (ps_set (i:=4) nd rfl (Or.inl rfl) pe_int)
    (pss_cons (ps_if (pt_cmpR op_gt (pe_callB call_len rfl (c.free 32) PySem.boot_len (pa_cons (pv 2) pa_nil)) pe_int (nomark _))
      (pss_one (ps_set (i:=4) nd rfl (Or.inl rfl) (pe_ix ix_list (pv 2) (pe_op op_mod (pv 3) (pe_callB call_len rfl (c.free 32) PySem.boot_len (pa_cons (pv 2) pa_nil))) (fun _ _=>rfl)))) pss_nil)
    (pss_cons (ps_if (pt_cmpR op_lt (pv 4) pe_int (nomark _)) (pss_one (ps_set (i:=4) nd rfl (Or.inl rfl) (pe_op op_sub pe_int (pv 4)))) pss_nil)
    (pss_cons (ps_if (pt_cmpR op_ge (pv 4) (pe_op op_pow pe_int pe_int) (nomark _))
      (pss_cons (ps_asg (pe_op op_fdivW (pv 4) (pv 1)) (pg_sub (pv 2) (pe_op op_mod (pv 3) (pe_callB call_len rfl (c.free 32) PySem.boot_len (pa_cons (pv 2) pa_nil))) set_list))
      (pss_one (ps_ret (pe_op op_mod (pv 4) (pv 1))))) pss_nil)
    (pss_cons (ps_asg (pe_op op_add (pv 3) pe_int) (pg_sub (pv 0) pe_int set_list))
    (pss_cons (ps_asg (pe_op op_mod (pe_op op_add (pe_op op_add (pe_op op_add (pe_op op_mul (pe_ix ix_list (pv 0) pe_int (fun _ _=>rfl)) pe_int) (pe_op op_mul (pv 4) pe_int)) (pe_op op_mul (pv 3) pe_int)) pe_int) pe_int) (pg_sub (pv 0) pe_int set_list))
    (pss_one (ps_ret (pe_op op_mod (pe_op op_fdivW (pe_op op_mod (pe_op op_mul (pe_ix ix_list (pv 0) pe_int (fun _ _=>rfl)) pe_int) pe_int) pe_int) (pv 1))))))))))),?_⟩
  refine ⟨_,rfl,_,_,_,_,rfl,rfl,SqL.of hb,at_of (j:=0) rfl rfl,_,rfl,_,_,_,_,rfl,rfl,SqL.of hb,at_of (j:=1) rfl rfl,?_⟩
  refine ⟨_,rfl,_,_,rfl,.inl ⟨_,SqL.of hcc,rfl⟩,_,_,rfl,rfl,_,rfl,?_⟩
  rw [len_ints]
  by_cases h0:0 < ns.length
  · obtain ⟨j,ej,hj,ej2⟩:=mod_ix (k:=k) h0
    rw [decide_eq_true (show (0:Int) < (ns.length:Int) by omega)]
    refine iteT ?_
    refine ⟨_,rfl,_,rfl,_,rfl,_,_,rfl,.inl ⟨_,SqL.of hcc,rfl⟩,_,_,rfl,rfl,by rw [len_ints]; show (0:Int) < (ns.length:Int); omega,?_⟩
    rw [len_ints]
    refine ⟨_,_,_,_,rfl,rfl,SqL.of hcc,at_ints ej hj,?_⟩
    refine ⟨_,rfl,_,_,rfl,rfl,_,rfl,?_⟩
    by_cases h1:ns.getD j 0 < 0
    · rw [decide_eq_true h1]
      refine iteT ⟨_,rfl,_,_,rfl,rfl,?_⟩
      have ec:cellI ns k = 1 - ns.getD j 0:=by rw [←ej2]; exact cell_pos h0 (by rw [ej2]; exact h1)
      refine ⟨_,rfl,_,_,rfl,rfl,⟨by decide,by decide,by decide⟩,_,_,rfl,rfl,_,rfl,?_⟩
      by_cases h2:1000000000000000000 ≤ (1 - ns.getD j 0)
      · rw [decide_eq_true (show ((10:Int) ^ (18:Int).toNat) ≤ (1 - ns.getD j 0) from h2)]
        refine iteT ⟨_,rfl,_,rfl,_,_,rfl,rfl,⟨hm,hm2⟩,_,rfl,_,rfl,_,rfl,_,_,rfl,.inl ⟨_,SqL.of hcc,rfl⟩,_,_,rfl,rfl,by rw [len_ints]; show (0:Int) < (ns.length:Int); omega,?_⟩
        refine ⟨_,_,_,j,rfl,rfl,hcc,ix_mod ej hj,?_⟩
        refine ⟨_,rfl,_,rfl,_,_,rfl,rfl,hm,?_⟩
        have e:=fin (upd H cc (.lst ((ns.map V.int).set j (.int ((1 - ns.getD j 0) / many)))))
        unfold drawR drawN drawK drawZ at e
        rw [ec,if_pos h2,if_pos h2,if_pos h2,if_pos h2,ej2] at e
        exact e (by rw [upd_ne hbc]; exact hb) (by rw [upd_same,List.map_set]) fun a h1 h2=>upd_ne h2
      · rw [decide_eq_false (show ¬ ((10:Int) ^ (18:Int).toNat) ≤ (1 - ns.getD j 0) from h2)]
        refine iteF ?_
        refine ⟨_,rfl,_,_,rfl,rfl,_,rfl,_,_,_,1,rfl,rfl,hb,rfl,?_⟩
        refine ⟨_,rfl,_,_,_,_,rfl,rfl,SqL.of upd_same,at_of (j:=2) rfl rfl,_,_,rfl,rfl,.inr ⟨by decide,by decide⟩,_,rfl,_,_,rfl,rfl,.inr ⟨by decide,by decide⟩,_,_,rfl,rfl,_,rfl,_,_,rfl,rfl,.inr ⟨by decide,by decide⟩,_,_,rfl,rfl,_,_,rfl,rfl,_,_,rfl,rfl,by show (0:Int) < 2147483647; decide,?_⟩
        refine ⟨_,rfl,_,_,_,2,rfl,rfl,upd_same,rfl,?_⟩
        refine ⟨_,rfl,_,_,_,_,rfl,rfl,SqL.of upd_same,at_of (j:=2) rfl rfl,_,_,rfl,rfl,.inr ⟨by decide,by decide⟩,_,_,rfl,rfl,by show (0:Int) < 2147483629; decide,_,_,rfl,rfl,⟨by decide,by decide +kernel⟩,_,rfl,_,_,rfl,rfl,hm,?_⟩
        have e:=fin (upd (upd H b (.lst [.ref cc,.int (k + 1),.int z])) b (.lst [.ref cc,.int (k + 1),.int ((z * 48271 + (1 - ns.getD j 0) * 9973 + k * 31 + 11) % 2147483647)]))
        unfold drawR drawN drawK drawZ seedI at e
        rw [ec,if_neg h2,if_neg h2,if_neg h2,if_neg h2] at e
        exact e upd_same (by rw [upd_ne hbc.symm,upd_ne hbc.symm]; exact hcc) fun a h1 h2=>by rw [upd_ne h1,upd_ne h1]
    · rw [decide_eq_false h1]
      refine iteF ?_
      have ec:cellI ns k = ns.getD j 0:=by rw [←ej2]; exact cell_nn h0 (by rw [ej2]; exact h1)
      refine ⟨_,rfl,_,_,rfl,rfl,⟨by decide,by decide,by decide⟩,_,_,rfl,rfl,_,rfl,?_⟩
      by_cases h2:1000000000000000000 ≤ (ns.getD j 0)
      · rw [decide_eq_true (show ((10:Int) ^ (18:Int).toNat) ≤ (ns.getD j 0) from h2)]
        refine iteT ⟨_,rfl,_,rfl,_,_,rfl,rfl,⟨hm,hm2⟩,_,rfl,_,rfl,_,rfl,_,_,rfl,.inl ⟨_,SqL.of hcc,rfl⟩,_,_,rfl,rfl,by rw [len_ints]; show (0:Int) < (ns.length:Int); omega,?_⟩
        refine ⟨_,_,_,j,rfl,rfl,hcc,ix_mod ej hj,?_⟩
        refine ⟨_,rfl,_,rfl,_,_,rfl,rfl,hm,?_⟩
        have e:=fin (upd H cc (.lst ((ns.map V.int).set j (.int ((ns.getD j 0) / many)))))
        unfold drawR drawN drawK drawZ at e
        rw [ec,if_pos h2,if_pos h2,if_pos h2,if_pos h2,ej2] at e
        exact e (by rw [upd_ne hbc]; exact hb) (by rw [upd_same,List.map_set]) fun a h1 h2=>upd_ne h2
      · rw [decide_eq_false (show ¬ ((10:Int) ^ (18:Int).toNat) ≤ (ns.getD j 0) from h2)]
        refine iteF ?_
        refine ⟨_,rfl,_,_,rfl,rfl,_,rfl,_,_,_,1,rfl,rfl,hb,rfl,?_⟩
        refine ⟨_,rfl,_,_,_,_,rfl,rfl,SqL.of upd_same,at_of (j:=2) rfl rfl,_,_,rfl,rfl,.inr ⟨by decide,by decide⟩,_,rfl,_,_,rfl,rfl,.inr ⟨by decide,by decide⟩,_,_,rfl,rfl,_,rfl,_,_,rfl,rfl,.inr ⟨by decide,by decide⟩,_,_,rfl,rfl,_,_,rfl,rfl,_,_,rfl,rfl,by show (0:Int) < 2147483647; decide,?_⟩
        refine ⟨_,rfl,_,_,_,2,rfl,rfl,upd_same,rfl,?_⟩
        refine ⟨_,rfl,_,_,_,_,rfl,rfl,SqL.of upd_same,at_of (j:=2) rfl rfl,_,_,rfl,rfl,.inr ⟨by decide,by decide⟩,_,_,rfl,rfl,by show (0:Int) < 2147483629; decide,_,_,rfl,rfl,⟨by decide,by decide +kernel⟩,_,rfl,_,_,rfl,rfl,hm,?_⟩
        have e:=fin (upd (upd H b (.lst [.ref cc,.int (k + 1),.int z])) b (.lst [.ref cc,.int (k + 1),.int ((z * 48271 + (ns.getD j 0) * 9973 + k * 31 + 11) % 2147483647)]))
        unfold drawR drawN drawK drawZ seedI at e
        rw [ec,if_neg h2,if_neg h2,if_neg h2,if_neg h2] at e
        exact e upd_same (by rw [upd_ne hbc.symm,upd_ne hbc.symm]; exact hcc) fun a h1 h2=>by rw [upd_ne h1,upd_ne h1]
  · rw [decide_eq_false (show ¬ (0:Int) < (ns.length:Int) by omega)]
    refine iteF ?_
    refine ⟨_,rfl,_,_,rfl,rfl,_,rfl,?_⟩
    refine iteF ?_
    have ec:cellI ns k = 0:=cell_no h0
    refine ⟨_,rfl,_,_,rfl,rfl,⟨by decide,by decide,by decide⟩,_,_,rfl,rfl,_,rfl,?_⟩
    refine iteF ?_
    have h2:¬ (1000000000000000000:Int) ≤ 0:=by decide
    refine ⟨_,rfl,_,_,rfl,rfl,_,rfl,_,_,_,1,rfl,rfl,hb,rfl,?_⟩
    refine ⟨_,rfl,_,_,_,_,rfl,rfl,SqL.of upd_same,at_of (j:=2) rfl rfl,_,_,rfl,rfl,.inr ⟨by decide,by decide⟩,_,rfl,_,_,rfl,rfl,.inr ⟨by decide,by decide⟩,_,_,rfl,rfl,_,rfl,_,_,rfl,rfl,.inr ⟨by decide,by decide⟩,_,_,rfl,rfl,_,_,rfl,rfl,_,_,rfl,rfl,by show (0:Int) < 2147483647; decide,?_⟩
    refine ⟨_,rfl,_,_,_,2,rfl,rfl,upd_same,rfl,?_⟩
    refine ⟨_,rfl,_,_,_,_,rfl,rfl,SqL.of upd_same,at_of (j:=2) rfl rfl,_,_,rfl,rfl,.inr ⟨by decide,by decide⟩,_,_,rfl,rfl,by show (0:Int) < 2147483629; decide,_,_,rfl,rfl,⟨by decide,by decide +kernel⟩,_,rfl,_,_,rfl,rfl,hm,?_⟩
    have e:=fin (upd (upd H b (.lst [.ref cc,.int (k + 1),.int z])) b (.lst [.ref cc,.int (k + 1),.int ((z * 48271 + 0 * 9973 + k * 31 + 11) % 2147483647)]))
    unfold drawR drawN drawK drawZ seedI at e
    rw [ec,if_neg h2,if_neg h2,if_neg h2,if_neg h2] at e
    exact e upd_same (by rw [upd_ne hbc.symm,upd_ne hbc.symm]; exact hcc) fun a h1 h2=>by rw [upd_ne h1,upd_ne h1]
theorem ok_lw_plan (c:Cty faL xsL fnL K mg) (C_lw_draw:Cal P w K mg base 1 "_law_draw" [.bag,.fr] .fr drawF []) : Cal P w K mg base 2 "_law_plan" [.bag] .fr f_lw_plan []:=by
    rw [f_lw_plan_eq]
    obtain ⟨fd,F⟩:=c.def_ 10 (d:=d_lw_plan) rfl
    exact Cal.of F (fn_ok (Γ:=[.bag,.fr]) F sc_lw_plan rfl rfl rfl (by decide) fun cdv A outer s H E hr G W tk=>
    (ms_cons (ms_set (ps_set (i:=1) sc_lw_plan.nd rfl (Or.inl rfl) (me_fix (me_lst (ma_cons (me_tup (ma_cons me_int (ma_cons me_int (ma_cons me_int ma_nil))) (len_cons (len_cons (len_cons len_nil))) (by decide)) (ma_cons (me_tup (ma_cons me_int (ma_cons me_int (ma_cons me_int ma_nil))) (len_cons (len_cons (len_cons len_nil))) (by decide)) (ma_cons (me_tup (ma_cons me_int (ma_cons me_int (ma_cons me_int ma_nil))) (len_cons (len_cons (len_cons len_nil))) (by decide)) (ma_cons (me_tup (ma_cons me_int (ma_cons me_int (ma_cons me_int ma_nil))) (len_cons (len_cons (len_cons len_nil))) (by decide)) (ma_cons (me_tup (ma_cons me_int (ma_cons me_int (ma_cons me_int ma_nil))) (len_cons (len_cons (len_cons len_nil))) (by decide)) (ma_cons (me_tup (ma_cons me_int (ma_cons me_int (ma_cons me_int ma_nil))) (len_cons (len_cons (len_cons len_nil))) (by decide)) ma_nil)))))) (len_cons (len_cons (len_cons (len_cons (len_cons (len_cons len_nil)))))) (by decide)))) rfl)
    (ms_cons (ms_set (ps_set (i:=1) sc_lw_plan.nd rfl (Or.inl rfl) (me_fix (me_cat (me_var (pv 1) rfl) (me_fix (me_lst (ma_cons (me_tup (ma_cons me_int (ma_cons me_int (ma_cons me_int ma_nil))) (len_cons (len_cons (len_cons len_nil))) (by decide)) (ma_cons (me_tup (ma_cons me_int (ma_cons me_int (ma_cons me_int ma_nil))) (len_cons (len_cons (len_cons len_nil))) (by decide)) (ma_cons (me_tup (ma_cons me_int (ma_cons me_int (ma_cons me_int ma_nil))) (len_cons (len_cons (len_cons len_nil))) (by decide)) (ma_cons (me_tup (ma_cons me_int (ma_cons me_int (ma_cons me_int ma_nil))) (len_cons (len_cons (len_cons len_nil))) (by decide)) (ma_cons (me_tup (ma_cons me_int (ma_cons me_int (ma_cons me_int ma_nil))) (len_cons (len_cons (len_cons len_nil))) (by decide)) (ma_cons (me_tup (ma_cons me_int (ma_cons me_int (ma_cons me_int ma_nil))) (len_cons (len_cons (len_cons len_nil))) (by decide)) ma_nil)))))) (len_cons (len_cons (len_cons (len_cons (len_cons (len_cons len_nil)))))) (by decide)))))) rfl)
    (ms_one (ms_ret (me_ix (me_var (pv 1) rfl) (me_callC (sp:=[some 0,none]) (dflt:=[]) C_lw_draw (hr.mono (by first | decide | omega)) tk rfl (mr_own (pv 0) rfl (mr_fr me_int mr_nil))) (fun _ _=>rfl))))))) (c.glo 10) (fun _ _ _ _ _ _ us hl=>match us,hl with | [_],_=>rfl)
theorem ok_lw_roots (c:Cty faL xsL fnL K mg) : Cal P w K mg base 1 "_law_roots" [.fr] .ol f_lw_roots []:=by
    rw [f_lw_roots_eq]
    obtain ⟨fd,F⟩:=c.def_ 11 (d:=d_lw_roots) rfl
    exact Cal.of F (fn_ok (Γ:=[.fr,.ol,.fr,.fr,.fr,.fr,.fr]) F sc_lw_roots rfl rfl rfl (by decide) fun cdv A outer s H E hr G W tk=>
    (ms_cons (ms_setO (ps_set (i:=1) sc_lw_roots.nd rfl (Or.inl rfl) (me_lst ma_nil len_nil (by decide))) rfl (by decide))
    (ms_cons (ms_set (ps_set (i:=2) sc_lw_roots.nd rfl (Or.inl rfl) (me_ix (me_var (pv 0) rfl) me_int (fun _ _=>rfl))) rfl)
    (ms_cons (ms_for (ps_for (passes_of rfl) rfl (mi_rng1 (pi_range1 rfl (c.free 33) (ma_cons (me_ix (me_var (pv 0) rfl) me_int (fun _ _=>rfl)) ma_nil))) (mg_n (pg_name (i:=3) sc_lw_roots.nd rfl (Or.inl rfl)) rfl)
    (ms_one (ms_for (ps_for (passes_of rfl) rfl (mi_rng1 (pi_range1 rfl (c.free 33) (ma_cons (me_ix (me_var (pv 0) rfl) me_int (fun _ _=>rfl)) ma_nil))) (mg_n (pg_name (i:=4) sc_lw_roots.nd rfl (Or.inl rfl)) rfl)
    (ms_cons (ms_set (ps_set (i:=5) sc_lw_roots.nd rfl (Or.inl rfl) (me_mul (me_var (pv 3) rfl) (me_var (pv 2) rfl))) rfl)
    (ms_cons (ms_set (ps_set (i:=6) sc_lw_roots.nd rfl (Or.inl rfl) (me_mul (me_var (pv 4) rfl) (me_var (pv 2) rfl))) rfl)
    (ms_one (ms_if (mt_eq hr (me_mod (me_add (me_var (pv 3) rfl) (me_var (pv 4) rfl)) me_int) me_int)
    (ms_cons (ms_app (pe_bm PySem.F.plainAttrs_list PySem.F.slot_list_append PySem.F.type_list_append mt_append (pv 1) (pa_cons (me_tup (ma_cons (me_var (pv 5) rfl) (ma_cons (me_var (pv 6) rfl) (ma_cons (me_add (me_var (pv 5) rfl) (me_var (pv 2) rfl)) (ma_cons (me_add (me_var (pv 6) rfl) (me_var (pv 2) rfl)) (ma_cons (me_add (me_var (pv 5) rfl) (me_var (pv 2) rfl)) (ma_cons (me_var (pv 6) rfl) ma_nil)))))) (len_cons (len_cons (len_cons (len_cons (len_cons (len_cons len_nil)))))) (by decide)) pa_nil)) rfl)
    (ms_one (ms_app (pe_bm PySem.F.plainAttrs_list PySem.F.slot_list_append PySem.F.type_list_append mt_append (pv 1) (pa_cons (me_tup (ma_cons (me_add (me_var (pv 5) rfl) (me_var (pv 2) rfl)) (ma_cons (me_add (me_var (pv 6) rfl) (me_var (pv 2) rfl)) (ma_cons (me_var (pv 5) rfl) (ma_cons (me_var (pv 6) rfl) (ma_cons (me_var (pv 5) rfl) (ma_cons (me_add (me_var (pv 6) rfl) (me_var (pv 2) rfl)) ma_nil)))))) (len_cons (len_cons (len_cons (len_cons (len_cons (len_cons len_nil)))))) (by decide)) pa_nil)) rfl)))
    (ms_cons (ms_app (pe_bm PySem.F.plainAttrs_list PySem.F.slot_list_append PySem.F.type_list_append mt_append (pv 1) (pa_cons (me_tup (ma_cons (me_add (me_var (pv 5) rfl) (me_var (pv 2) rfl)) (ma_cons (me_var (pv 6) rfl) (ma_cons (me_var (pv 5) rfl) (ma_cons (me_add (me_var (pv 6) rfl) (me_var (pv 2) rfl)) (ma_cons (me_add (me_var (pv 5) rfl) (me_var (pv 2) rfl)) (ma_cons (me_add (me_var (pv 6) rfl) (me_var (pv 2) rfl)) ma_nil)))))) (len_cons (len_cons (len_cons (len_cons (len_cons (len_cons len_nil)))))) (by decide)) pa_nil)) rfl)
    (ms_one (ms_app (pe_bm PySem.F.plainAttrs_list PySem.F.slot_list_append PySem.F.type_list_append mt_append (pv 1) (pa_cons (me_tup (ma_cons (me_var (pv 5) rfl) (ma_cons (me_add (me_var (pv 6) rfl) (me_var (pv 2) rfl)) (ma_cons (me_add (me_var (pv 5) rfl) (me_var (pv 2) rfl)) (ma_cons (me_var (pv 6) rfl) (ma_cons (me_var (pv 5) rfl) (ma_cons (me_var (pv 6) rfl) ma_nil)))))) (len_cons (len_cons (len_cons (len_cons (len_cons (len_cons len_nil)))))) (by decide)) pa_nil)) rfl))))))))))))
    (ms_one (ms_ret (me_mov (pv 1) rfl (by decide)))))))) (c.glo 11) (fun _ _ _ _ _ _ us hl=>match us,hl with | [_],_=>rfl)
theorem ok_lw_middle (c:Cty faL xsL fnL K mg) : Cal P w K mg base 1 "_law_middle" [.fr] .fr f_lw_middle []:=by
    rw [f_lw_middle_eq]
    obtain ⟨fd,F⟩:=c.def_ 12 (d:=d_lw_middle) rfl
    exact Cal.of F (fn_ok (Γ:=[.fr]) F sc_lw_middle rfl rfl rfl (by decide) fun cdv A outer s H E hr G W tk=>
    (ms_cons (ms_if (mt_w (mt_or (mt_eq hr (me_mod (me_add (me_ix (me_var (pv 0) rfl) me_int (fun _ _=>rfl)) (me_ix (me_var (pv 0) rfl) me_int (fun _ _=>rfl))) me_int) me_int) (mt_or1 (mt_eq hr (me_mod (me_add (me_ix (me_var (pv 0) rfl) me_int (fun _ _=>rfl)) (me_ix (me_var (pv 0) rfl) me_int (fun _ _=>rfl))) me_int) me_int))))
    (ms_one (ms_ret me_non))
    ms_nil)
    (ms_one (ms_ret (me_tup (ma_cons (me_div (me_add (me_ix (me_var (pv 0) rfl) me_int (fun _ _=>rfl)) (me_ix (me_var (pv 0) rfl) me_int (fun _ _=>rfl))) me_int) (ma_cons (me_div (me_add (me_ix (me_var (pv 0) rfl) me_int (fun _ _=>rfl)) (me_ix (me_var (pv 0) rfl) me_int (fun _ _=>rfl))) me_int) ma_nil)) (len_cons (len_cons len_nil)) (by decide)))))) (c.glo 12) (fun _ _ _ _ _ _ us hl=>match us,hl with | [_],_=>rfl)
theorem ok_lw_halves (c:Cty faL xsL fnL K mg) (C_lw_middle:Cal P w K mg base 1 "_law_middle" [.fr] .fr f_lw_middle []) : Cal P w K mg base 2 "_law_halves" [.fr] .ol f_lw_halves []:=by
    rw [f_lw_halves_eq]
    obtain ⟨fd,F⟩:=c.def_ 13 (d:=d_lw_halves) rfl
    exact Cal.of F (fn_ok (Γ:=[.fr,.fr,.fr,.fr]) F sc_lw_halves rfl rfl rfl (by decide) fun cdv A outer s H E hr G W tk=>
    (ms_cons (ms_set (ps_set (i:=1) sc_lw_halves.nd rfl (Or.inl rfl) (me_callC (sp:=[none]) (dflt:=[]) C_lw_middle (hr.mono (by first | decide | omega)) tk rfl (mr_fr (me_var (pv 0) rfl) mr_nil))) rfl)
    (ms_cons (ms_set (ps_set (i:=2) sc_lw_halves.nd rfl (Or.inl rfl) (me_tup (ma_cons (me_ix (me_var (pv 0) rfl) me_int (fun _ _=>rfl)) (ma_cons (me_ix (me_var (pv 0) rfl) me_int (fun _ _=>rfl)) (ma_cons (me_ix (me_var (pv 0) rfl) me_int (fun _ _=>rfl)) (ma_cons (me_ix (me_var (pv 0) rfl) me_int (fun _ _=>rfl)) (ma_cons (me_ix (me_var (pv 1) rfl) me_int (fun _ _=>rfl)) (ma_cons (me_ix (me_var (pv 1) rfl) me_int (fun _ _=>rfl)) ma_nil)))))) (len_cons (len_cons (len_cons (len_cons (len_cons (len_cons len_nil)))))) (by decide))) rfl)
    (ms_cons (ms_set (ps_set (i:=3) sc_lw_halves.nd rfl (Or.inl rfl) (me_tup (ma_cons (me_ix (me_var (pv 0) rfl) me_int (fun _ _=>rfl)) (ma_cons (me_ix (me_var (pv 0) rfl) me_int (fun _ _=>rfl)) (ma_cons (me_ix (me_var (pv 0) rfl) me_int (fun _ _=>rfl)) (ma_cons (me_ix (me_var (pv 0) rfl) me_int (fun _ _=>rfl)) (ma_cons (me_ix (me_var (pv 1) rfl) me_int (fun _ _=>rfl)) (ma_cons (me_ix (me_var (pv 1) rfl) me_int (fun _ _=>rfl)) ma_nil)))))) (len_cons (len_cons (len_cons (len_cons (len_cons (len_cons len_nil)))))) (by decide))) rfl)
    (ms_one (ms_ret (me_lst (ma_cons (me_var (pv 2) rfl) (ma_cons (me_var (pv 3) rfl) ma_nil)) (len_cons (len_cons len_nil)) (by decide)))))))) (c.glo 13) (fun _ _ _ _ _ _ us hl=>match us,hl with | [_],_=>rfl)
theorem ok_lw_corners_of (c:Cty faL xsL fnL K mg) : Cal P w K mg base 1 "_law_corners_of" [.fr] .ol f_lw_corners_of []:=by
    rw [f_lw_corners_of_eq]
    obtain ⟨fd,F⟩:=c.def_ 14 (d:=d_lw_corners_of) rfl
    exact Cal.of F (fn_ok (Γ:=[.fr]) F sc_lw_corners_of rfl rfl rfl (by decide) fun cdv A outer s H E hr G W tk=>
    (ms_one (ms_ret (me_lst (ma_cons (me_tup (ma_cons (me_ix (me_var (pv 0) rfl) me_int (fun _ _=>rfl)) (ma_cons (me_ix (me_var (pv 0) rfl) me_int (fun _ _=>rfl)) ma_nil)) (len_cons (len_cons len_nil)) (by decide)) (ma_cons (me_tup (ma_cons (me_ix (me_var (pv 0) rfl) me_int (fun _ _=>rfl)) (ma_cons (me_ix (me_var (pv 0) rfl) me_int (fun _ _=>rfl)) ma_nil)) (len_cons (len_cons len_nil)) (by decide)) (ma_cons (me_tup (ma_cons (me_ix (me_var (pv 0) rfl) me_int (fun _ _=>rfl)) (ma_cons (me_ix (me_var (pv 0) rfl) me_int (fun _ _=>rfl)) ma_nil)) (len_cons (len_cons len_nil)) (by decide)) ma_nil))) (len_cons (len_cons (len_cons len_nil))) (by decide))))) (c.glo 14) (fun _ _ _ _ _ _ us hl=>match us,hl with | [_],_=>rfl)
theorem ok_lw_low (c:Cty faL xsL fnL K mg) : Cal P w K mg base 1 "_law_low" [.fr,.fr] .fr f_lw_low []:=by
    rw [f_lw_low_eq]
    obtain ⟨fd,F⟩:=c.def_ 15 (d:=d_lw_low) rfl
    exact Cal.of F (fn_ok (Γ:=[.fr,.fr,.fr,.fr,.fr]) F sc_lw_low rfl rfl rfl (by decide) fun cdv A outer s H E hr G W tk=>
    (ms_cons (ms_set (ps_set (i:=2) sc_lw_low.nd rfl (Or.inl rfl) (me_abs (pe_callB call_abs rfl (c.free 34) (by decide +kernel) (ma_cons (me_var (pv 0) rfl) ma_nil)))) rfl)
    (ms_cons (ms_set (ps_set (i:=3) sc_lw_low.nd rfl (Or.inl rfl) (me_abs (pe_callB call_abs rfl (c.free 34) (by decide +kernel) (ma_cons (me_var (pv 1) rfl) ma_nil)))) rfl)
    (ms_cons (ms_while (fuel:=fu_lw_low_1) (ps_while (passes_of rfl) (mt_gt (me_var (pv 3) rfl) me_int)
    (ms_cons (ms_set (ps_set (i:=4) sc_lw_low.nd rfl (Or.inl rfl) (me_mod (me_var (pv 2) rfl) (me_var (pv 3) rfl))) rfl)
    (ms_cons (ms_set (ps_set (i:=2) sc_lw_low.nd rfl (Or.inl rfl) (me_var (pv 3) rfl)) rfl)
    (ms_one (ms_set (ps_set (i:=3) sc_lw_low.nd rfl (Or.inl rfl) (me_var (pv 4) rfl)) rfl))))))
    (ms_cons (ms_if (mt_lt (me_var (pv 1) rfl) me_int)
    (ms_one (ms_set (ps_set (i:=2) sc_lw_low.nd rfl (Or.inl rfl) (me_sub me_int (me_var (pv 2) rfl))) rfl))
    ms_nil)
    (ms_one (ms_ret (me_tup (ma_cons (me_divS (me_var (pv 0) rfl) (me_var (pv 2) rfl)) (ma_cons (me_divS (me_var (pv 1) rfl) (me_var (pv 2) rfl)) ma_nil)) (len_cons (len_cons len_nil)) (by decide))))))))) (c.glo 15) (fun _ _ _ _ _ _ us hl=>match us,hl with | [_,_],_=>rfl)
theorem ok_lw_tolerance (c:Cty faL xsL fnL K mg) (C_lw_draw:Cal P w K mg base 1 "_law_draw" [.bag,.fr] .fr drawF []) (C_lw_low:Cal P w K mg base 1 "_law_low" [.fr,.fr] .fr f_lw_low []) : Cal P w K mg base 2 "_law_tolerance" [.bag] .fr f_lw_tolerance []:=by
    rw [f_lw_tolerance_eq]
    obtain ⟨fd,F⟩:=c.def_ 16 (d:=d_lw_tolerance) rfl
    exact Cal.of F (fn_ok (Γ:=[.bag,.fr]) F sc_lw_tolerance rfl rfl rfl (by decide) fun cdv A outer s H E hr G W tk=>
    (ms_cons (ms_set (ps_set (i:=1) sc_lw_tolerance.nd rfl (Or.inl rfl) (me_callC (sp:=[some 0,none]) (dflt:=[]) C_lw_draw (hr.mono (by first | decide | omega)) tk rfl (mr_own (pv 0) rfl (mr_fr me_int mr_nil)))) rfl)
    (ms_cons (ms_if (mt_eq hr (me_var (pv 1) rfl) me_int)
    (ms_one (ms_ret (me_tup (ma_cons me_int (ma_cons me_int ma_nil)) (len_cons (len_cons len_nil)) (by decide))))
    ms_nil)
    (ms_cons (ms_if (mt_eq hr (me_var (pv 1) rfl) me_int)
    (ms_one (ms_ret (me_tup (ma_cons (me_callC (sp:=[some 0,none]) (dflt:=[]) C_lw_draw (hr.mono (by first | decide | omega)) tk rfl (mr_own (pv 0) rfl (mr_fr me_int mr_nil))) (ma_cons me_int ma_nil)) (len_cons (len_cons len_nil)) (by decide))))
    ms_nil)
    (ms_cons (ms_if (mt_eq hr (me_var (pv 1) rfl) me_int)
    (ms_one (ms_ret (me_callC (sp:=[none,none]) (dflt:=[]) C_lw_low (hr.mono (by first | decide | omega)) tk rfl (mr_fr (me_callC (sp:=[some 0,none]) (dflt:=[]) C_lw_draw (hr.mono (by first | decide | omega)) tk rfl (mr_own (pv 0) rfl (mr_fr me_int mr_nil))) (mr_fr (me_add me_int (me_callC (sp:=[some 0,none]) (dflt:=[]) C_lw_draw (hr.mono (by first | decide | omega)) tk rfl (mr_own (pv 0) rfl (mr_fr me_int mr_nil)))) mr_nil)))))
    ms_nil)
    (ms_one (ms_ret (me_tup (ma_cons (me_callC (sp:=[some 0,none]) (dflt:=[]) C_lw_draw (hr.mono (by first | decide | omega)) tk rfl (mr_own (pv 0) rfl (mr_fr me_int mr_nil))) (ma_cons me_int ma_nil)) (len_cons (len_cons len_nil)) (by decide))))))))) (c.glo 16) (fun _ _ _ _ _ _ us hl=>match us,hl with | [_],_=>rfl)
theorem ok_lw_sight (c:Cty faL xsL fnL K mg) (C_lw_draw:Cal P w K mg base 1 "_law_draw" [.bag,.fr] .fr drawF []) (C_lw_tolerance:Cal P w K mg base 2 "_law_tolerance" [.bag] .fr f_lw_tolerance []) : Cal P w K mg base 3 "_law_sight" [.bag,.fr] .fr f_lw_sight []:=by
    rw [f_lw_sight_eq]
    obtain ⟨fd,F⟩:=c.def_ 17 (d:=d_lw_sight) rfl
    exact Cal.of F (fn_ok (Γ:=[.bag,.fr,.fr,.xl,.fr,.fr]) F sc_lw_sight rfl rfl rfl (by decide) fun cdv A outer s H E hr G W tk=>
    (ms_cons (ms_set (ps_set (i:=2) sc_lw_sight.nd rfl (Or.inl rfl) me_non) rfl)
    (ms_cons (ms_if (mt_eq hr (me_callC (sp:=[some 0,none]) (dflt:=[]) C_lw_draw (hr.mono (by first | decide | omega)) tk rfl (mr_own (pv 0) rfl (mr_fr me_int mr_nil))) me_int)
    (ms_one (ms_set (ps_set (i:=2) sc_lw_sight.nd rfl (Or.inl rfl) (me_tup (ma_cons (me_sub (me_callC (sp:=[some 0,none]) (dflt:=[]) C_lw_draw (hr.mono (by first | decide | omega)) tk rfl (mr_own (pv 0) rfl (mr_fr me_int mr_nil))) me_int) (ma_cons (me_sub (me_callC (sp:=[some 0,none]) (dflt:=[]) C_lw_draw (hr.mono (by first | decide | omega)) tk rfl (mr_own (pv 0) rfl (mr_fr me_int mr_nil))) me_int) ma_nil)) (len_cons (len_cons len_nil)) (by decide))) rfl))
    ms_nil)
    (ms_cons (ms_setXO (ps_set (i:=3) sc_lw_sight.nd rfl (Or.inl rfl) (me_lst ma_nil len_nil (by decide))) rfl (by decide))
    (ms_cons (ms_for (ps_for (passes_of rfl) rfl (mi_rng1 (pi_range1 rfl (c.free 33) (ma_cons (me_ix (me_fix (me_lst (ma_cons me_int (ma_cons me_int (ma_cons me_int (ma_cons me_int (ma_cons me_int ma_nil))))) (len_cons (len_cons (len_cons (len_cons (len_cons len_nil))))) (by decide))) (me_callC (sp:=[some 0,none]) (dflt:=[]) C_lw_draw (hr.mono (by first | decide | omega)) tk rfl (mr_own (pv 0) rfl (mr_fr me_int mr_nil))) (fun _ _=>rfl)) ma_nil))) (mg_n (pg_name (i:=4) sc_lw_sight.nd rfl (Or.inl rfl)) rfl)
    (ms_cons (ms_set (ps_set (i:=5) sc_lw_sight.nd rfl (Or.inl rfl) (me_tup (ma_cons (me_sub (me_callC (sp:=[some 0,none]) (dflt:=[]) C_lw_draw (hr.mono (by first | decide | omega)) tk rfl (mr_own (pv 0) rfl (mr_fr me_int mr_nil))) me_int) (ma_cons (me_sub (me_callC (sp:=[some 0,none]) (dflt:=[]) C_lw_draw (hr.mono (by first | decide | omega)) tk rfl (mr_own (pv 0) rfl (mr_fr me_int mr_nil))) me_int) (ma_cons (me_sub (me_callC (sp:=[some 0,none]) (dflt:=[]) C_lw_draw (hr.mono (by first | decide | omega)) tk rfl (mr_own (pv 0) rfl (mr_fr me_int mr_nil))) me_int) (ma_cons (me_sub (me_callC (sp:=[some 0,none]) (dflt:=[]) C_lw_draw (hr.mono (by first | decide | omega)) tk rfl (mr_own (pv 0) rfl (mr_fr me_int mr_nil))) me_int) ma_nil)))) (len_cons (len_cons (len_cons (len_cons len_nil)))) (by decide))) rfl)
    (ms_one (ms_appX (pe_bm PySem.F.plainAttrs_list PySem.F.slot_list_append PySem.F.type_list_append mt_append (pv 3) (pa_cons (me_tup (ma_cons (me_ix (me_var (pv 5) rfl) me_int (fun _ _=>rfl)) (ma_cons (me_ix (me_var (pv 5) rfl) me_int (fun _ _=>rfl)) (ma_cons (me_ix (me_var (pv 5) rfl) me_int (fun _ _=>rfl)) (ma_cons (me_ix (me_var (pv 5) rfl) me_int (fun _ _=>rfl)) (ma_cons (me_callC (sp:=[some 0]) (dflt:=[]) C_lw_tolerance (hr.mono (by first | decide | omega)) tk rfl (mr_own (pv 0) rfl mr_nil)) ma_nil))))) (len_cons (len_cons (len_cons (len_cons (len_cons len_nil))))) (by decide)) pa_nil)) rfl)))))
    (ms_one (ms_ret (me_tup (ma_cons (me_callC (sp:=[some 0]) (dflt:=[]) C_lw_tolerance (hr.mono (by first | decide | omega)) tk rfl (mr_own (pv 0) rfl mr_nil)) (ma_cons (me_var (pv 2) rfl) (ma_cons (me_varX (pv 3) rfl (by decide)) ma_nil))) (len_cons (len_cons (len_cons len_nil))) (by decide))))))))) (c.glo 17) (fun _ _ _ _ _ _ us hl=>match us,hl with | [_,_],_=>rfl)
theorem ok_lw_limit (c:Cty faL xsL fnL K mg) : Cal P w K mg base 1 "_law_limit" [.fr,.fr] .fr f_lw_limit []:=by
    rw [f_lw_limit_eq]
    obtain ⟨fd,F⟩:=c.def_ 18 (d:=d_lw_limit) rfl
    exact Cal.of F (fn_ok (Γ:=[.fr,.fr,.fr,.fr,.fr,.fr]) F sc_lw_limit rfl rfl rfl (by decide) fun cdv A outer s H E hr G W tk=>
    (ms_cons (ms_set (ps_set (i:=2) sc_lw_limit.nd rfl (Or.inl rfl) me_non) rfl)
    (ms_cons (ms_for (ps_for (passes_of rfl) rfl (mi_seq (me_ix (me_var (pv 0) rfl) me_int (fun _ _=>rfl))) (mg_n (pg_name (i:=3) sc_lw_limit.nd rfl (Or.inl rfl)) rfl)
    (ms_cons (ms_set (ps_set (i:=4) sc_lw_limit.nd rfl (Or.inl rfl) (me_ge (me_max2 (pe_callB (call_max2 rfl) rfl (c.free 28) (by decide +kernel) (ma_cons (me_ix (me_var (pv 3) rfl) me_int (fun _ _=>rfl)) (ma_cons (me_ix (me_var (pv 3) rfl) me_int (fun _ _=>rfl)) ma_nil)))) (me_pick3 (pe_callB (call_min3Nu rfl) rfl (c.free 27) (by decide +kernel) (ma_cons (me_ix (me_var (pv 1) rfl) me_int (fun _ _=>rfl)) (ma_cons (me_ix (me_var (pv 1) rfl) me_int (fun _ _=>rfl)) (ma_cons (me_ix (me_var (pv 1) rfl) me_int (fun _ _=>rfl)) ma_nil))))))) rfl)
    (ms_cons (ms_set (ps_set (i:=4) sc_lw_limit.nd rfl (Or.inl rfl) (me_and (me_var (pv 4) rfl) (me_one (me_le (me_min2 (pe_callB (call_min2 rfl) rfl (c.free 27) (by decide +kernel) (ma_cons (me_ix (me_var (pv 3) rfl) me_int (fun _ _=>rfl)) (ma_cons (me_ix (me_var (pv 3) rfl) me_int (fun _ _=>rfl)) ma_nil)))) (me_pick3 (pe_callB (call_max3Nu rfl) rfl (c.free 28) (by decide +kernel) (ma_cons (me_ix (me_var (pv 1) rfl) me_int (fun _ _=>rfl)) (ma_cons (me_ix (me_var (pv 1) rfl) me_int (fun _ _=>rfl)) (ma_cons (me_ix (me_var (pv 1) rfl) me_int (fun _ _=>rfl)) ma_nil))))))))) rfl)
    (ms_cons (ms_set (ps_set (i:=5) sc_lw_limit.nd rfl (Or.inl rfl) (me_ge (me_max2 (pe_callB (call_max2 rfl) rfl (c.free 28) (by decide +kernel) (ma_cons (me_ix (me_var (pv 3) rfl) me_int (fun _ _=>rfl)) (ma_cons (me_ix (me_var (pv 3) rfl) me_int (fun _ _=>rfl)) ma_nil)))) (me_pick3 (pe_callB (call_min3Nu rfl) rfl (c.free 27) (by decide +kernel) (ma_cons (me_ix (me_var (pv 1) rfl) me_int (fun _ _=>rfl)) (ma_cons (me_ix (me_var (pv 1) rfl) me_int (fun _ _=>rfl)) (ma_cons (me_ix (me_var (pv 1) rfl) me_int (fun _ _=>rfl)) ma_nil))))))) rfl)
    (ms_cons (ms_set (ps_set (i:=5) sc_lw_limit.nd rfl (Or.inl rfl) (me_and (me_var (pv 5) rfl) (me_one (me_le (me_min2 (pe_callB (call_min2 rfl) rfl (c.free 27) (by decide +kernel) (ma_cons (me_ix (me_var (pv 3) rfl) me_int (fun _ _=>rfl)) (ma_cons (me_ix (me_var (pv 3) rfl) me_int (fun _ _=>rfl)) ma_nil)))) (me_pick3 (pe_callB (call_max3Nu rfl) rfl (c.free 28) (by decide +kernel) (ma_cons (me_ix (me_var (pv 1) rfl) me_int (fun _ _=>rfl)) (ma_cons (me_ix (me_var (pv 1) rfl) me_int (fun _ _=>rfl)) (ma_cons (me_ix (me_var (pv 1) rfl) me_int (fun _ _=>rfl)) ma_nil))))))))) rfl)
    (ms_one (ms_if (mt_w (mt_and (mt_tru (me_var (pv 4) rfl)) (mt_and1 (mt_tru (me_var (pv 5) rfl)))))
    (ms_one (ms_if (mt_w (mt_or (mt_isN (me_var (pv 2) rfl)) (mt_or1 (mt_lt (me_mul (me_ix (me_ix (me_var (pv 3) rfl) me_int (fun _ _=>rfl)) me_int (fun _ _=>rfl)) (me_ix (me_var (pv 2) rfl) me_int (fun _ _=>rfl))) (me_mul (me_ix (me_var (pv 2) rfl) me_int (fun _ _=>rfl)) (me_ix (me_ix (me_var (pv 3) rfl) me_int (fun _ _=>rfl)) me_int (fun _ _=>rfl)))))))
    (ms_one (ms_set (ps_set (i:=2) sc_lw_limit.nd rfl (Or.inl rfl) (me_ix (me_var (pv 3) rfl) me_int (fun _ _=>rfl))) rfl))
    ms_nil))
    ms_nil))))))))
    (ms_cons (ms_if (mt_isN (me_var (pv 2) rfl))
    (ms_one (ms_ret (me_ix (me_var (pv 0) rfl) me_int (fun _ _=>rfl))))
    ms_nil)
    (ms_one (ms_ret (me_var (pv 2) rfl))))))) (c.glo 18) (fun _ _ _ _ _ _ us hl=>match us,hl with | [_,_],_=>rfl)
theorem ok_lw_far (c:Cty faL xsL fnL K mg) (C_lw_corners_of:Cal P w K mg base 1 "_law_corners_of" [.fr] .ol f_lw_corners_of []) : Cal P w K mg base 2 "_law_far" [.fr,.fr] .fr f_lw_far []:=by
    rw [f_lw_far_eq]
    obtain ⟨fd,F⟩:=c.def_ 19 (d:=d_lw_far) rfl
    exact Cal.of F (fn_ok (Γ:=[.fr,.fr,.fr,.fr,.fr]) F sc_lw_far rfl rfl rfl (by decide) fun cdv A outer s H E hr G W tk=>
    (ms_cons (ms_if (mt_isN (me_ix (me_var (pv 0) rfl) me_int (fun _ _=>rfl)))
    (ms_one (ms_ret me_int))
    ms_nil)
    (ms_cons (ms_asg (ps_asg (me_ix (me_var (pv 0) rfl) me_int (fun _ _=>rfl)) (mg_tup (k:=2) rfl (mg_cons (mg_n (pg_name (i:=2) sc_lw_far.nd rfl (Or.inr rfl)) rfl) (mg_cons (mg_n (pg_name (i:=3) sc_lw_far.nd rfl (Or.inr rfl)) rfl) mg_nil)))))
    (ms_one (ms_ret (me_add me_int (me_best (pe_callB (call_minI hr rfl) rfl (c.free 27) (by decide +kernel) (ma_cons (me_fix (me_comp (pe_lc (own:=[("_law_at",4)]) rfl sc_lw_far.nd (mi_seq (me_fix (me_callC (sp:=[none]) (dflt:=[]) C_lw_corners_of (hr.mono (by first | decide | omega)) tk rfl (mr_fr (me_var (pv 1) rfl) mr_nil)))) (blkOk_by (own:=[("_law_at",4)]) (N:=N_lw_far) (sc:=defScope s_lw_far) (by decide +kernel)) (fun _ _ _ _ _=>(mg_n (pg_name (i:=4) sc_lw_far.nd rfl (Or.inl rfl)) rfl)) (fun _ _ _ _ _=>(pts_yes pts_nil)) (fun _ _ _ _ _=>(me_add (me_mul (me_sub (me_ix (me_var (pv 4) rfl) me_int (fun _ _=>rfl)) (me_var (pv 2) rfl)) (me_sub (me_ix (me_var (pv 4) rfl) me_int (fun _ _=>rfl)) (me_var (pv 2) rfl))) (me_mul (me_sub (me_ix (me_var (pv 4) rfl) me_int (fun _ _=>rfl)) (me_var (pv 3) rfl)) (me_sub (me_ix (me_var (pv 4) rfl) me_int (fun _ _=>rfl)) (me_var (pv 3) rfl)))))))) ma_nil))))))))) (c.glo 19) (fun _ _ _ _ _ _ us hl=>match us,hl with | [_,_],_=>rfl)
theorem ok_lw_shape (c:Cty faL xsL fnL K mg) (C_lw_roots:Cal P w K mg base 1 "_law_roots" [.fr] .ol f_lw_roots []) (C_lw_draw:Cal P w K mg base 1 "_law_draw" [.bag,.fr] .fr drawF []) (C_lw_middle:Cal P w K mg base 1 "_law_middle" [.fr] .fr f_lw_middle []) (C_lw_halves:Cal P w K mg base 2 "_law_halves" [.fr] .ol f_lw_halves []) : Cal P w K mg base 3 "_law_shape" [.bag,.fr] .fr f_lw_shape []:=by
    rw [f_lw_shape_eq]
    obtain ⟨fd,F⟩:=c.def_ 20 (d:=d_lw_shape) rfl
    exact Cal.of F (fn_ok (Γ:=[.bag,.fr,.fr,.fr,.fr]) F sc_lw_shape rfl rfl rfl (by decide) fun cdv A outer s H E hr G W tk=>
    (ms_cons (ms_set (ps_set (i:=2) sc_lw_shape.nd rfl (Or.inl rfl) (me_fix (me_callC (sp:=[none]) (dflt:=[]) C_lw_roots (hr.mono (by first | decide | omega)) tk rfl (mr_fr (me_var (pv 1) rfl) mr_nil)))) rfl)
    (ms_cons (ms_set (ps_set (i:=3) sc_lw_shape.nd rfl (Or.inl rfl) (me_ix (me_var (pv 2) rfl) (me_callC (sp:=[some 0,none]) (dflt:=[]) C_lw_draw (hr.mono (by first | decide | omega)) tk rfl (mr_own (pv 0) rfl (mr_fr (me_len (pe_callB call_len rfl (c.free 32) PySem.boot_len (ma_cons (me_var (pv 2) rfl) ma_nil))) mr_nil))) (fun _ _=>rfl))) rfl)
    (ms_cons (ms_for (ps_for (passes_of rfl) rfl (mi_rng1 (pi_range1 rfl (c.free 33) (ma_cons (me_callC (sp:=[some 0,none]) (dflt:=[]) C_lw_draw (hr.mono (by first | decide | omega)) tk rfl (mr_own (pv 0) rfl (mr_fr me_int mr_nil))) ma_nil))) (mg_n (pg_name (i:=4) sc_lw_shape.nd rfl (Or.inl rfl)) rfl)
    (ms_one (ms_if (mt_notN (me_callC (sp:=[none]) (dflt:=[]) C_lw_middle (hr.mono (by first | decide | omega)) tk rfl (mr_fr (me_var (pv 3) rfl) mr_nil)))
    (ms_one (ms_set (ps_set (i:=3) sc_lw_shape.nd rfl (Or.inl rfl) (me_ix (me_fix (me_callC (sp:=[none]) (dflt:=[]) C_lw_halves (hr.mono (by first | decide | omega)) tk rfl (mr_fr (me_var (pv 3) rfl) mr_nil))) (me_callC (sp:=[some 0,none]) (dflt:=[]) C_lw_draw (hr.mono (by first | decide | omega)) tk rfl (mr_own (pv 0) rfl (mr_fr me_int mr_nil))) (fun _ _=>rfl))) rfl))
    ms_nil))))
    (ms_one (ms_ret (me_var (pv 3) rfl))))))) (c.glo 20) (fun _ _ _ _ _ _ us hl=>match us,hl with | [_,_],_=>rfl)
theorem ok_View_init_p0 (c:Cty faL xsL fnL K mg) (K_View:ObjC K mg "View" ["tolerance", "eye", "boxes"] ["__init__", "limit", "far"]) (hE1_0:((kwdAt ("View",some "__init__") "boxes" K,.non) : Addr × D) ∈ Cls.emps) (hE2:∀ a,(a,D.non) ∈ Cls.emps → ∀ H,SqT K H a []) (C_as_share:Cal P w K mg base 3 "as_share" [.fr] .fr f_as_share []) (C_as_box:Cal P w K mg base 4 "as_box" [.fr] .fr f_as_box []) : CalI P w K mg base 5 "View" 3 f_View_init [.non,.ref (kwdAt ("View",some "__init__") "boxes" K)]:=by
    rw [f_View_init_eq]
    obtain ⟨fd,F⟩:=c.def_ 24 (d:=d_View_init) rfl
    obtain ⟨ds,hv,b⟩:=F.binds0 (ps:=["self", "tolerance", "eye", "boxes"]) 2 (List.cons_ne_nil _ _) (by rfl) (fun D doc pm an cdv ct us ks h1 h2=>match us,ks,h1,h2 with | [_,_],[_,_],_,_=>⟨_,_,_,_,_,_,rfl,rfl,⟨_,_,_,_,_,_,rfl,rfl,rfl⟩⟩)
    exact ⟨_,fd,["self", "tolerance", "eye", "boxes"],ds,(fn_ok (Γ:=[.ob "View" [],.fr,.fr,.fr,.fr]) F sc_View_init rfl rfl rfl (by decide) fun cdv A outer s H E hr G W tk=>
    (ms_cons (ms_fldO K_View.cls (K_View.no _ (by decide)) (pv 0) rfl (me_callC (sp:=[none]) (dflt:=[]) C_as_share (hr.mono (by first | decide | omega)) tk rfl (mr_fr (me_var (pv 1) rfl) mr_nil)))
    (ms_cons (ms_fldO K_View.cls (K_View.no _ (by decide)) (pv 0) rfl (me_var (pv 2) rfl))
    (ms_one (ms_fldO K_View.cls (K_View.no _ (by decide)) (pv 0) rfl (me_fix (me_comp (pe_lc (own:=[("box",4)]) rfl sc_View_init.nd (mi_seqE hE2 (me_var (pv 3) rfl)) (blkOk_by (own:=[("box",4)]) (N:=N_View_init) (sc:=defScope s_View_init) (by decide +kernel)) (fun _ _ _ _ _=>(mg_n (pg_name (i:=4) sc_View_init.nd rfl (Or.inl rfl)) rfl)) (fun _ _ _ _ _=>(pts_yes pts_nil)) (fun _ _ _ _ _=>(me_callC (sp:=[none]) (dflt:=[]) C_as_box (hr.mono (by first | decide | omega)) takes0 rfl (mr_fr (me_var (pv 4) rfl) mr_nil))))))))))),K_View.mg_,K_View.mk_,b,hv⟩
theorem ok_View_init_p1 (c:Cty faL xsL fnL K mg) (K_View:ObjC K mg "View" ["tolerance", "eye", "boxes"] ["__init__", "limit", "far"]) (hE1_0:((kwdAt ("View",some "__init__") "boxes" K,.non) : Addr × D) ∈ Cls.emps) (hE2:∀ a,(a,D.non) ∈ Cls.emps → ∀ H,SqT K H a []) (C_as_share:Cal P w K mg base 3 "as_share" [.fr] .fr f_as_share []) (C_as_box:Cal P w K mg base 4 "as_box" [.fr] .fr f_as_box []) : CalIN P w K mg base 5 "View" 3 f_View_init 1 ["boxes"] (fun us ws:List D=>(us.drop 0).take 1 ++ ([.non] : List D) ++ (ws.drop 0).take 1):=by
    rw [f_View_init_eq]
    obtain ⟨fd,F⟩:=c.def_ 24 (d:=d_View_init) rfl
    obtain ⟨mv,kb⟩:=F.kbinds0 (ps:=["self", "tolerance", "eye", "boxes"]) 2 ["boxes"] [("eye",.non)] (fun {_} us ms ws=>(us.drop 0).take 1 ++ (us.drop 1).take 1 ++ (ms.drop 0).take 1 ++ (ws.drop 0).take 1) (List.cons_ne_nil _ _) (fun q hq=>by rw [List.mem_singleton.mp hq]; exact List.mem_of_getElem? (i:=0) rfl) (fun r1 r3 r4=>(((((r1.drop 0).take 1).append ((r1.drop 1).take 1)).append ((r3.drop 0).take 1)).append ((r4.drop 0).take 1))) (fun D doc pm an cdv ct us mv ws h1 h2 h3=>match us,mv,ws,h1,h2,h3 with | [_,_],[_],[_],_,_,_=>⟨_,_,_,_,_,_,rfl,rfl,rfl⟩)
    exact ⟨_,fd,["self", "tolerance", "eye", "boxes"],_,_,(fn_ok (Γ:=[.ob "View" [],.fr,.fr,.fr,.fr]) F sc_View_init rfl rfl rfl (by decide) fun cdv A outer s H E hr G W tk=>
    (ms_cons (ms_fldO K_View.cls (K_View.no _ (by decide)) (pv 0) rfl (me_callC (sp:=[none]) (dflt:=[]) C_as_share (hr.mono (by first | decide | omega)) tk rfl (mr_fr (me_var (pv 1) rfl) mr_nil)))
    (ms_cons (ms_fldO K_View.cls (K_View.no _ (by decide)) (pv 0) rfl (me_var (pv 2) rfl))
    (ms_one (ms_fldO K_View.cls (K_View.no _ (by decide)) (pv 0) rfl (me_fix (me_comp (pe_lc (own:=[("box",4)]) rfl sc_View_init.nd (mi_seqE hE2 (me_var (pv 3) rfl)) (blkOk_by (own:=[("box",4)]) (N:=N_View_init) (sc:=defScope s_View_init) (by decide +kernel)) (fun _ _ _ _ _=>(mg_n (pg_name (i:=4) sc_View_init.nd rfl (Or.inl rfl)) rfl)) (fun _ _ _ _ _=>(pts_yes pts_nil)) (fun _ _ _ _ _=>(me_callC (sp:=[none]) (dflt:=[]) C_as_box (hr.mono (by first | decide | omega)) takes0 rfl (mr_fr (me_var (pv 4) rfl) mr_nil))))))))))),K_View.mg_,K_View.mk_,kb,fun F ds es vs ws b r t hl hl2=>by
      cases r with
      | nil=>simp at hl
      | cons u0 r0=>
        cases r0 with
        | cons _ _=>simp at hl
        | nil=>
          cases t with
          | nil=>simp at hl2
          | cons q0 t0=>
            cases t0 with
            | cons _ _=>simp at hl2
            | nil=>
              exact ⟨_,rfl,(.cons u0 (.cons .non (.cons q0 .nil))),rfl⟩⟩
theorem ok_View_init_p2 (c:Cty faL xsL fnL K mg) (K_View:ObjC K mg "View" ["tolerance", "eye", "boxes"] ["__init__", "limit", "far"]) (hE1_0:((kwdAt ("View",some "__init__") "boxes" K,.non) : Addr × D) ∈ Cls.emps) (hE2:∀ a,(a,D.non) ∈ Cls.emps → ∀ H,SqT K H a []) (C_as_share:Cal P w K mg base 3 "as_share" [.fr] .fr f_as_share []) (C_as_box:Cal P w K mg base 4 "as_box" [.fr] .fr f_as_box []) : CalIN P w K mg base 5 "View" 3 f_View_init 1 ["eye"] (fun us ws:List D=>(us.drop 0).take 1 ++ (ws.drop 0).take 1 ++ ([.obj "()" [] [.non]] : List D)):=by
    rw [f_View_init_eq]
    obtain ⟨fd,F⟩:=c.def_ 24 (d:=d_View_init) rfl
    obtain ⟨mv,kb⟩:=F.kbinds0 (ps:=["self", "tolerance", "eye", "boxes"]) 2 ["eye"] [("boxes",.ref (kwdAt ("View",some "__init__") "boxes" K))] (fun {_} us ms ws=>(us.drop 0).take 1 ++ (us.drop 1).take 1 ++ (ws.drop 0).take 1 ++ (ms.drop 0).take 1) (List.cons_ne_nil _ _) (fun q hq=>by rw [List.mem_singleton.mp hq]; exact List.mem_of_getElem? (i:=1) rfl) (fun r1 r3 r4=>(((((r1.drop 0).take 1).append ((r1.drop 1).take 1)).append ((r4.drop 0).take 1)).append ((r3.drop 0).take 1))) (fun D doc pm an cdv ct us mv ws h1 h2 h3=>match us,mv,ws,h1,h2,h3 with | [_,_],[_],[_],_,_,_=>⟨_,_,_,_,_,_,rfl,rfl,rfl⟩)
    exact ⟨_,fd,["self", "tolerance", "eye", "boxes"],_,_,(fn_ok (Γ:=[.ob "View" [],.fr,.fr,.fr,.fr]) F sc_View_init rfl rfl rfl (by decide) fun cdv A outer s H E hr G W tk=>
    (ms_cons (ms_fldO K_View.cls (K_View.no _ (by decide)) (pv 0) rfl (me_callC (sp:=[none]) (dflt:=[]) C_as_share (hr.mono (by first | decide | omega)) tk rfl (mr_fr (me_var (pv 1) rfl) mr_nil)))
    (ms_cons (ms_fldO K_View.cls (K_View.no _ (by decide)) (pv 0) rfl (me_var (pv 2) rfl))
    (ms_one (ms_fldO K_View.cls (K_View.no _ (by decide)) (pv 0) rfl (me_fix (me_comp (pe_lc (own:=[("box",4)]) rfl sc_View_init.nd (mi_seqE hE2 (me_var (pv 3) rfl)) (blkOk_by (own:=[("box",4)]) (N:=N_View_init) (sc:=defScope s_View_init) (by decide +kernel)) (fun _ _ _ _ _=>(mg_n (pg_name (i:=4) sc_View_init.nd rfl (Or.inl rfl)) rfl)) (fun _ _ _ _ _=>(pts_yes pts_nil)) (fun _ _ _ _ _=>(me_callC (sp:=[none]) (dflt:=[]) C_as_box (hr.mono (by first | decide | omega)) takes0 rfl (mr_fr (me_var (pv 4) rfl) mr_nil))))))))))),K_View.mg_,K_View.mk_,kb,fun F ds es vs ws b r t hl hl2=>by
      cases r with
      | nil=>simp at hl
      | cons u0 r0=>
        cases r0 with
        | cons _ _=>simp at hl
        | nil=>
          cases t with
          | nil=>simp at hl2
          | cons q0 t0=>
            cases t0 with
            | cons _ _=>simp at hl2
            | nil=>
              exact ⟨_,rfl,(.cons u0 (.cons q0 (.cons (Rep.emp hE1_0) .nil))),rfl⟩⟩
theorem ok_View_init_p3 (c:Cty faL xsL fnL K mg) (K_View:ObjC K mg "View" ["tolerance", "eye", "boxes"] ["__init__", "limit", "far"]) (hE1_0:((kwdAt ("View",some "__init__") "boxes" K,.non) : Addr × D) ∈ Cls.emps) (hE2:∀ a,(a,D.non) ∈ Cls.emps → ∀ H,SqT K H a []) (C_as_share:Cal P w K mg base 3 "as_share" [.fr] .fr f_as_share []) (C_as_box:Cal P w K mg base 4 "as_box" [.fr] .fr f_as_box []) : CalIN P w K mg base 5 "View" 3 f_View_init 1 ["boxes", "eye"] (fun us ws:List D=>(us.drop 0).take 1 ++ (ws.drop 1).take 1 ++ (ws.drop 0).take 1):=by
    rw [f_View_init_eq]
    obtain ⟨fd,F⟩:=c.def_ 24 (d:=d_View_init) rfl
    obtain ⟨mv,kb⟩:=F.kbinds0 (ps:=["self", "tolerance", "eye", "boxes"]) 2 ["boxes", "eye"] [] (fun {_} us ms ws=>(us.drop 0).take 1 ++ (us.drop 1).take 1 ++ (ws.drop 1).take 1 ++ (ws.drop 0).take 1) (List.cons_ne_nil _ _) (fun q hq=>by cases hq) (fun r1 r3 r4=>(((((r1.drop 0).take 1).append ((r1.drop 1).take 1)).append ((r4.drop 1).take 1)).append ((r4.drop 0).take 1))) (fun D doc pm an cdv ct us mv ws h1 h2 h3=>match us,mv,ws,h1,h2,h3 with | [_,_],[],[_,_],_,_,_=>rfl)
    exact ⟨_,fd,["self", "tolerance", "eye", "boxes"],_,_,(fn_ok (Γ:=[.ob "View" [],.fr,.fr,.fr,.fr]) F sc_View_init rfl rfl rfl (by decide) fun cdv A outer s H E hr G W tk=>
    (ms_cons (ms_fldO K_View.cls (K_View.no _ (by decide)) (pv 0) rfl (me_callC (sp:=[none]) (dflt:=[]) C_as_share (hr.mono (by first | decide | omega)) tk rfl (mr_fr (me_var (pv 1) rfl) mr_nil)))
    (ms_cons (ms_fldO K_View.cls (K_View.no _ (by decide)) (pv 0) rfl (me_var (pv 2) rfl))
    (ms_one (ms_fldO K_View.cls (K_View.no _ (by decide)) (pv 0) rfl (me_fix (me_comp (pe_lc (own:=[("box",4)]) rfl sc_View_init.nd (mi_seqE hE2 (me_var (pv 3) rfl)) (blkOk_by (own:=[("box",4)]) (N:=N_View_init) (sc:=defScope s_View_init) (by decide +kernel)) (fun _ _ _ _ _=>(mg_n (pg_name (i:=4) sc_View_init.nd rfl (Or.inl rfl)) rfl)) (fun _ _ _ _ _=>(pts_yes pts_nil)) (fun _ _ _ _ _=>(me_callC (sp:=[none]) (dflt:=[]) C_as_box (hr.mono (by first | decide | omega)) takes0 rfl (mr_fr (me_var (pv 4) rfl) mr_nil))))))))))),K_View.mg_,K_View.mk_,kb,fun F ds es vs ws b r t hl hl2=>by
      cases r with
      | nil=>simp at hl
      | cons u0 r0=>
        cases r0 with
        | cons _ _=>simp at hl
        | nil=>
          cases t with
          | nil=>simp at hl2
          | cons q0 t0=>
            cases t0 with
            | nil=>simp at hl2
            | cons q1 t1=>
              cases t1 with
              | cons _ _=>simp at hl2
              | nil=>
                exact ⟨_,rfl,(.cons u0 (.cons q1 (.cons q0 .nil))),rfl⟩⟩
theorem ok_lw_view (c:Cty faL xsL fnL K mg) (hE1_0:((kwdAt ("View",some "__init__") "boxes" K,.non) : Addr × D) ∈ Cls.emps) (C_View_init_p0:CalI P w K mg base 5 "View" 3 f_View_init [.non,.ref (kwdAt ("View",some "__init__") "boxes" K)]) (C_View_init_p1:CalIN P w K mg base 5 "View" 3 f_View_init 1 ["boxes"] (fun us ws:List D=>(us.drop 0).take 1 ++ ([.non] : List D) ++ (ws.drop 0).take 1)) (C_View_init_p2:CalIN P w K mg base 5 "View" 3 f_View_init 1 ["eye"] (fun us ws:List D=>(us.drop 0).take 1 ++ (ws.drop 0).take 1 ++ ([.obj "()" [] [.non]] : List D))) (C_View_init_p3:CalIN P w K mg base 5 "View" 3 f_View_init 1 ["boxes", "eye"] (fun us ws:List D=>(us.drop 0).take 1 ++ (ws.drop 1).take 1 ++ (ws.drop 0).take 1)) (C_lw_draw:Cal P w K mg base 1 "_law_draw" [.bag,.fr] .fr drawF []) : Cal P w K mg base 7 "_law_view" [.bag,.fr] .fr f_lw_view []:=by
    rw [f_lw_view_eq]
    obtain ⟨fd,F⟩:=c.def_ 21 (d:=d_lw_view) rfl
    exact Cal.of F (fn_ok (Γ:=[.bag,.fr,.fr,.fr,.fr]) F sc_lw_view rfl rfl rfl (by decide) fun cdv A outer s H E hr G W tk=>
    (ms_cons (ms_asg (ps_asg (me_var (pv 1) rfl) (mg_tup (k:=3) rfl (mg_cons (mg_n (pg_name (i:=2) sc_lw_view.nd rfl (Or.inl rfl)) rfl) (mg_cons (mg_n (pg_name (i:=3) sc_lw_view.nd rfl (Or.inl rfl)) rfl) (mg_cons (mg_n (pg_name (i:=4) sc_lw_view.nd rfl (Or.inl rfl)) rfl) mg_nil))))))
    (ms_cons (ms_if (mt_w (mt_and (mt_eq hr (me_ix (me_var (pv 2) rfl) me_int (fun _ _=>rfl)) me_int) (mt_and1 (mt_eq hr (me_callC (sp:=[some 0,none]) (dflt:=[]) C_lw_draw (hr.mono (by first | decide | omega)) tk rfl (mr_own (pv 0) rfl (mr_fr me_int mr_nil))) me_int))))
    (ms_one (ms_set (ps_set (i:=2) sc_lw_view.nd rfl (Or.inl rfl) (me_ix (me_var (pv 2) rfl) me_int (fun _ _=>rfl))) rfl))
    ms_nil)
    (ms_cons (ms_if (mt_w (mt_and (mt_isN (me_var (pv 3) rfl)) (mt_and1 (mt_eq hr (me_len (pe_callB call_len rfl (c.free 32) PySem.boot_len (ma_cons (me_var (pv 4) rfl) ma_nil))) me_int))))
    (ms_one (ms_ret (me_make (np:=3) (dflt:=[.non,.obj "()" [] [.non]]) C_View_init_p0 (hr.mono (by first | decide | omega)) tk rfl (ma_cons (me_var (pv 2) rfl) ma_nil) (len_cons len_nil) rfl (hd:=fun F=>(Reps.cons (Rep.non) (Reps.cons (Rep.emp hE1_0) Reps.nil))))))
    ms_nil)
    (ms_cons (ms_if (mt_isN (me_var (pv 3) rfl))
    (ms_one (ms_ret (me_makeN (np:=3) C_View_init_p1 (hr.mono (by first | decide | omega)) tk rfl (ma_cons (me_var (pv 2) rfl) ma_nil) (len_cons len_nil) (mk_cons (me_fix (me_list (pe_callTy call_list_of rfl (c.free 31) (by decide +kernel) (pa_cons (me_var (pv 4) rfl) pa_nil)) (pe_callTy (call_list_dT rfl) rfl (c.free 31) (by decide +kernel) (pa_cons (me_var (pv 4) rfl) pa_nil)))) mk_nil) (len_cons len_nil))))
    ms_nil)
    (ms_cons (ms_if (mt_eq hr (me_len (pe_callB call_len rfl (c.free 32) PySem.boot_len (ma_cons (me_var (pv 4) rfl) ma_nil))) me_int)
    (ms_one (ms_ret (me_makeN (np:=3) C_View_init_p2 (hr.mono (by first | decide | omega)) tk rfl (ma_cons (me_var (pv 2) rfl) ma_nil) (len_cons len_nil) (mk_cons (me_var (pv 3) rfl) mk_nil) (len_cons len_nil))))
    ms_nil)
    (ms_one (ms_ret (me_makeN (np:=3) C_View_init_p3 (hr.mono (by first | decide | omega)) tk rfl (ma_cons (me_var (pv 2) rfl) ma_nil) (len_cons len_nil) (mk_cons (me_tupOf (pe_callTy call_tuple_of rfl (c.free 30) (by decide +kernel) (pa_cons (me_var (pv 4) rfl) pa_nil))) (mk_cons (me_var (pv 3) rfl) mk_nil)) (len_cons (len_cons len_nil))))))))))) (c.glo 21) (fun _ _ _ _ _ _ us hl=>match us,hl with | [_,_],_=>rfl)
theorem ok_View_limit_p0 (c:Cty faL xsL fnL K mg) (K_View:ObjC K mg "View" ["tolerance", "eye", "boxes"] ["__init__", "limit", "far"]) (C_touches:Cal P w K mg base 1 "touches" [.fr,.fr] .fr f_touches []) (C_less:Cal P w K mg base 1 "less" [.fr,.fr] .fr f_less []) : CalM P w K mg base 2 "View" "limit" 1 .fr f_View_limit []:=by
    rw [f_View_limit_eq]
    obtain ⟨fd,F⟩:=c.def_ 25 (d:=d_View_limit) rfl
    obtain ⟨ds,hv,b⟩:=(⟨[],.nil,F.bindsN (ps:=["self", "shape"]) fun _ _ _ _ _ _ us hl=>match us,hl with | [_,_],_=>rfl⟩ : ∃ ds,Vals [] ds ∧ Binds K fd ["self", "shape"] ds)
    exact ⟨_,fd,["self", "shape"],ds,(fn_ok (Γ:=[.fr,.fr,.fr,.fr]) F sc_View_limit rfl rfl rfl (by decide) fun cdv A outer s H E hr G W tk=>
    (ms_cons (ms_set (ps_set (i:=2) sc_View_limit.nd rfl (Or.inl rfl) me_non) rfl)
    (ms_cons (ms_for (ps_for (passes_of rfl) rfl (mi_seq (me_fld K_View.cls (K_View.no _ (by decide)) (me_var (pv 0) rfl))) (mg_n (pg_name (i:=3) sc_View_limit.nd rfl (Or.inl rfl)) rfl)
    (ms_one (ms_if (mt_w (mt_and (mt_tru (me_callC (sp:=[none,none]) (dflt:=[]) C_touches (hr.mono (by first | decide | omega)) tk rfl (mr_fr (me_var (pv 3) rfl) (mr_fr (me_var (pv 1) rfl) mr_nil)))) (mt_and1 (mt_w (mt_or (mt_isN (me_var (pv 2) rfl)) (mt_or1 (mt_tru (me_callC (sp:=[none,none]) (dflt:=[]) C_less (hr.mono (by first | decide | omega)) tk rfl (mr_fr (me_ix (me_var (pv 3) rfl) me_int (fun _ _=>rfl)) (mr_fr (me_var (pv 2) rfl) mr_nil))))))))))
    (ms_one (ms_set (ps_set (i:=2) sc_View_limit.nd rfl (Or.inl rfl) (me_ix (me_var (pv 3) rfl) me_int (fun _ _=>rfl))) rfl))
    ms_nil))))
    (ms_one (ms_ret (me_ifExp (mt_isN (me_var (pv 2) rfl)) (me_fld K_View.cls (K_View.no _ (by decide)) (me_var (pv 0) rfl)) (me_var (pv 2) rfl))))))),K_View.cls,K_View.me _ (by decide),b,hv⟩
theorem ok_View_far_p0 (c:Cty faL xsL fnL K mg) (K_View:ObjC K mg "View" ["tolerance", "eye", "boxes"] ["__init__", "limit", "far"]) : CalM P w K mg base 1 "View" "far" 1 .fr f_View_far []:=by
    rw [f_View_far_eq]
    obtain ⟨fd,F⟩:=c.def_ 26 (d:=d_View_far) rfl
    obtain ⟨ds,hv,b⟩:=(⟨[],.nil,F.bindsN (ps:=["self", "shape"]) fun _ _ _ _ _ _ us hl=>match us,hl with | [_,_],_=>rfl⟩ : ∃ ds,Vals [] ds ∧ Binds K fd ["self", "shape"] ds)
    exact ⟨_,fd,["self", "shape"],ds,(fn_ok (Γ:=[.fr,.fr,.fr,.fr,.fr]) F sc_View_far rfl rfl rfl (by decide) fun cdv A outer s H E hr G W tk=>
    (ms_cons (ms_if (mt_isN (me_fld K_View.cls (K_View.no _ (by decide)) (me_var (pv 0) rfl)))
    (ms_one (ms_ret me_int))
    ms_nil)
    (ms_cons (ms_asg (ps_asg (me_fld K_View.cls (K_View.no _ (by decide)) (me_var (pv 0) rfl)) (mg_tup (k:=2) rfl (mg_cons (mg_n (pg_name (i:=2) sc_View_far.nd rfl (Or.inr rfl)) rfl) (mg_cons (mg_n (pg_name (i:=3) sc_View_far.nd rfl (Or.inr rfl)) rfl) mg_nil)))))
    (ms_one (ms_ret (me_add me_int (me_best (pe_callB (call_minI hr rfl) rfl (c.free 27) (by decide +kernel) (ma_cons (me_fix (me_comp (pe_lc (own:=[("k",4)]) rfl sc_View_far.nd (mi_seq (me_tup (ma_cons me_int (ma_cons me_int (ma_cons me_int ma_nil))) (len_cons (len_cons (len_cons len_nil))) (by decide))) (blkOk_by (own:=[("k",4)]) (N:=N_View_far) (sc:=defScope s_View_far) (by decide +kernel)) (fun _ _ _ _ _=>(mg_n (pg_name (i:=4) sc_View_far.nd rfl (Or.inl rfl)) rfl)) (fun _ _ _ _ _=>(pts_yes pts_nil)) (fun _ _ _ _ _=>(me_add (me_pow (me_sub (me_ix (me_var (pv 1) rfl) (me_var (pv 4) rfl) (fun _ _=>rfl)) (me_var (pv 2) rfl)) me_int) (me_pow (me_sub (me_ix (me_var (pv 1) rfl) (me_add (me_var (pv 4) rfl) me_int) (fun _ _=>rfl)) (me_var (pv 3) rfl)) me_int)))))) ma_nil))))))))),K_View.cls,K_View.me _ (by decide),b,hv⟩
theorem ok_lw_holds (c:Cty faL xsL fnL K mg) (K_View:ObjC K mg "View" ["tolerance", "eye", "boxes"] ["__init__", "limit", "far"]) (C_lw_same:∀ n:Nat,Cal P w K mg base (2 + n) "_law_same" [.fr,.fr] .fr (f_lw_same n) []) (C_View_limit_p0:CalM P w K mg base 2 "View" "limit" 1 .fr f_View_limit []) (C_lw_limit:Cal P w K mg base 1 "_law_limit" [.fr,.fr] .fr f_lw_limit []) (C_View_far_p0:CalM P w K mg base 1 "View" "far" 1 .fr f_View_far []) (C_lw_far:Cal P w K mg base 2 "_law_far" [.fr,.fr] .fr f_lw_far []) : Cal P w K mg base 11 "_law_holds" [.fr,.fr,.fr] .fr f_lw_holds []:=by
    rw [f_lw_holds_eq]
    obtain ⟨fd,F⟩:=c.def_ 22 (d:=d_lw_holds) rfl
    exact Cal.of F (fn_ok (Γ:=[.fr,.fr,.fr,.fr,.fr]) F sc_lw_holds rfl rfl rfl (by decide) fun cdv A outer s H E hr G W tk=>
    (ms_cons (ms_set (ps_set (i:=3) sc_lw_holds.nd rfl (Or.inl rfl) (me_and (me_callC (sp:=[none,none]) (dflt:=[]) (C_lw_same 8) (hr.mono (by first | decide | omega)) tk rfl (mr_fr (me_fld K_View.cls (K_View.no _ (by decide)) (me_var (pv 0) rfl)) (mr_fr (me_ix (me_var (pv 1) rfl) me_int (fun _ _=>rfl)) mr_nil))) (me_one (me_callC (sp:=[none,none]) (dflt:=[]) (C_lw_same 8) (hr.mono (by first | decide | omega)) tk rfl (mr_fr (me_fld K_View.cls (K_View.no _ (by decide)) (me_var (pv 0) rfl)) (mr_fr (me_ix (me_var (pv 1) rfl) me_int (fun _ _=>rfl)) mr_nil)))))) rfl)
    (ms_cons (ms_for (ps_for (passes_of rfl) rfl (mi_seq (me_var (pv 2) rfl)) (mg_n (pg_name (i:=4) sc_lw_holds.nd rfl (Or.inl rfl)) rfl)
    (ms_cons (ms_set (ps_set (i:=3) sc_lw_holds.nd rfl (Or.inl rfl) (me_and (me_var (pv 3) rfl) (me_one (me_callC (sp:=[none,none]) (dflt:=[]) (C_lw_same 8) (hr.mono (by first | decide | omega)) tk rfl (mr_fr (me_meth (np:=1) (dflt:=[]) C_View_limit_p0 (hr.mono (by first | decide | omega)) tk (me_var (pv 0) rfl) (ma_cons (me_var (pv 4) rfl) ma_nil) (len_cons len_nil) rfl (hd:=fun F=>Reps.nil)) (mr_fr (me_callC (sp:=[none,none]) (dflt:=[]) C_lw_limit (hr.mono (by first | decide | omega)) tk rfl (mr_fr (me_var (pv 1) rfl) (mr_fr (me_var (pv 4) rfl) mr_nil))) mr_nil)))))) rfl)
    (ms_one (ms_set (ps_set (i:=3) sc_lw_holds.nd rfl (Or.inl rfl) (me_and (me_var (pv 3) rfl) (me_one (me_callC (sp:=[none,none]) (dflt:=[]) (C_lw_same 8) (hr.mono (by first | decide | omega)) tk rfl (mr_fr (me_meth (np:=1) (dflt:=[]) C_View_far_p0 (hr.mono (by first | decide | omega)) tk (me_var (pv 0) rfl) (ma_cons (me_var (pv 4) rfl) ma_nil) (len_cons len_nil) rfl (hd:=fun F=>Reps.nil)) (mr_fr (me_callC (sp:=[none,none]) (dflt:=[]) C_lw_far (hr.mono (by first | decide | omega)) tk rfl (mr_fr (me_var (pv 1) rfl) (mr_fr (me_var (pv 4) rfl) mr_nil))) mr_nil)))))) rfl)))))
    (ms_one (ms_ret (me_var (pv 3) rfl)))))) (c.glo 22) (fun _ _ _ _ _ _ us hl=>match us,hl with | [_,_,_],_=>rfl)
theorem ok_View_init__o_p0 (c:Cty faL xsL fnL K mg) (K_View:ObjC K mg "View" ["tolerance", "eye", "boxes"] ["__init__", "limit", "far"]) (hE2:∀ a,(a,D.non) ∈ Cls.emps → ∀ H,SqT K H a []) (C_as_share:Cal P w K mg base 3 "as_share" [.fr] .fr f_as_share []) (C_as_box:Cal P w K mg base 4 "as_box" [.fr] .fr f_as_box []) : CalINO P w K mg base 5 "View" 2 .xl f_View_init__o 1 ["eye", "boxes"] (fun us ws:List D=>(us.drop 0).take 1 ++ (ws.drop 0).take 1):=by
    rw [f_View_init__o_eq]
    obtain ⟨fd,F⟩:=c.def_ 24 (d:=d_View_init__o) rfl
    obtain ⟨mv,kb⟩:=F.kbinds0 (ps:=["self", "tolerance", "eye", "boxes"]) 2 ["eye", "boxes"] [] (fun {_} us ms ws=>(us.drop 0).take 1 ++ (us.drop 1).take 1 ++ (ws.drop 0).take 1 ++ (ws.drop 1).take 1) (List.cons_ne_nil _ _) (fun q hq=>by cases hq) (fun r1 r3 r4=>(((((r1.drop 0).take 1).append ((r1.drop 1).take 1)).append ((r4.drop 0).take 1)).append ((r4.drop 1).take 1))) (fun D doc pm an cdv ct us mv ws h1 h2 h3=>match us,mv,ws,h1,h2,h3 with | [_,_],[],[_,_],_,_,_=>rfl)
    exact ⟨_,fd,["self", "tolerance", "eye", "boxes"],_,_,(fn_ok (Γ:=[.ob "View" [],.fr,.fr,.xl,.fr]) F sc_View_init__o rfl rfl rfl (by decide) fun cdv A outer s H E hr G W tk=>
    (ms_cons (ms_fldO K_View.cls (K_View.no _ (by decide)) (pv 0) rfl (me_callC (sp:=[none]) (dflt:=[]) C_as_share (hr.mono (by first | decide | omega)) tk rfl (mr_fr (me_var (pv 1) rfl) mr_nil)))
    (ms_cons (ms_fldO K_View.cls (K_View.no _ (by decide)) (pv 0) rfl (me_var (pv 2) rfl))
    (ms_one (ms_fldO K_View.cls (K_View.no _ (by decide)) (pv 0) rfl (me_fix (me_lend (j:=3) (me_comp (pe_lc (own:=[("box",4)]) rfl sc_View_init__o.nd (mi_seqE hE2 (me_var (pv 3) rfl)) (blkOk_by (own:=[("box",4)]) (N:=N_View_init__o) (sc:=defScope s_View_init__o) (by decide +kernel)) (fun _ _ _ _ _=>(mg_n (pg_name (i:=4) sc_View_init__o.nd rfl (Or.inl rfl)) rfl)) (fun _ _ _ _ _=>(pts_yes pts_nil)) (fun _ _ _ _ _=>(me_callC (sp:=[none]) (dflt:=[]) C_as_box (hr.mono (by first | decide | omega)) takes0 rfl (mr_fr (me_var (pv 4) rfl) mr_nil))))) rfl))))))),K_View.mg_,K_View.mk_,kb,fun F ds es vs ws b v r t hl hl2=>by
      cases r with
      | nil=>simp at hl
      | cons u0 r0=>
        cases r0 with
        | cons _ _=>simp at hl
        | nil=>
          cases t with
          | nil=>simp at hl2
          | cons q0 t0=>
            cases t0 with
            | cons _ _=>simp at hl2
            | nil=>
              exact ⟨_,rfl,(.cons u0 (.cons q0 .nil)),rfl⟩⟩
theorem ok_lw_bag (c:Cty faL xsL fnL K mg) : ∃ (a:Addr) (fd:FuncData),FnOk P w K mg base (L2.CX P w) 1 a fd ["_law_script"] (spBag K) ∧ mg "_law_bag" = some (.ref a) ∧ PySem.W.keepIn K (.ref a) = true ∧ Binds K fd ["_law_script"] []:=by
  obtain ⟨fd,F⟩:=c.def_ 8 (d:=d_lw_bag) rfl
  refine ⟨_,fd,F.ok sc_lw_bag (fun vs H Q E h=>by obtain ⟨a,ns,rfl,_⟩:=h; rfl) (fun cdv A outer s H vs Q E hr h=>?_),c.glo 8,F.kp,F.bindsN fun _ _ _ _ _ _ us hl=>match us,hl with | [_],_=>rfl⟩
  obtain ⟨a,ns,rfl,hS,hl,k⟩:=h
  refine ⟨_,pss_one (ps_ret (pe_lst (pa_cons (pe_callTy call_list_of rfl (c.free 31) (by decide +kernel) (pa_cons (pe_slice sl_list (pv 0) po_none (po_some pe_int)) pa_nil)) (pa_cons pe_int (pa_cons pe_int pa_nil))))),?_⟩
  refine ⟨_,rfl,_,rfl,a,_,rfl,hS,fun p hp=>⟨p,_,rfl,.inl (SqL.of upd_same),fun l hl2=>⟨by show 3 ≤ sizeLine; decide,fun b hb=>?_⟩⟩⟩
  have hbl:b ≠ l:=fun z=>by rw [z,upd_same] at hb; cases hb
  refine k b l _ upd_same ?_ hbl fun a o e=>?h3
  case h3=>
    have n1:=ne_of_none e hp
    have e1:∀ u,upd H p u a = some o:=fun u=>(upd_ne n1).trans e
    have n2:=ne_of_none (e1 _) hl2
    have e2:∀ u u2,upd (upd H p u) l u2 a = some o:=fun u u2=>(upd_ne n2).trans (e1 u)
    have n3:=ne_of_none (e2 _ _) hb
    exact (upd_ne n3).trans (e2 _ _)
  rw [upd_ne hbl.symm,upd_same,cut_all _ (by rw [List.length_map]; exact hl)]
theorem ok_law {fd:FuncData} (F:FunD K d_law.name d_law.qual d_law.params d_law.body d_law.scope (d_law.dvs K) (d_law.kws K) (He.fAd K d_law.at_) fd) (c:Cty faL xsL fnL K mg) (K_View:ObjC K mg "View" ["tolerance", "eye", "boxes"] ["__init__", "limit", "far"]) (C_lw_plan:Cal P w K mg base 2 "_law_plan" [.bag] .fr f_lw_plan []) (C_lw_sight:Cal P w K mg base 3 "_law_sight" [.bag,.fr] .fr f_lw_sight []) (C_lw_holds:Cal P w K mg base 11 "_law_holds" [.fr,.fr,.fr] .fr f_lw_holds []) (C_View_init__o_p0:CalINO P w K mg base 5 "View" 2 .xl f_View_init__o 1 ["eye", "boxes"] (fun us ws:List D=>(us.drop 0).take 1 ++ (ws.drop 0).take 1)) (C_View_init_p0:CalI P w K mg base 5 "View" 3 f_View_init [.non,.ref (kwdAt ("View",some "__init__") "boxes" K)]) (C_View_init_p1:CalIN P w K mg base 5 "View" 3 f_View_init 1 ["boxes"] (fun us ws:List D=>(us.drop 0).take 1 ++ ([.non] : List D) ++ (ws.drop 0).take 1)) (C_View_init_p2:CalIN P w K mg base 5 "View" 3 f_View_init 1 ["eye"] (fun us ws:List D=>(us.drop 0).take 1 ++ (ws.drop 0).take 1 ++ ([.obj "()" [] [.non]] : List D))) (C_View_init_p3:CalIN P w K mg base 5 "View" 3 f_View_init 1 ["boxes", "eye"] (fun us ws:List D=>(us.drop 0).take 1 ++ (ws.drop 1).take 1 ++ (ws.drop 0).take 1)) (C_lw_shape:Cal P w K mg base 3 "_law_shape" [.bag,.fr] .fr f_lw_shape []) (C_lw_view:Cal P w K mg base 7 "_law_view" [.bag,.fr] .fr f_lw_view []) (C_lw_same:∀ n:Nat,Cal P w K mg base (2 + n) "_law_same" [.fr,.fr] .fr (f_lw_same n) []) (C_View_limit_p0:CalM P w K mg base 2 "View" "limit" 1 .fr f_View_limit []) : FnOk P w K mg base (L2.CX P w) 12 (He.ga K "law") fd ["_law_script"] (spLaw K):=by
  obtain ⟨ab,fdb,Fb,hmb,hkb,hbb⟩:=ok_lw_bag (P:=P) (w:=w) (base:=base) c
  refine F.ok (k:=11) sc_law (fun vs H Q E h=>by obtain ⟨a,ns,rfl,_⟩:=h; rfl) (fun cdv A outer s H vs Q E hr h=>?_)
  obtain ⟨a,ns,rfl,hS,hl,ht,kq⟩:=h
  refine ⟨_,pss_cons (ps_set (i:=1) sc_law.nd rfl (Or.inr rfl) (pe_call Fb (hr.mono (by decide)) rfl hmb hkb hbb .nil passL (pa_cons (pv 0) pa_nil)))
    (show MSs _ G0 W0 [.fr,.bag,.fr,.fr,.fr,.fr,.fr,.xl,.fr,.fr,.fr] .fr _ m_law from
    (ms_cons (ms_set (ps_set (i:=2) sc_law.nd rfl (Or.inr rfl) (me_callC (sp:=[some 1]) (dflt:=[]) C_lw_plan (hr.mono (by first | decide | omega)) takes0 rfl (mr_own (pv 1) rfl mr_nil))) rfl)
    (ms_cons (ms_set (ps_set (i:=3) sc_law.nd rfl (Or.inl rfl) (me_callC (sp:=[some 1,none]) (dflt:=[]) C_lw_sight (hr.mono (by first | decide | omega)) takes0 rfl (mr_own (pv 1) rfl (mr_fr (me_var (pv 2) rfl) mr_nil)))) rfl)
    (ms_cons (ms_lcF (ps_setLc (i:=4) (own:=[("_law_k",5)]) rfl sc_law.nd rfl rfl (sw_true rfl rfl rfl (by decide +kernel)) (mi_rng1 (pi_range1 rfl (c.free 33) (ma_cons me_int ma_nil))) (blkOk_by (own:=[("_law_k",5)]) (N:=N_law) (sc:=defScope s_law) (by decide +kernel)) (fun _ _ _ _ _=>(mg_n (pg_name (i:=5) sc_law.nd rfl (Or.inl rfl)) rfl)) (fun _ _ _ _ _=>(pts_yes pts_nil)) (fun _ _ _ _ _=>(me_callC (sp:=[some 1,none]) (dflt:=[]) C_lw_shape (hr.mono (by first | decide | omega)) takes0 rfl (mr_own (pv 1) rfl (mr_fr (me_var (pv 2) rfl) mr_nil))))) rfl)
    (ms_cons (ms_set (ps_set (i:=6) sc_law.nd rfl (Or.inl rfl) (me_callC (sp:=[none,none,none]) (dflt:=[]) C_lw_holds (hr.mono (by first | decide | omega)) takes0 rfl (mr_fr (me_callC (sp:=[some 1,none]) (dflt:=[]) C_lw_view (hr.mono (by first | decide | omega)) takes0 rfl (mr_own (pv 1) rfl (mr_fr (me_var (pv 3) rfl) mr_nil))) (mr_fr (me_var (pv 3) rfl) (mr_fr (me_var (pv 4) rfl) mr_nil))))) rfl)
    (ms_cons (ms_setXO (ps_set (i:=7) sc_law.nd rfl (Or.inl rfl) (me_list (pe_callTy call_list_of rfl (c.free 31) (by decide +kernel) (pa_cons (me_ix (me_var (pv 3) rfl) me_int (fun _ _=>rfl)) pa_nil)) (pe_callTy (call_list_dT rfl) rfl (c.free 31) (by decide +kernel) (pa_cons (me_ix (me_var (pv 3) rfl) me_int (fun _ _=>rfl)) pa_nil)))) rfl (by decide))
    (ms_cons (ms_set (ps_set (i:=8) sc_law.nd rfl (Or.inl rfl) (me_makeNO (np:=2) (nk:=1) (j:=7) C_View_init__o_p0 (hr.mono (by first | decide | omega)) takes0 rfl (ma_cons (me_ix (me_var (pv 3) rfl) me_int (fun _ _=>rfl)) ma_nil) (len_cons len_nil) (mko_cons (me_ix (me_var (pv 3) rfl) me_int (fun _ _=>rfl)) (mko_last (pv 7))) (len_cons len_nil) rfl rfl)) rfl)
    (ms_cons (ms_set (ps_set (i:=6) sc_law.nd rfl (Or.inl rfl) (me_and (me_var (pv 6) rfl) (me_one (me_lend (j:=7) (me_eq hr (me_var (pv 7) rfl) (me_ix (me_var (pv 3) rfl) me_int (fun _ _=>rfl))) rfl)))) rfl)
    (ms_cons (ms_appX (pe_bm PySem.F.plainAttrs_list PySem.F.slot_list_append PySem.F.type_list_append mt_append (pv 7) (pa_cons (me_tup (ma_cons (me_sub me_int me_int) (ma_cons (me_sub me_int me_int) (ma_cons me_int (ma_cons me_int (ma_cons (me_tup (ma_cons me_int (ma_cons me_int ma_nil)) (len_cons (len_cons len_nil)) (by decide)) ma_nil))))) (len_cons (len_cons (len_cons (len_cons (len_cons len_nil))))) (by decide)) pa_nil)) rfl)
    (ms_cons (ms_revX (pe_bm0 PySem.F.plainAttrs_list PySem.F.slot_list_reverse PySem.F.type_list_reverse mt_reverse (pv 7)) rfl)
    (ms_cons (ms_set (ps_set (i:=6) sc_law.nd rfl (Or.inl rfl) (me_and (me_var (pv 6) rfl) (me_one (me_callC (sp:=[none,none,none]) (dflt:=[]) C_lw_holds (hr.mono (by first | decide | omega)) takes0 rfl (mr_fr (me_var (pv 8) rfl) (mr_fr (me_var (pv 3) rfl) (mr_fr (me_var (pv 4) rfl) mr_nil))))))) rfl)
    (ms_cons (ms_lcF (ps_setLc (i:=9) (own:=[("_law_k",5)]) rfl sc_law.nd rfl rfl (sw_true rfl rfl rfl (by decide +kernel)) (mi_rng1 (pi_range1 rfl (c.free 33) (ma_cons me_int ma_nil))) (blkOk_by (own:=[("_law_k",5)]) (N:=N_law) (sc:=defScope s_law) (by decide +kernel)) (fun _ _ _ _ _=>(mg_n (pg_name (i:=5) sc_law.nd rfl (Or.inl rfl)) rfl)) (fun _ _ _ _ _=>(pts_yes pts_nil)) (fun _ _ _ _ _=>(me_ix (me_callC (sp:=[some 1,none]) (dflt:=[]) C_lw_sight (hr.mono (by first | decide | omega)) takes0 rfl (mr_own (pv 1) rfl (mr_fr (me_var (pv 2) rfl) mr_nil))) me_int (fun _ _=>rfl)))) rfl)
    (ms_cons (ms_set (ps_set (i:=9) sc_law.nd rfl (Or.inl rfl) (me_fix (me_sumL (pe_callB (cr_sumL rfl) rfl (c.free 35) (by decide +kernel) (ma_cons (me_var (pv 9) rfl) (ma_cons (me_fix (me_lst ma_nil len_nil (by decide))) ma_nil)))))) rfl)
    (ms_cons (ms_set (ps_set (i:=9) sc_law.nd rfl (Or.inl rfl) (me_fix (me_cat (me_var (pv 9) rfl) (me_fix (me_comp (pe_lc (own:=[("_law_k",5)]) rfl sc_law.nd (mi_rng1 (pi_range1 rfl (c.free 33) (ma_cons me_int ma_nil))) (blkOk_by (own:=[("_law_k",5)]) (N:=N_law) (sc:=defScope s_law) (by decide +kernel)) (fun _ _ _ _ _=>(mg_n (pg_name (i:=5) sc_law.nd rfl (Or.inl rfl)) rfl)) (fun _ _ _ _ _=>(pts_yes pts_nil)) (fun _ _ _ _ _=>(me_tup (ma_cons (me_sub (me_var (pv 5) rfl) me_int) (ma_cons (me_sub (me_var (pv 5) rfl) me_int) (ma_cons (me_var (pv 5) rfl) (ma_cons (me_var (pv 5) rfl) (ma_cons (me_tup (ma_cons (me_sub me_int (me_var (pv 5) rfl)) (ma_cons me_int ma_nil)) (len_cons (len_cons len_nil)) (by decide)) ma_nil))))) (len_cons (len_cons (len_cons (len_cons (len_cons len_nil))))) (by decide))))))))) rfl)
    (ms_cons (ms_set (ps_set (i:=3) sc_law.nd rfl (Or.inl rfl) (me_tup (ma_cons (me_ix (me_var (pv 3) rfl) me_int (fun _ _=>rfl)) (ma_cons (me_ix (me_var (pv 3) rfl) me_int (fun _ _=>rfl)) (ma_cons (me_var (pv 9) rfl) ma_nil))) (len_cons (len_cons (len_cons len_nil))) (by decide))) rfl)
    (ms_cons (ms_set (ps_set (i:=8) sc_law.nd rfl (Or.inl rfl) (me_makeN (np:=3) C_View_init_p3 (hr.mono (by first | decide | omega)) takes0 rfl (ma_cons (me_ix (me_var (pv 3) rfl) me_int (fun _ _=>rfl)) ma_nil) (len_cons len_nil) (mk_cons (me_var (pv 9) rfl) (mk_cons (me_ix (me_var (pv 3) rfl) me_int (fun _ _=>rfl)) mk_nil)) (len_cons (len_cons len_nil)))) rfl)
    (ms_cons (ms_set (ps_set (i:=6) sc_law.nd rfl (Or.inl rfl) (me_and (me_var (pv 6) rfl) (me_one (me_callC (sp:=[none,none,none]) (dflt:=[]) C_lw_holds (hr.mono (by first | decide | omega)) takes0 rfl (mr_fr (me_var (pv 8) rfl) (mr_fr (me_var (pv 3) rfl) (mr_fr (me_var (pv 4) rfl) mr_nil))))))) rfl)
    (ms_cons (ms_set (ps_set (i:=10) sc_law.nd rfl (Or.inl rfl) (me_makeN (np:=3) C_View_init_p1 (hr.mono (by first | decide | omega)) takes0 rfl (ma_cons me_int ma_nil) (len_cons len_nil) (mk_cons (me_fix (me_lst (ma_cons (me_tup (ma_cons me_int (ma_cons me_int (ma_cons me_int (ma_cons me_int (ma_cons me_int ma_nil))))) (len_cons (len_cons (len_cons (len_cons (len_cons len_nil))))) (by decide)) ma_nil) (len_cons len_nil) (by decide))) mk_nil) (len_cons len_nil))) rfl)
    (ms_one (ms_ret (me_and (me_var (pv 6) rfl) (me_and (me_callC (sp:=[none,none]) (dflt:=[]) (C_lw_same 8) (hr.mono (by first | decide | omega)) takes0 rfl (mr_fr (me_meth (np:=1) (dflt:=[]) C_View_limit_p0 (hr.mono (by first | decide | omega)) takes0 (me_var (pv 10) rfl) (ma_cons (me_ix (me_var (pv 4) rfl) me_int (fun _ _=>rfl)) ma_nil) (len_cons len_nil) rfl (hd:=fun F=>Reps.nil)) (mr_fr (me_tup (ma_cons me_int (ma_cons me_int ma_nil)) (len_cons (len_cons len_nil)) (by decide)) mr_nil))) (me_one (me_callC (sp:=[none,none]) (dflt:=[]) (C_lw_same 8) (hr.mono (by first | decide | omega)) takes0 rfl (mr_fr (me_fld K_View.cls (K_View.no _ (by decide)) (me_var (pv 10) rfl)) (mr_fr (me_tup (ma_cons me_int (ma_cons me_int ma_nil)) (len_cons (len_cons len_nil)) (by decide)) mr_nil)))))))))))))))))))))))))),?_⟩
  exact ⟨_,rfl,a,ns,rfl,hS,hl,fun b cc H' h1 h2 h3 h4=>show tS K G0 W0 [.fr,.bag,.fr,.fr,.fr,.fr,.fr,.xl,.fr,.fr,.fr] .fr m_law { nx:=fun _ H'=>Q .non H',rt:=Q } (some (.ref a) :: some (.ref b) :: List.replicate (11 - 2) none) H' from law_rest (k:=11 - 2) h1 h2 h3 hl rfl rfl (plain_law ns hl) kq (ht.ext h4)⟩
end
theorem facts {P:Program} {w:World} {K:PySem.W.Frag} {h:Heap} {mg:Str → Option Value} {fa:Addr} (X:K.In h) (G:h.Ns mainGlobals mg) (hfa:mg ("law" : Str) = some (.ref fa)) (cc:SaysX faL xsL fnL K) :
    ∃ fd:FuncData,(∀ (s:Shared) (v:Value),BindsTo s fd ⟨[v],[]⟩ [("_law_script",v)]) ∧ ∀ base:Heap,K.In base → base.Ns mainGlobals mg → (∀ p ∈ tlL,LamX.TabB base mg (He.cT K p.1).1 (He.cT K p.1).2) → FnOk P w K mg base (L2.CX P w) 12 fa fd ["_law_script"] (@spLaw ⟨He.ga K,tabsL K tlL,empL K⟩ K):=by
  letI:Bk.Cls:=⟨He.ga K,tabsL K tlL,empL K⟩
  have hT:Cls.tabs = tabsL K tlL:=rfl
  have c:Cty faL xsL fnL K mg:=⟨⟨h,X,G⟩,cc⟩
  obtain ⟨fd,F⟩:=c.def_ 23 (d:=d_law) rfl
  have e:=hfa.symm.trans (c.glo 23 (x:= "law"))
  cases e
  refine ⟨fd,fun s v=>FunD.bindsA (ps:=["_law_script"]) F (fun _ _ _ _ _ _ us hl=>match us,hl with | [_],_=>rfl) s [v] rfl,fun base _ _ hB=>?_⟩
  have hE2:∀ a,(a,D.non) ∈ Cls.emps → ∀ H,SqT K H a []:=fun a e H=>by
    have e:(a,D.non) ∈ empL K:=e
    simp only [empL,List.mem_cons,List.not_mem_nil,Prod.mk.injEq,or_false,false_or] at e
    rcases e with ⟨e,e2⟩
    · subst e; exact emp_ok (p:=kwdAt ("View",some "__init__") "boxes") (c.own 2) H
  have hE1_0:((kwdAt ("View",some "__init__") "boxes" K,.non) : Addr × D) ∈ Cls.emps:=List.mem_of_getElem? (i:=0) rfl
  have K_View:ObjC K mg "View" ["tolerance", "eye", "boxes"] ["__init__", "limit", "far"]:=objC_of rfl (c.own 1) (c.glo 36)
  have C__wall:=ok__wall (P:=P) (w:=w) (base:=base) c
  have C_is_whole:=ok_is_whole (P:=P) (w:=w) (base:=base) c
  have C_less:=ok_less (P:=P) (w:=w) (base:=base) c
  have C_as_share:=ok_as_share (P:=P) (w:=w) (base:=base) c C_is_whole
  have C_as_box:=ok_as_box (P:=P) (w:=w) (base:=base) c C_as_share
  have C_touches:=ok_touches (P:=P) (w:=w) (base:=base) c
  have C_lw_whole:=ok_lw_whole (P:=P) (w:=w) (base:=base) c
  have C_lw_same:=ok_lw_same (P:=P) (w:=w) (base:=base) c C_lw_whole
  have C_lw_draw:=ok_lw_draw (P:=P) (w:=w) (base:=base) c
  have C_lw_plan:=ok_lw_plan (P:=P) (w:=w) (base:=base) c C_lw_draw
  have C_lw_roots:=ok_lw_roots (P:=P) (w:=w) (base:=base) c
  have C_lw_middle:=ok_lw_middle (P:=P) (w:=w) (base:=base) c
  have C_lw_halves:=ok_lw_halves (P:=P) (w:=w) (base:=base) c C_lw_middle
  have C_lw_corners_of:=ok_lw_corners_of (P:=P) (w:=w) (base:=base) c
  have C_lw_low:=ok_lw_low (P:=P) (w:=w) (base:=base) c
  have C_lw_tolerance:=ok_lw_tolerance (P:=P) (w:=w) (base:=base) c C_lw_draw C_lw_low
  have C_lw_sight:=ok_lw_sight (P:=P) (w:=w) (base:=base) c C_lw_draw C_lw_tolerance
  have C_lw_limit:=ok_lw_limit (P:=P) (w:=w) (base:=base) c
  have C_lw_far:=ok_lw_far (P:=P) (w:=w) (base:=base) c C_lw_corners_of
  have C_lw_shape:=ok_lw_shape (P:=P) (w:=w) (base:=base) c C_lw_roots C_lw_draw C_lw_middle C_lw_halves
  have C_View_init_p0:=ok_View_init_p0 (P:=P) (w:=w) (base:=base) c K_View hE1_0 hE2 C_as_share C_as_box
  have C_View_init_p1:=ok_View_init_p1 (P:=P) (w:=w) (base:=base) c K_View hE1_0 hE2 C_as_share C_as_box
  have C_View_init_p2:=ok_View_init_p2 (P:=P) (w:=w) (base:=base) c K_View hE1_0 hE2 C_as_share C_as_box
  have C_View_init_p3:=ok_View_init_p3 (P:=P) (w:=w) (base:=base) c K_View hE1_0 hE2 C_as_share C_as_box
  have C_lw_view:=ok_lw_view (P:=P) (w:=w) (base:=base) c hE1_0 C_View_init_p0 C_View_init_p1 C_View_init_p2 C_View_init_p3 C_lw_draw
  have C_View_limit_p0:=ok_View_limit_p0 (P:=P) (w:=w) (base:=base) c K_View C_touches C_less
  have C_View_far_p0:=ok_View_far_p0 (P:=P) (w:=w) (base:=base) c K_View
  have C_lw_holds:=ok_lw_holds (P:=P) (w:=w) (base:=base) c K_View C_lw_same C_View_limit_p0 C_lw_limit C_View_far_p0 C_lw_far
  have C_View_init__o_p0:=ok_View_init__o_p0 (P:=P) (w:=w) (base:=base) c K_View hE2 C_as_share C_as_box
  exact ok_law F c K_View C_lw_plan C_lw_sight C_lw_holds C_View_init__o_p0 C_View_init_p0 C_View_init_p1 C_View_init_p2 C_View_init_p3 C_lw_shape C_lw_view C_lw_same C_View_limit_p0
end K48
open PySem PySem.W PySem.Calls PyProof.Rows
set_option maxRecDepth 100000 in
set_option maxHeartbeats 0 in
theorem PySem.Challenge.cw_braemantle_k48_limits_and_distances_holds : PySem.Challenge.rw_braemantle_k48_limits_and_distances.Holds := by
  w_on; refine K48.looks fun said=>?_
  refine K48.heads said ?hc
  case hc=>
    refine Bk.walk_bkT (law:=PySem.Challenge.rw_braemantle_k48_limits_and_distances) (top:=63) (lv:=12) (p:= "_law_script") rfl (by decide) (by kernel_rfl) ⟨rfl,by decide,by decide⟩ ?F
    case F=>
      intro w mg fa h Y G hmg0
      obtain ⟨K,KX,c,T⟩:=Y
      have hmg:mg ("law" : PySem.Str) = some (.ref fa):=by
        have e:(HandSHeadRun.topDef (OpenLaw.row PySem.Challenge.rw_braemantle_k48_limits_and_distances).prog 31).name = ("law" : PySem.Str):=by kernel_rfl
        rw [←e]
        exact hmg0
      obtain ⟨fd,hb,hF⟩:=K48.facts (P:=(PySem.Challenge.rw_braemantle_k48_limits_and_distances).prog) (w:=w) KX G hmg c
      exact ⟨K,fd,@Bk.spLaw ⟨He.ga K,Bk.tabsL K K48.tlL,K48.empL K⟩ K,K48.tlL,KX,T,hb,fun H a ns hl ht hS=>⟨a,ns,rfl,hS,hl,ht,fun _=>rfl⟩,hF⟩
