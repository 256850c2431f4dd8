import PyProof.Rows.All
import Wide.All
import OpenK.AllK
import Wide.FinOn
import HandS.ForMost
import HandS.ForExc
import HandS.Deep
import HandS.Defaults
import HandS.CallSlots
import HandS.IsInst
import HandS.Wide
import HandS.ExcInit
import HandS.TryMany
import HandS.ExcField
import HandS.ExcIs
import HandS.Head0
import HandS.Head1
import HandS.Head2
import HandS.HeadEnd
import HandS.HeadHook1
import HandS.HeadHook2
import HandS.Lambda
import KE.KExcInit
import HandS.Style
import KE.KExcIs
import KE.SortUse
import KE.KDictSum
import HandS.Conv
import HandS.TupLen
import HandS.NoneIn
import HandS.DictComp
import KE.DataMinMax
import KE.SortKeyHeap
import KE.KLam
import HandS.SortKw
import HandS.HeadHook4
import HandS.EndTab
import HandS.Flt
import HandS.Exc
import HandS.MakeKwOnly
import HandS.Flow
import HandS.More
import PySem.Challenge.RW_braemantle_k31_whole_count_of_triangles
set_option Elab.async false
set_option linter.all false
set_option maxRecDepth 100000
set_option maxHeartbeats 4000000
/-! A calculus over the hand layer: each piece of syntax is modelled by a plain function on data. -/
namespace Bk
open PySem PySem.Spec PyProof.Rows L2

/-! ### data -/
inductive D where
  | non | bl (b : Bool) | int (i : Int) | str (x : Str)
  | tup (xs : List D) | lst (xs : List D)
  | dct (ks : List (List Key)) (vs : List D)
  | obj (c : Str) (ns : List Str) (vs : List D)
instance : Inhabited D := ⟨.non⟩

/-- where the classes stand -/
class Cls where
  ga : Str → Addr
  /-- the tables of code objects, with the name that their code objects bear -/
  tabs : List (Addr × Str)
  /-- an empty tuple that the module holds -/
  emp : Option Addr
variable [Cls]
mutual
inductive Rep (F : Hp) : D → V → Prop
  | non : Rep F .non .non
  | bl (b : Bool) : Rep F (.bl b) (.bl b)
  | int (i : Int) : Rep F (.int i) (.int i)
  | str (x : Str) : Rep F (.str x) (.str x)
  | tup {ds : List D} {vs : List V} {a : Addr} : F a = some (.tup vs) → Reps F ds vs → Rep F (.tup ds) (.ref a)
  | lst {ds : List D} {vs : List V} {a : Addr} : F a = some (.lst vs) → Reps F ds vs → Rep F (.lst ds) (.ref a)
  | dct {ks : List (List Key)} {ds : List D} {vs : List V} {a : Addr} {o : Obj} : F a = some (.frz o (.dT (ks.zip vs))) → ks.length = vs.length → Reps F ds vs → Rep F (.dct ks ds) (.ref a)
  | obj {c : Str} {ns : List Str} {ds : List D} {vs : List V} {a dx : Addr} : F a = some (.ins (Cls.ga c) dx (ns.zip vs)) → ns.length = vs.length → Reps F ds vs → Rep F (.obj c ns ds) (.ref a)
  | emp {a : Addr} : Cls.emp = some a → Rep F (.obj "()" [] [.non]) (.ref a)
inductive Reps (F : Hp) : List D → List V → Prop
  | nil : Reps F [] []
  | cons {d : D} {ds : List D} {v : V} {vs : List V} : Rep F d v → Reps F ds vs → Reps F (d :: ds) (v :: vs)
end
mutual
theorem Rep.mono {F F' : Hp} (h : Same F F') : ∀ {d : D} {v : V}, Rep F d v → Rep F' d v
  | _, _, .non => .non
  | _, _, .bl b => .bl b
  | _, _, .int i => .int i
  | _, _, .str x => .str x
  | _, _, .tup e r => .tup (h _ _ e) (Reps.mono h r)
  | _, _, .lst e r => .lst (h _ _ e) (Reps.mono h r)
  | _, _, .dct e l r => .dct (h _ _ e) l (Reps.mono h r)
  | _, _, .obj e l r => .obj (h _ _ e) l (Reps.mono h r)
  | _, _, .emp e => .emp e
theorem Reps.mono {F F' : Hp} (h : Same F F') : ∀ {ds : List D} {vs : List V}, Reps F ds vs → Reps F' ds vs
  | _, _, .nil => .nil
  | _, _, .cons r t => .cons (Rep.mono h r) (Reps.mono h t)
end
theorem Reps.len {F : Hp} : ∀ {ds : List D} {vs : List V}, Reps F ds vs → ds.length = vs.length
  | _, _, .nil => rfl
  | _, _, .cons _ t => congrArg Nat.succ (Reps.len t)
theorem Reps.get {F : Hp} : ∀ {ds : List D} {vs : List V} {i : Nat} {d : D}, Reps F ds vs → ds[i]? = some d → ∃ v, vs[i]? = some v ∧ Rep F d v
  | _, _, _, _, .nil, e => by simp at e
  | _, _, 0, _, .cons r _, e => by simp at e; subst e; exact ⟨_, rfl, r⟩
  | _, _, i + 1, d, .cons r t, e => by
    obtain ⟨v, h1, h2⟩ := Reps.get (i := i) (d := d) t (by simpa using e)
    exact ⟨v, by simpa using h1, h2⟩
theorem Reps.get' {F : Hp} : ∀ {ds : List D} {vs : List V} {i : Nat} {v : V}, Reps F ds vs → vs[i]? = some v → ∃ d, ds[i]? = some d ∧ Rep F d v
  | _, _, _, _, .nil, e => by simp at e
  | _, _, 0, _, .cons r _, e => by simp at e; subst e; exact ⟨_, rfl, r⟩
  | _, _, i + 1, v, .cons r t, e => by
    obtain ⟨d, h1, h2⟩ := Reps.get' (i := i) (v := v) t (by simpa using e)
    exact ⟨d, by simpa using h1, h2⟩
theorem Reps.app {F : Hp} : ∀ {ds es : List D} {vs ws : List V}, Reps F ds vs → Reps F es ws → Reps F (ds ++ es) (vs ++ ws)
  | _, _, _, _, .nil, s => s
  | _, _, _, _, .cons r t, s => .cons r (Reps.app t s)
theorem Reps.set {F : Hp} {d : D} {v : V} (r : Rep F d v) : ∀ {ds : List D} {vs : List V} (i : Nat), Reps F ds vs → Reps F (ds.set i d) (vs.set i v)
  | _, _, _, .nil => .nil
  | _, _, 0, .cons _ t => .cons r t
  | _, _, i + 1, .cons q t => .cons q (Reps.set r i t)
theorem Reps.take {F : Hp} : ∀ {ds : List D} {vs : List V} (n : Nat), Reps F ds vs → Reps F (ds.take n) (vs.take n)
  | _, _, 0, _ => .nil
  | _, _, _ + 1, .nil => .nil
  | _, _, n + 1, .cons r t => .cons r (Reps.take n t)
theorem Reps.drop {F : Hp} : ∀ {ds : List D} {vs : List V} (n : Nat), Reps F ds vs → Reps F (ds.drop n) (vs.drop n)
  | _, _, 0, r => r
  | _, _, _ + 1, .nil => .nil
  | _, _, n + 1, .cons _ t => Reps.drop n t

/-! ### kinds of what a slot holds -/
/-- kinds of an own object's fields -/
inductive Kd where
  | fr | ol | od
  deriving DecidableEq
inductive Ty where
  /-- fixed for good -/
  | fr
  /-- a list that is this frame's own, of fixed things -/
  | ol
  /-- a dict that is this frame's own, of fixed things -/
  | od
  /-- a law's bag of draws -/
  | bag
  /-- an own instance of the class c; the kinds of its fields -/
  | ob (c : Str) (ks : List (Str × Kd))
  /-- an own list of own lists of fixed things -/
  | ll
  /-- an own list, or a fixed thing -/
  | xl
  deriving DecidableEq
/-- the mark of an own list in such a slot -/
def ownL (ds : List D) : D := .obj "" [] ds
def isOwn : D → Bool
  | .obj _ [] _ => true
  | _ => false
def kdOf (ks : List (Str × Kd)) (x : Str) : Kd := match ks.find? (fun p => p.1 == x) with
  | some p => p.2
  | none => .fr
def AtOl (F H : Hp) (d : D) (v : V) (p : Addr) : Prop := ∃ (ds : List D) (vs : List V), d = .lst ds ∧ v = .ref p ∧ H p = some (.lst vs) ∧ Reps F ds vs
def AtOd (F H : Hp) (d : D) (v : V) (p : Addr) : Prop := ∃ (ks : List (List Key)) (ds : List D) (vs : List V), d = .dct ks ds ∧ v = .ref p ∧ H p = some (.dT (ks.zip vs)) ∧ ks.length = vs.length ∧ Reps F ds vs
def AtK (F H : Hp) : Kd → D → V → List Addr → Prop
  | .fr, d, v, B => Rep F d v ∧ B = []
  | .ol, d, v, B => ∃ p, AtOl F H d v p ∧ B = [p]
  | .od, d, v, B => ∃ p, AtOd F H d v p ∧ B = [p]
/-- fields with what they own, apart from each other -/
inductive AtFs (F H : Hp) (ks : List (Str × Kd)) : List Str → List D → List V → List Addr → Prop
  | nil : AtFs F H ks [] [] [] []
  | cons {x : Str} {ns : List Str} {d : D} {ds : List D} {v : V} {vs : List V} {B Bs : List Addr} : AtK F H (kdOf ks x) d v B → AtFs F H ks ns ds vs Bs → (∀ a ∈ B, a ∉ Bs) → AtFs F H ks (x :: ns) (d :: ds) (v :: vs) (B ++ Bs)
inductive AtLs (F H : Hp) : List D → List V → List Addr → Prop
  | nil : AtLs F H [] [] []
  | cons {d : D} {ds : List D} {v : V} {vs : List V} {p : Addr} {Bs : List Addr} : AtOl F H d v p → AtLs F H ds vs Bs → p ∉ Bs → AtLs F H (d :: ds) (v :: vs) (p :: Bs)
def At (F H : Hp) : Ty → D → V → List Addr → Prop
  | .fr, d, v, B => Rep F d v ∧ B = []
  | .ol, d, v, B => ∃ (p : Addr) (ds : List D) (vs : List V), d = .lst ds ∧ v = .ref p ∧ H p = some (.lst vs) ∧ Reps F ds vs ∧ B = [p]
  | .od, d, v, B => ∃ (p : Addr) (ks : List (List Key)) (ds : List D) (vs : List V), d = .dct ks ds ∧ v = .ref p ∧ H p = some (.dT (ks.zip vs)) ∧ ks.length = vs.length ∧ Reps F ds vs ∧ B = [p]
  | .bag, d, v, B => ∃ (b c : Addr) (ns : List Int) (k z : Int), d = .tup [.lst (ns.map D.int), .int k, .int z] ∧ v = .ref b ∧ H b = some (.lst [.ref c, .int k, .int z]) ∧ H c = some (.lst (ns.map V.int)) ∧ ns.length ≤ 63 ∧ B = [b, c]
  | .ob c ks, d, v, B => ∃ (p dx : Addr) (ns : List Str) (ds : List D) (vs : List V) (Bs : List Addr), d = .obj c ns ds ∧ v = .ref p ∧ H p = some (.ins (Cls.ga c) dx (ns.zip vs)) ∧ H dx = some (.own p) ∧ ns.length = vs.length ∧ AtFs F H ks ns ds vs Bs ∧ p ∉ Bs ∧ dx ∉ Bs ∧ p ≠ dx ∧ B = p :: dx :: Bs
  | .ll, d, v, B => ∃ (p : Addr) (ds : List D) (vs : List V) (Bs : List Addr), d = .lst ds ∧ v = .ref p ∧ H p = some (.lst vs) ∧ AtLs F H ds vs Bs ∧ p ∉ Bs ∧ B = p :: Bs
  | .xl, d, v, B => (isOwn d = false ∧ Rep F d v ∧ B = []) ∨ ∃ (p : Addr) (ds : List D) (vs : List V), d = ownL ds ∧ v = .ref p ∧ H p = some (.lst vs) ∧ Reps F ds vs ∧ B = [p]
/-- a thing that is no tuple stands at a -/
def tupO : HO → Bool
  | .tup _ => true
  | .tbl _ => true
  | .ext _ => true
  | _ => false
/-- the tables stand, and are not fixed -/
def TbOk (F H : Hp) : Prop := LamX.Tabs Cls.tabs H ∧ ∀ q ∈ Cls.tabs, F q.1 = none
theorem TbOk.at {F H : Hp} (t : TbOk F H) {q : Addr × Str} (hq : q ∈ Cls.tabs) : ∃ ps, H q.1 = some (.tbl ps) := by
  obtain ⟨ps, h, _⟩ := t.1 q hq
  exact ⟨ps, h⟩
theorem TbOk.ne {F H : Hp} (t : TbOk F H) {a : Addr} (h : ∀ ps, H a ≠ some (.tbl ps)) : ∀ q ∈ Cls.tabs, a ≠ q.1 := fun q hq z => by
  obtain ⟨ps, e⟩ := t.at hq
  exact h ps (by rw [z]; exact e)
theorem TbOk.no {F H : Hp} (t : TbOk F H) {a : Addr} {o : HO} (h : H a = some o) (ho : ∀ ps, o ≠ .tbl ps := by intro _ z; cases z) : ∀ q ∈ Cls.tabs, a ≠ q.1 := t.ne fun ps e => ho ps (Option.some.inj (h.symm.trans e))
theorem TbOk.neF {F H : Hp} (t : TbOk F H) {a : Addr} {o : HO} (h : F a = some o) : ∀ q ∈ Cls.tabs, a ≠ q.1 := fun q hq z => by
  rw [z, t.2 q hq] at h
  cases h
theorem TbOk.new {F H : Hp} (t : TbOk F H) {a : Addr} (h : H a = none) : ∀ q ∈ Cls.tabs, a ≠ q.1 := t.ne fun ps e => by rw [h] at e; cases e
theorem TbOk.fixF {F H : Hp} (t : TbOk F H) {a : Addr} {o : HO} (h : ∀ q ∈ Cls.tabs, a ≠ q.1) : TbOk (L2.upd F a o) H := ⟨t.1, fun q hq => by rw [upd_ne (Ne.symm (h q hq))]; exact t.2 q hq⟩
theorem TbOk.ext {F H H' : Hp} (t : TbOk F H) (e : ∀ b o, H b = some o → H' b = some o) : TbOk F H' := ⟨t.1.ext e, t.2⟩
theorem TbOk.lay {F H : Hp} (t : TbOk F H) {a : Addr} {o : HO} (h : H a = none) : TbOk F (L2.upd H a o) := t.ext fun b u e => by rw [upd_ne (ne_of_none e h)]; exact e
/-- what is no table and no code object is changed -/
theorem TbOk.chg {F H H' : Hp} (t : TbOk F H) (e : ∀ b o, H b = some o → tupO o = true → H' b = some o) : TbOk F H' := ⟨fun q hq => by
  obtain ⟨ps, h1, h2, h3⟩ := t.1 q hq
  refine ⟨ps, e _ _ h1 rfl, h2, fun pos cv hc => ?_⟩
  obtain ⟨c, e1, e2⟩ := h3 pos cv hc
  exact ⟨c, e1, e _ _ e2 rfl⟩, t.2⟩
def Nt (H : Hp) (a : Addr) : Prop := ∃ o, H a = some o ∧ tupO o = false
theorem Nt.ne {H : Hp} {a : Addr} (h : Nt H a) : H a ≠ none := by
  obtain ⟨o, e, _⟩ := h
  rw [e]
  exact Option.some_ne_none _
theorem Nt.ntab {F H : Hp} {a : Addr} (h : Nt H a) (t : TbOk F H) : ∀ q ∈ Cls.tabs, a ≠ q.1 := t.ne fun ps e => by
  obtain ⟨o, e1, e2⟩ := h
  rw [e1] at e
  cases e
  cases e2
theorem TbOk.own {F H : Hp} (t : TbOk F H) {a : Addr} {o : HO} (h : Nt H a) : TbOk F (L2.upd H a o) := t.chg fun b u e q => by
  by_cases z : b = a
  · obtain ⟨o', e1, e2⟩ := h
    rw [z, e1] at e
    cases e
    rw [q] at e2
    cases e2
  · rw [upd_ne z]; exact e
theorem Nt.upd {H : Hp} {a p : Addr} {o : HO} (h : Nt H a) (hp : H p = none) : Nt (L2.upd H p o) a := by
  obtain ⟨u, e, t⟩ := h
  exact ⟨u, by rw [upd_ne (ne_of_none e hp)]; exact e, t⟩
theorem Nt.ner {H : Hp} {a p : Addr} {o : HO} (h : Nt H a) (hp : a ≠ p) : Nt (L2.upd H p o) a := by
  obtain ⟨u, e, t⟩ := h
  exact ⟨u, by rw [upd_ne hp]; exact e, t⟩
theorem Nt.upd' {H : Hp} {a p : Addr} {o : HO} (h : Nt H a) (ho : tupO o = false) : Nt (L2.upd H p o) a := by
  by_cases z : a = p
  · rw [z]; exact ⟨o, upd_same, ho⟩
  · obtain ⟨u, e, t⟩ := h
    exact ⟨u, by rw [upd_ne z]; exact e, t⟩
theorem AtOl.mono {F F' H H' : Hp} {d : D} {v : V} {p : Addr} (h : Same F F') (x : AtOl F H d v p) (k : ∀ o, H p = some o → H' p = some o) : AtOl F' H' d v p := by
  obtain ⟨ds, vs, e1, e2, e3, r⟩ := x
  exact ⟨ds, vs, e1, e2, k _ e3, r.mono h⟩
theorem AtOd.mono {F F' H H' : Hp} {d : D} {v : V} {p : Addr} (h : Same F F') (x : AtOd F H d v p) (k : ∀ o, H p = some o → H' p = some o) : AtOd F' H' d v p := by
  obtain ⟨ks, ds, vs, e1, e2, e3, l, r⟩ := x
  exact ⟨ks, ds, vs, e1, e2, k _ e3, l, r.mono h⟩
theorem AtK.mono {F F' H H' : Hp} (h : Same F F') : ∀ {t : Kd} {d : D} {v : V} {B : List Addr}, AtK F H t d v B → (∀ a ∈ B, ∀ o, H a = some o → H' a = some o) → AtK F' H' t d v B
  | .fr, _, _, _, ⟨r, e⟩, _ => ⟨r.mono h, e⟩
  | .ol, _, _, _, ⟨p, x, e⟩, q => ⟨p, x.mono h (q p (by rw [e]; exact List.mem_singleton.mpr rfl)), e⟩
  | .od, _, _, _, ⟨p, x, e⟩, q => ⟨p, x.mono h (q p (by rw [e]; exact List.mem_singleton.mpr rfl)), e⟩
theorem AtFs.mono {F F' H H' : Hp} {ks : List (Str × Kd)} (h : Same F F') {ns : List Str} {ds : List D} {vs : List V} {B : List Addr} (x : AtFs F H ks ns ds vs B) : (∀ a ∈ B, ∀ o, H a = some o → H' a = some o) → AtFs F' H' ks ns ds vs B := by
  induction x with
  | nil => exact fun _ => .nil
  | cons a t n ih => exact fun k => .cons (a.mono h fun b hb => k b (List.mem_append_left _ hb)) (ih fun b hb => k b (List.mem_append_right _ hb)) n
theorem AtLs.mono {F F' H H' : Hp} (h : Same F F') {ds : List D} {vs : List V} {B : List Addr} (x : AtLs F H ds vs B) : (∀ a ∈ B, ∀ o, H a = some o → H' a = some o) → AtLs F' H' ds vs B := by
  induction x with
  | nil => exact fun _ => .nil
  | cons a t n ih => exact fun k => .cons (a.mono h (k _ List.mem_cons_self)) (ih fun b hb => k b (List.mem_cons_of_mem _ hb)) n
theorem AtK.there {F H : Hp} : ∀ {t : Kd} {d : D} {v : V} {B : List Addr}, AtK F H t d v B → ∀ a ∈ B, Nt H a
  | .fr, _, _, _, ⟨_, e⟩, a, ha => by rw [e] at ha; cases ha
  | .ol, _, _, _, ⟨p, ⟨ds, vs, e1, e2, e3, r⟩, e4⟩, a, ha => by rw [e4] at ha; rw [List.mem_singleton.mp ha]; exact ⟨_, e3, rfl⟩
  | .od, _, _, _, ⟨p, ⟨ks, ds, vs, e1, e2, e3, l, r⟩, e4⟩, a, ha => by rw [e4] at ha; rw [List.mem_singleton.mp ha]; exact ⟨_, e3, rfl⟩
theorem AtFs.there {F H : Hp} {ks : List (Str × Kd)} {ns : List Str} {ds : List D} {vs : List V} {B : List Addr} (x : AtFs F H ks ns ds vs B) : ∀ a ∈ B, Nt H a := by
  induction x with
  | nil => exact fun _ h => by cases h
  | cons a t n ih => exact fun b hb => (List.mem_append.mp hb).elim (a.there b) (ih b)
theorem AtLs.there {F H : Hp} {ds : List D} {vs : List V} {B : List Addr} (x : AtLs F H ds vs B) : ∀ a ∈ B, Nt H a := by
  induction x with
  | nil => exact fun _ h => by cases h
  | cons a t n ih =>
    obtain ⟨_, _, _, _, e3, _⟩ := a
    exact fun b hb => (List.mem_cons.mp hb).elim (fun z => by rw [z]; exact ⟨_, e3, rfl⟩) (ih b)
theorem AtFs.len {F H : Hp} {ks : List (Str × Kd)} {ns : List Str} {ds : List D} {vs : List V} {B : List Addr} (x : AtFs F H ks ns ds vs B) : ds.length = ns.length ∧ vs.length = ns.length := by
  induction x with
  | nil => exact ⟨rfl, rfl⟩
  | cons a t n ih => exact ⟨congrArg Nat.succ ih.1, congrArg Nat.succ ih.2⟩
theorem At.mono {F F' H H' : Hp} (h : Same F F') : ∀ {t : Ty} {d : D} {v : V} {B : List Addr}, At F H t d v B → (∀ a ∈ B, ∀ o, H a = some o → H' a = some o) → At F' H' t d v B
  | .fr, _, _, _, ⟨r, e⟩, _ => ⟨r.mono h, e⟩
  | .ol, _, _, _, ⟨p, ds, vs, e1, e2, e3, r, e4⟩, k => ⟨p, ds, vs, e1, e2, k p (by rw [e4]; exact List.mem_singleton.mpr rfl) _ e3, r.mono h, e4⟩
  | .od, _, _, _, ⟨p, ks, ds, vs, e1, e2, e3, l, r, e4⟩, k => ⟨p, ks, ds, vs, e1, e2, k p (by rw [e4]; exact List.mem_singleton.mpr rfl) _ e3, l, r.mono h, e4⟩
  | .bag, _, _, _, ⟨b, c, ns, k, z, e1, e2, e3, e4, l, e5⟩, q => ⟨b, c, ns, k, z, e1, e2, q b (by rw [e5]; simp) _ e3, q c (by rw [e5]; simp) _ e4, l, e5⟩
  | .ob c ks, _, _, _, ⟨p, dx, ns, ds, vs, Bs, e1, e2, e3, e4, l, x, n1, n2, n3, e5⟩, q => ⟨p, dx, ns, ds, vs, Bs, e1, e2, q p (by rw [e5]; simp) _ e3, q dx (by rw [e5]; simp) _ e4, l, x.mono h fun a ha => q a (by rw [e5]; simp [ha]), n1, n2, n3, e5⟩
  | .ll, _, _, _, ⟨p, ds, vs, Bs, e1, e2, e3, x, n1, e5⟩, q => ⟨p, ds, vs, Bs, e1, e2, q p (by rw [e5]; simp) _ e3, x.mono h fun a ha => q a (by rw [e5]; simp [ha]), n1, e5⟩
  | .xl, _, _, _, .inl ⟨o, r, e⟩, _ => .inl ⟨o, r.mono h, e⟩
  | .xl, _, _, _, .inr ⟨p, ds, vs, e1, e2, e3, r, e4⟩, k => .inr ⟨p, ds, vs, e1, e2, k p (by rw [e4]; exact List.mem_singleton.mpr rfl) _ e3, r.mono h, e4⟩
/-- what it owns stands -/
theorem At.there {F H : Hp} : ∀ {t : Ty} {d : D} {v : V} {B : List Addr}, At F H t d v B → ∀ a ∈ B, Nt H a
  | .fr, _, _, _, ⟨_, e⟩, a, ha => by rw [e] at ha; cases ha
  | .ol, _, _, _, ⟨p, ds, vs, e1, e2, e3, r, e4⟩, a, ha => by rw [e4] at ha; rw [List.mem_singleton.mp ha]; exact ⟨_, e3, rfl⟩
  | .od, _, _, _, ⟨p, ks, ds, vs, e1, e2, e3, l, r, e4⟩, a, ha => by rw [e4] at ha; rw [List.mem_singleton.mp ha]; exact ⟨_, e3, rfl⟩
  | .bag, _, _, _, ⟨b, c, ns, k, z, e1, e2, e3, e4, l, e5⟩, a, ha => by
    rw [e5] at ha
    rcases List.mem_cons.mp ha with q | q
    · rw [q]; exact ⟨_, e3, rfl⟩
    · rw [List.mem_singleton.mp q]; exact ⟨_, e4, rfl⟩
  | .ob c ks, _, _, _, ⟨p, dx, ns, ds, vs, Bs, e1, e2, e3, e4, l, x, n1, n2, n3, e5⟩, a, ha => by
    rw [e5] at ha
    rcases List.mem_cons.mp ha with q | q
    · rw [q]; exact ⟨_, e3, rfl⟩
    · rcases List.mem_cons.mp q with q | q
      · rw [q]; exact ⟨_, e4, rfl⟩
      · exact x.there a q
  | .ll, _, _, _, ⟨p, ds, vs, Bs, e1, e2, e3, x, n1, e5⟩, a, ha => by
    rw [e5] at ha
    rcases List.mem_cons.mp ha with q | q
    · rw [q]; exact ⟨_, e3, rfl⟩
    · exact x.there a q
  | .xl, _, _, _, .inl ⟨_, _, e⟩, a, ha => by rw [e] at ha; cases ha
  | .xl, _, _, _, .inr ⟨p, ds, vs, e1, e2, e3, r, e4⟩, a, ha => by rw [e4] at ha; rw [List.mem_singleton.mp ha]; exact ⟨_, e3, rfl⟩

/-! ### states -/
abbrev Env := List (Option D)
abbrev Sl := L2.St
abbrev Fp := Nat → List Addr
abbrev Lk := Addr → Option Obj
def lk (L : Lk) (a : Addr) (o : HO) : HO := match L a with
  | none => o
  | some ob => .frz ob o
abbrev L0 : Lk := fun _ => none
theorem lk0 (a : Addr) (o : HO) : lk L0 a o = o := rfl
/-- from one moment to a later one: what is fixed stays, what is not owned stays, what is owned is owned or new -/
structure Stp (L : Lk) (F : Hp) (fp : Fp) (H F' : Hp) (fp' : Fp) (H' : Hp) : Prop where
  f : Same F F'
  keep : ∀ a o, H a = some o → (∀ q ∈ Cls.tabs, a ≠ q.1) → (∀ i, a ∉ fp i) → H' a = some (lk L a o)
  new : ∀ i a, a ∈ fp' i → (∃ j, a ∈ fp j) ∨ H a = none
  nof : ∀ a, Nt H a → F a = none → (∀ i, a ∉ fp i) → F' a = none
  there : ∀ a, H a ≠ none → H' a ≠ none
  nt : ∀ a, Nt H a → Nt H' a
  tab : TbOk F H → TbOk F' H'
theorem Stp.refl (F : Hp) (fp : Fp) (H : Hp) : Stp L0 F fp H F fp H := ⟨Same.refl F, fun _ _ e _ _ => e, fun i _ h => .inl ⟨i, h⟩, fun _ _ e _ => e, fun _ h => h, fun _ h => h, fun t => t⟩
theorem Stp.trans {L : Lk} {F F1 F2 H H1 H2 : Hp} {fp fp1 fp2 : Fp} (x : Stp L F fp H F1 fp1 H1) (y : Stp L0 F1 fp1 H1 F2 fp2 H2) : Stp L F fp H F2 fp2 H2 := by
  have out : ∀ a o, H a = some o → (∀ i, a ∉ fp i) → ∀ i, a ∉ fp1 i := fun a o e n i hi => by
    rcases x.new i a hi with ⟨j, hj⟩ | z
    · exact n j hj
    · rw [e] at z; cases z
  refine ⟨x.f.trans y.f, fun a o e z n => y.keep a _ (x.keep a o e z n) z (out a o e n), fun i a hi => ?_, fun a h0 e n => ?_, fun a h => y.there a (x.there a h), fun a h => y.nt a (x.nt a h), fun t => y.tab (x.tab t)⟩
  · rcases y.new i a hi with ⟨j, hj⟩ | z
    · exact x.new j a hj
    · exact .inr (Classical.byContradiction fun q => x.there a q z)
  · obtain ⟨o, eo, _⟩ := id h0
    exact y.nof a (x.nt a h0) (x.nof a h0 e n) (out a o eo n)
/-- the ground of a body of n parameters: the entry -/
structure Gr (n : Nat) where
  σ : Sl
  F : Hp
  fp : Fp
  H : Hp
  /-- the locks that are held; those of them that this body took -/
  L : Lk
  N : Lk
def isDct : HO → Bool
  | .dT _ => true
  | .dK _ => true
  | _ => false
structure Rel {n : Nat} (G : Gr n) (Γ : List Ty) (s : Env) (σ : Sl) (F : Hp) (fp : Fp) (H : Hp) : Prop where
  ls : s.length = Γ.length
  lσ : σ.length = Γ.length
  slot : ∀ (i : Nat) (t : Ty) (d : D), Γ[i]? = some t → s[i]? = some (some d) → ∃ v, σ[i]? = some (some v) ∧ At F H t d v (fp i)
  dis : ∀ i j a, a ∈ fp i → a ∈ fp j → i = j
  nF : ∀ i a, a ∈ fp i → F a = none
  oh : ∀ i a, a ∈ fp i → Nt H a
  ext : ∀ a o, F a = some o → H a = some (lk G.L a o)
  lkd : ∀ a ob, G.L a = some ob → ∃ o, F a = some o ∧ isDct o = true
  stp : Stp G.N G.F G.fp G.H F fp H
  par : ∀ i : Nat, i < n → Γ[i]? ≠ some .fr → σ[i]? = G.σ[i]?
  loc : ∀ i a, a ∈ fp i → G.H a = none ∨ (i < n ∧ a ∈ G.fp i)
  tb : TbOk F H
theorem Rel.nowF {n : Nat} {G : Gr n} {Γ : List Ty} {s : Env} {σ : Sl} {F H : Hp} {fp : Fp} (R : Rel G Γ s σ F fp H) {p : Addr} (hp : H p = none) : F p = none := by
  cases q : F p with
  | none => rfl
  | some u =>
    have z := R.ext p u q
    rw [hp] at z
    cases z
theorem Rel.at {n : Nat} {G : Gr n} {Γ : List Ty} {s : Env} {σ : Sl} {F H : Hp} {fp : Fp} (R : Rel G Γ s σ F fp H) {a : Addr} {o : HO} (e : F a = some o) (h : isDct o = false) : H a = some o := by
  have q := R.ext a o e
  unfold lk at q
  cases z : G.L a with
  | none => rw [z] at q; exact q
  | some ob =>
    obtain ⟨o', e', h'⟩ := R.lkd a ob z
    rw [e] at e'
    cases e'
    rw [h] at h'
    cases h'
/-- nothing of the slots has changed, the rest has gone on -/
theorem Rel.step {n : Nat} {G : Gr n} {Γ : List Ty} {s : Env} {σ : Sl} {F F' H H' : Hp} {fp : Fp} (R : Rel G Γ s σ F fp H) (x : Stp L0 F fp H F' fp H') (own : ∀ i a, a ∈ fp i → ∀ o, H a = some o → H' a = some o)
    (nF : ∀ i a, a ∈ fp i → F' a = none) (ext : ∀ a o, F a = none → F' a = some o → H' a = some o) : Rel G Γ s σ F' fp H' := by
  refine ⟨R.ls, R.lσ, fun i t d ht hs => ?_, R.dis, nF, fun i a h => x.nt a (R.oh i a h), fun a o e => ?_, fun a ob e => ?_, R.stp.trans x, R.par, R.loc, x.tab R.tb⟩
  · obtain ⟨v, h1, h2⟩ := R.slot i t d ht hs
    exact ⟨v, h1, h2.mono x.f (own i)⟩
  · cases q : F a with
    | none =>
      have z := ext a o q e
      unfold lk
      cases zL : G.L a with
      | none => exact z
      | some ob =>
        obtain ⟨o', e', _⟩ := R.lkd a ob zL
        rw [q] at e'
        cases e'
    | some o' =>
      have e2 := x.f a o' q
      rw [e] at e2
      cases e2
      refine x.keep a _ (R.ext a o q) (R.tb.neF q) fun i hi => ?_
      have := R.nF i a hi
      rw [q] at this
      cases this
  · obtain ⟨o, e1, e2⟩ := R.lkd a ob e
    exact ⟨o, x.f a o e1, e2⟩
/-- a new thing is laid and fixed -/
theorem Rel.fix {n : Nat} {G : Gr n} {Γ : List Ty} {s : Env} {σ : Sl} {F H : Hp} {fp : Fp} (R : Rel G Γ s σ F fp H) {p : Addr} {o : HO} (hp : H p = none) : Rel G Γ s σ (upd F p o) fp (upd H p o) ∧ Stp L0 F fp H (upd F p o) fp (upd H p o) := by
  have fp0 : F p = none := R.nowF hp
  have hne : ∀ {a u}, H a = some u → a ≠ p := fun {a u} e => ne_of_none e hp
  have np : ∀ i a, a ∈ fp i → a ≠ p := fun i a h e => (R.oh i a h).ne (by rw [e]; exact hp)
  have x : Stp L0 F fp H (upd F p o) fp (upd H p o) := by
    refine ⟨fun a u e => ?_, fun a u e _ _ => ?_, fun i a h => .inl ⟨i, h⟩, fun a h e _ => ?_, fun a h => ?_, fun a h => h.upd hp, fun t => (t.lay hp).fixF (t.new hp)⟩
    · rw [upd_ne (ne_of_none e fp0)]; exact e
    · rw [upd_ne (hne e)]; exact e
    · obtain ⟨u, eu, _⟩ := h
      rw [upd_ne (hne eu)]; exact e
    · obtain ⟨u, eu⟩ := Option.ne_none_iff_exists'.mp h
      rw [upd_ne (hne eu)]; exact h
  refine ⟨R.step x (fun i a h u e => ?_) (fun i a h => ?_) (fun a u e1 e2 => ?_), x⟩
  · rw [upd_ne (hne e)]; exact e
  · rw [upd_ne (np i a h)]; exact R.nF i a h
  · by_cases z : a = p
    · subst z; rw [upd_same] at e2 ⊢; exact e2
    · rw [upd_ne z, e1] at e2; cases e2
end Bk

set_option Elab.async false
set_option linter.all false
set_option maxRecDepth 100000
set_option maxHeartbeats 4000000
namespace Bk
open PySem PySem.Spec PyProof.Rows L2
variable [Cls]

/-! ### results -/
/-- an own exception: its class's name, its fields' names and values -/
structure Err where
  c : Str
  ns : List Str
  vs : List D
inductive R (α : Type) where
  | ok (a : α) (s : Env)
  | err (e : Err) (s : Env)
  | stuck
def R.bind {α β : Type} (r : R α) (k : α → Env → R β) : R β := match r with
  | .ok a s => k a s
  | .err e s => .err e s
  | .stuck => .stuck
@[simp] theorem R.bind_ok {α β : Type} (a : α) (s : Env) (k : α → Env → R β) : (R.ok a s).bind k = k a s := rfl
@[simp] theorem R.bind_err {α β : Type} (e : Err) (s : Env) (k : α → Env → R β) : (R.err e s : R α).bind k = .err e s := rfl
@[simp] theorem R.bind_stuck {α β : Type} (k : α → Env → R β) : (R.stuck : R α).bind k = .stuck := rfl
def R.opt {α : Type} (o : Option α) (s : Env) : R α := match o with
  | some a => .ok a s
  | none => .stuck
@[simp] theorem R.opt_some {α : Type} (a : α) (s : Env) : R.opt (some a) s = .ok a s := rfl
@[simp] theorem R.opt_none {α : Type} (s : Env) : (R.opt (none : Option α) s) = .stuck := rfl
abbrev M := Env → R D
abbrev MB := Env → R Bool
abbrev MA := Env → R (List D)

def ErrAt (K : PySem.W.Frag) (F : Hp) (e : Err) (cls : Value) (od : Option Addr) : Prop := cls = .ref (He.ga K e.c) ∧
  ((e.ns = [] ∧ od = none) ∨ ∃ (d : Addr) (ws : List V), e.ns ≠ [] ∧ od = some d ∧ F d = some (.xd (e.ns.zip ws)) ∧ e.ns.length = ws.length ∧ Reps F e.vs ws)
def PostG {α β : Type} (K : PySem.W.Frag) {n : Nat} (G : Gr n) (W : WX) (Γ : List Ty) (σ : Sl) (F : Hp) (fp : Fp) (H : Hp) (A : α → β → Hp → Fp → Hp → Prop) (Q : β → Hp → Prop) : R α → Prop
  | .ok a s' => ∀ b F' fp' H', Rel G Γ s' σ F' fp' H' → Stp L0 F fp H F' fp' H' → A a b F' fp' H' → Q b H'
  | .err e s' => ∀ cls od F' fp' H', Rel G Γ s' σ F' fp' H' → Stp L0 F fp H F' fp' H' → ErrAt K F' e cls od → W cls od σ H'
  | .stuck => False
theorem PostG.shift {α β : Type} {K : PySem.W.Frag} {n : Nat} {G : Gr n} {W : WX} {Γ : List Ty} {σ : Sl} {F F1 H H1 : Hp} {fp fp1 : Fp} {A : α → β → Hp → Fp → Hp → Prop} {Q : β → Hp → Prop} (x : Stp L0 F fp H F1 fp1 H1) :
    ∀ {r : R α}, PostG K G W Γ σ F fp H A Q r → PostG K G W Γ σ F1 fp1 H1 A Q r
  | .ok _ _, h => fun b F' fp' H' R y z => h b F' fp' H' R (x.trans y) z
  | .err _ _, h => fun cls od F' fp' H' R y z => h cls od F' fp' H' R (x.trans y) z
  | .stuck, h => h
theorem pbind {α β α' β' : Type} {K : PySem.W.Frag} {n : Nat} {G : Gr n} {W : WX} {Γ : List Ty} {σ : Sl} {F H : Hp} {fp : Fp} {A : α → β → Hp → Fp → Hp → Prop} {Q : β → Hp → Prop} {A' : α' → β' → Hp → Fp → Hp → Prop} {Q' : β' → Hp → Prop} {k : α' → Env → R α} :
    ∀ {r : R α'}, PostG K G W Γ σ F fp H A Q (r.bind k) → (∀ a s1 b F1 fp1 H1, Rel G Γ s1 σ F1 fp1 H1 → Stp L0 F fp H F1 fp1 H1 → A' a b F1 fp1 H1 → PostG K G W Γ σ F1 fp1 H1 A Q (k a s1) → Q' b H1) → PostG K G W Γ σ F fp H A' Q' r
  | .ok a s1, h, f => fun b F1 fp1 H1 R1 x z => f a s1 b F1 fp1 H1 R1 x z (PostG.shift x h)
  | .err _ _, h, _ => h
  | .stuck, h, _ => h
theorem pmap {α β β' : Type} {K : PySem.W.Frag} {n : Nat} {G : Gr n} {W : WX} {Γ : List Ty} {σ : Sl} {F H : Hp} {fp : Fp} {A : α → β → Hp → Fp → Hp → Prop} {Q : β → Hp → Prop} {A' : α → β' → Hp → Fp → Hp → Prop} {Q' : β' → Hp → Prop} :
    ∀ {r : R α}, PostG K G W Γ σ F fp H A Q r → (∀ a s1 b F1 fp1 H1, Rel G Γ s1 σ F1 fp1 H1 → Stp L0 F fp H F1 fp1 H1 → A' a b F1 fp1 H1 → PostG K G W Γ σ F1 fp1 H1 A Q (.ok a s1) → Q' b H1) → PostG K G W Γ σ F fp H A' Q' r
  | .ok a s1, h, f => fun b F1 fp1 H1 R1 x z => f a s1 b F1 fp1 H1 R1 x z (PostG.shift x h)
  | .err _ _, h, _ => h
  | .stuck, h, _ => h
theorem pok {α β : Type} {K : PySem.W.Frag} {n : Nat} {G : Gr n} {W : WX} {Γ : List Ty} {σ : Sl} {F H : Hp} {fp : Fp} {A : α → β → Hp → Fp → Hp → Prop} {Q : β → Hp → Prop} {a : α} {s : Env} {b : β} (h : PostG K G W Γ σ F fp H A Q (.ok a s)) (R : Rel G Γ s σ F fp H) (z : A a b F fp H) : Q b H := h b F fp H R (Stp.refl F fp H) z

/-! ### readings -/
def Tmp {n : Nat} (G : Gr n) (fp0 : Fp) (H0 F : Hp) (fp : Fp) (B : List Addr) : Prop := ∀ a ∈ B, F a = none ∧ (∀ i, a ∉ fp i) ∧ G.H a = none ∧ ((∃ i, a ∈ fp0 i) ∨ H0 a = none)
theorem Tmp.nil {n : Nat} {G : Gr n} {fp0 : Fp} {H0 F : Hp} {fp : Fp} : Tmp G fp0 H0 F fp [] := fun _ h => by cases h
/-- d of the kind t lies at v, behind an expression that began with fp0 and H0 -/
def AE {n : Nat} (G : Gr n) (t : Ty) (fp0 : Fp) (H0 : Hp) : D → V → Hp → Fp → Hp → Prop := fun d v F fp H => ∃ B, At F H t d v B ∧ Tmp G fp0 H0 F fp B
def AB : Bool → Bool → Hp → Fp → Hp → Prop := fun a b _ _ _ => a = b
def AA : List D → List V → Hp → Fp → Hp → Prop := fun ds vs F _ _ => Reps F ds vs
theorem AE.fr {n : Nat} {G : Gr n} {d : D} {v : V} {F H H0 : Hp} {fp fp0 : Fp} (r : Rep F d v) : AE G .fr fp0 H0 d v F fp H := ⟨[], ⟨r, rfl⟩, Tmp.nil⟩
theorem AE.rep {n : Nat} {G : Gr n} {d : D} {v : V} {F H H0 : Hp} {fp fp0 : Fp} (h : AE G .fr fp0 H0 d v F fp H) : Rep F d v := h.elim fun _ x => x.1.1
theorem AE.back {n : Nat} {G : Gr n} {t : Ty} {d : D} {v : V} {F H H0 H1 F0 F1 : Hp} {fp fp0 fp1 : Fp} (x : Stp L0 F0 fp0 H0 F1 fp1 H1) (h : AE G t fp1 H1 d v F fp H) : AE G t fp0 H0 d v F fp H := by
  obtain ⟨B, a, q⟩ := h
  refine ⟨B, a, fun b hb => ?_⟩
  obtain ⟨q1, q2, q3, q4⟩ := q b hb
  refine ⟨q1, q2, q3, ?_⟩
  rcases q4 with ⟨i, hi⟩ | z
  · exact x.new i b hi
  · exact .inr (Classical.byContradiction fun w => x.there b w z)
theorem PostG.imp {α β : Type} {K : PySem.W.Frag} {n : Nat} {G : Gr n} {W : WX} {Γ : List Ty} {σ : Sl} {F H : Hp} {fp : Fp} {A A' : α → β → Hp → Fp → Hp → Prop} {Q : β → Hp → Prop} (hA : ∀ a b F' fp' H', A' a b F' fp' H' → A a b F' fp' H') :
    ∀ {r : R α}, PostG K G W Γ σ F fp H A Q r → PostG K G W Γ σ F fp H A' Q r
  | .ok _ _, h => fun b F' fp' H' R y z => h b F' fp' H' R y (hA _ _ _ _ _ z)
  | .err _ _, h => h
  | .stuck, h => h
def tM (K : PySem.W.Frag) {n : Nat} (G : Gr n) (W : WX) (Γ : List Ty) (t : Ty) (m : M) : TE := fun σ H Q => ∃ s F fp, Rel G Γ s σ F fp H ∧ PostG K G W Γ σ F fp H (AE G t fp H) Q (m s)
def tMB (K : PySem.W.Frag) {n : Nat} (G : Gr n) (W : WX) (Γ : List Ty) (m : MB) : TT := fun σ H Q => ∃ s F fp, Rel G Γ s σ F fp H ∧ PostG K G W Γ σ F fp H AB Q (m s)
def tMA (K : PySem.W.Frag) {n : Nat} (G : Gr n) (W : WX) (Γ : List Ty) (m : MA) : TA := fun σ H Q => ∃ s F fp, Rel G Γ s σ F fp H ∧ PostG K G W Γ σ F fp H AA Q (m s)
abbrev ME (X : Cx) {n : Nat} (G : Gr n) (W : WX) (Γ : List Ty) (e : Expr) (t : Ty) (m : M) : Prop := PE X e (tM X.K G W Γ t m)
abbrev MT (X : Cx) {n : Nat} (G : Gr n) (W : WX) (Γ : List Ty) (e : Expr) (m : MB) : Prop := PT X e (tMB X.K G W Γ m)
abbrev MTW (X : Cx) {n : Nat} (G : Gr n) (W : WX) (Γ : List Ty) (e : Expr) (m : MB) : Prop := PW X e (tMB X.K G W Γ m)
abbrev MAs (X : Cx) {n : Nat} (G : Gr n) (W : WX) (Γ : List Ty) (es : List Expr) (m : MA) : Prop := PA X es (tMA X.K G W Γ m)
theorem peI {X : Cx} {e : Expr} {t t' : TE} (h : PE X e t) (f : ∀ σ H Q, t' σ H Q → t σ H Q) : PE X e t' := ⟨fun pins s σ H Q I q => h.run pins s σ H Q I (f σ H Q q)⟩
theorem ptI {X : Cx} {e : Expr} {t t' : TT} (h : PT X e t) (f : ∀ σ H Q, t' σ H Q → t σ H Q) : PT X e t' := ⟨fun pins s σ H Q I q => h.run pins s σ H Q I (f σ H Q q)⟩
theorem pwI {X : Cx} {e : Expr} {t t' : TT} (h : PW X e t) (f : ∀ σ H Q, t' σ H Q → t σ H Q) : PW X e t' := ⟨fun w pins s σ H Q I q => h.run w pins s σ H Q I (f σ H Q q)⟩
theorem paI {X : Cx} {e : List Expr} {t t' : TA} (h : PA X e t) (f : ∀ σ H Q, t' σ H Q → t σ H Q) : PA X e t' := ⟨fun po pins s σ H Q I q => h.run po pins s σ H Q I (f σ H Q q)⟩
theorem psI {X : Cx} {e : Stmt} {t t' : TS} (h : PS X e t) (f : ∀ D σ H, t' D σ H → t D σ H) : PS X e t' := ⟨fun pins s σ H D I q => h.run pins s σ H D I (f D σ H q)⟩
theorem pssI {X : Cx} {e : List Stmt} {t t' : TS} (h : PSs X e t) (f : ∀ D σ H, t' D σ H → t D σ H) : PSs X e t' := ⟨fun pins s σ H D I q => h.run pins s σ H D I (f D σ H q)⟩

section
variable {X : Cx} {n : Nat} {G : Gr n} {W : WX} {Γ : List Ty}
/-! ### names, constants -/
def mVar (i : Nat) : M := fun s => match s[i]? with
  | some (some d) => .ok d s
  | _ => .stuck
theorem me_var {e : Expr} {i : Nat} (h : PE X e (tVar i)) (ht : Γ[i]? = some .fr) : ME X G W Γ e .fr (mVar i) := peI h fun σ H Q ⟨s, F, fp, R, q⟩ => by
  unfold mVar at q
  split at q
  · rename_i d e
    obtain ⟨v, hv, a⟩ := R.slot i _ _ ht e
    exact ⟨v, hv, pok q R (AE.fr a.1)⟩
  · exact q.elim
def mK (d : D) : M := fun s => .ok d s
theorem me_k {e : Expr} {d : D} {v : V} (h : PE X e (tC v)) (r : ∀ F, Rep F d v) : ME X G W Γ e .fr (mK d) := peI h fun σ H Q ⟨s, F, fp, R, q⟩ => pok q R (AE.fr (r F))
theorem me_int {i j pos} : ME X G W Γ (.Constant (.int i) j pos) .fr (mK (.int i)) := me_k pe_int fun _ => .int i
theorem me_bl {b j pos} : ME X G W Γ (.Constant (.bool b) j pos) .fr (mK (.bl b)) := me_k pe_bl fun _ => .bl b
theorem me_non {j pos} : ME X G W Γ (.Constant .none j pos) .fr (mK .non) := me_k pe_non fun _ => .non
theorem me_str {x j pos} : ME X G W Γ (.Constant (.str x) j pos) .fr (mK (.str x)) := me_k pe_str fun _ => .str x

/-! ### operators on scalars -/
def mOp (f : D → D → Option D) (ma mb : M) : M := fun s => (ma s).bind fun d s1 => (mb s1).bind fun e s2 => R.opt (f d e) s2
def mUn (f : D → Option D) (ma : M) : M := fun s => (ma s).bind fun d s1 => R.opt (f d) s1
/-- what an operator's rule asks is given by a function on data -/
def OpD (r : R2) (f : D → D → Option D) : Prop := ∀ d e z x y F H (Q : VK), f d e = some z → Rep F d x → Rep F e y → (∀ w, Rep F z w → Q w H) → r x y H Q
theorem opt_post {α β : Type} {K : PySem.W.Frag} {σ : Sl} {F H : Hp} {fp : Fp} {A : α → β → Hp → Fp → Hp → Prop} {Q : β → Hp → Prop} {o : Option α} {s : Env} (h : PostG K G W Γ σ F fp H A Q (R.opt o s)) : ∃ a, o = some a ∧ PostG K G W Γ σ F fp H A Q (.ok a s) := by
  cases o with
  | none => exact h.elim
  | some a => exact ⟨a, rfl, h⟩
theorem two' {K : PySem.W.Frag} {σ : Sl} {H : Hp} {Q : VK} {r : R2} {f : D → D → Option D} (hf : ∀ d e z x y s F fp H (Q : VK), Rel G Γ s σ F fp H → f d e = some z → Rep F d x → Rep F e y → (∀ w, Rep F z w → Q w H) → r x y H Q) {ma mb : M} (h : tM K G W Γ .fr (mOp f ma mb) σ H Q) :
    tM K G W Γ .fr ma σ H fun x H1 => tM K G W Γ .fr mb σ H1 fun y H2 => r x y H2 Q := by
  obtain ⟨s, F, fp, R, q⟩ := h
  refine ⟨s, F, fp, R, pbind q fun d s1 x F1 fp1 H1 R1 st1 a1 q1 => ⟨s1, F1, fp1, R1, pbind q1 fun e s2 y F2 fp2 H2 R2 st2 a2 q2 => ?_⟩⟩
  obtain ⟨z, ez, q3⟩ := opt_post q2
  exact hf d e z x y s2 F2 fp2 H2 Q R2 ez (a1.rep.mono st2.f) a2.rep fun w rw => pok q3 R2 (AE.fr rw)
theorem two {K : PySem.W.Frag} {σ : Sl} {H : Hp} {Q : VK} {r : R2} {f : D → D → Option D} (hf : OpD r f) {ma mb : M} (h : tM K G W Γ .fr (mOp f ma mb) σ H Q) :
    tM K G W Γ .fr ma σ H fun x H1 => tM K G W Γ .fr mb σ H1 fun y H2 => r x y H2 Q := two' (fun d e z x y s F fp H Q _ => hf d e z x y F H Q) h
theorem me_op {op : Operator} {r : R2} {f : D → D → Option D} {a b : Expr} {ma mb : M} {pos : Pos} (ho : OpR X (binaryOp op) r) (hf : OpD r f) (ha : ME X G W Γ a .fr ma) (hb : ME X G W Γ b .fr mb) : ME X G W Γ (.BinOp a op b pos) .fr (mOp f ma mb) :=
  peI (pe_op ho ha hb) fun σ H Q h => two hf h
theorem me_cmp {op : CmpOp} {r : R2} {f : D → D → Option D} {a b : Expr} {ma mb : M} {pos : Pos} (ho : OpR X (compareOp op) r) (hf : OpD r f) (ha : ME X G W Γ a .fr ma) (hb : ME X G W Γ b .fr mb) (hm : behindInMarks op b = false) : ME X G W Γ (.Compare a [op] [b] pos) .fr (mOp f ma mb) :=
  peI (pe_cmpR ho ha hb hm) fun σ H Q h => two hf h
theorem me_un {op : UnaryOp} {r : V → Hp → VK → Prop} {f : D → Option D} {a : Expr} {ma : M} {pos : Pos} (ho : UnR X (unaryOp op) r) (hf : ∀ d z x F H (Q : VK), f d = some z → Rep F d x → (∀ w, Rep F z w → Q w H) → r x H Q) (ha : ME X G W Γ a .fr ma) : ME X G W Γ (.UnaryOp op a pos) .fr (mUn f ma) :=
  peI (pe_un ho ha) fun σ H Q ⟨s, F, fp, R, q⟩ => ⟨s, F, fp, R, pbind q fun d s1 x F1 fp1 H1 R1 st1 a1 q1 => by
    obtain ⟨z, ez, q3⟩ := opt_post q1
    exact hf d z x F1 H1 Q ez a1.rep fun w rw => pok q3 R1 (AE.fr rw)⟩
/-- a bool-valued comparison as a test -/
def mTst (m : M) : MB := fun s => (m s).bind fun d s1 => match d with
  | .bl b => .ok b s1
  | _ => .stuck
theorem tst {K : PySem.W.Frag} {σ : Sl} {H : Hp} {Q : Bool → Hp → Prop} {m : M} (h : tMB K G W Γ (mTst m) σ H Q) : tM K G W Γ .fr m σ H fun x H1 => ∃ k, x = .bl k ∧ Q k H1 := by
  obtain ⟨s, F, fp, R, q⟩ := h
  refine ⟨s, F, fp, R, pbind q fun d s1 x F1 fp1 H1 R1 st1 a1 q1 => ?_⟩
  cases a1.rep with
  | bl b => exact ⟨b, rfl, pok q1 R1 rfl⟩
  | _ => exact q1.elim
theorem mt_cmp {op : CmpOp} {r : R2} {f : D → D → Option D} {a b : Expr} {ma mb : M} {pos : Pos} (ho : OpR X (compareOp op) r) (hf : OpD r f) (ha : ME X G W Γ a .fr ma) (hb : ME X G W Γ b .fr mb) (hm : behindInMarks op b = false) : MT X G W Γ (.Compare a [op] [b] pos) (mTst (mOp f ma mb)) :=
  ptI (pt_cmpR ho ha hb hm) fun σ H Q h => two hf (tst h)
theorem mt_val {e : Expr} {m : M} (h : ME X G W Γ e .fr m) (he : ∀ whole, isTrue e X.env whole = (do let v ← whole; standAt e.pos; holding [v] (truthy v)) := by intro _; rfl) : MT X G W Γ e (mTst m) := ptI (pt_val h he) fun σ H Q q => tst q
/-! ### and, or, not -/
def mAnd (a b : MB) : MB := fun s => (a s).bind fun c s1 => if c = true then b s1 else .ok false s1
def mOr (a b : MB) : MB := fun s => (a s).bind fun c s1 => if c = true then .ok true s1 else b s1
def mNot (a : MB) : MB := fun s => (a s).bind fun c s1 => .ok (!c) s1
variable {a b : Expr} {rest : List Expr} {ma mb : MB} {pos : Pos}
theorem mt_and1 (h : MT X G W Γ a ma) : MTW X G W Γ (.BoolOp .And [a] pos) ma := pw_and1 h
theorem mt_or1 (h : MT X G W Γ a ma) : MTW X G W Γ (.BoolOp .Or [a] pos) ma := pw_or1 h
theorem mt_and (ha : MT X G W Γ a ma) (hb : MTW X G W Γ (.BoolOp .And (b :: rest) pos) mb) : MTW X G W Γ (.BoolOp .And (a :: b :: rest) pos) (mAnd ma mb) :=
  pwI (pw_and ha hb) fun σ H Q ⟨s, F, fp, R, q⟩ => ⟨s, F, fp, R, pbind q fun c s1 c' F1 fp1 H1 R1 st1 a1 q1 => by
    cases a1
    cases c with
    | true => exact ⟨s1, F1, fp1, R1, q1⟩
    | false => exact pok q1 R1 rfl⟩
theorem mt_or (ha : MT X G W Γ a ma) (hb : MTW X G W Γ (.BoolOp .Or (b :: rest) pos) mb) : MTW X G W Γ (.BoolOp .Or (a :: b :: rest) pos) (mOr ma mb) :=
  pwI (pw_or ha hb) fun σ H Q ⟨s, F, fp, R, q⟩ => ⟨s, F, fp, R, pbind q fun c s1 c' F1 fp1 H1 R1 st1 a1 q1 => by
    cases a1
    cases c with
    | true => exact pok q1 R1 rfl
    | false => exact ⟨s1, F1, fp1, R1, q1⟩⟩
theorem mt_w (h : MTW X G W Γ a ma) : MT X G W Γ a ma := h.pt
theorem mt_not (h : MT X G W Γ a ma) : MT X G W Γ (.UnaryOp .Not a pos) (mNot ma) :=
  ptI (pt_not h) fun σ H Q ⟨s, F, fp, R, q⟩ => ⟨s, F, fp, R, pbind q fun c s1 c' F1 fp1 H1 R1 st1 a1 q1 => by
    cases a1
    exact pok q1 R1 rfl⟩
/-- .. as values -/
def mAndV (a b : M) : M := fun s => (a s).bind fun d s1 => match d with
  | .bl true => b s1
  | .bl false => .ok (.bl false) s1
  | _ => .stuck
def mOrV (a b : M) : M := fun s => (a s).bind fun d s1 => match d with
  | .bl true => .ok (.bl true) s1
  | .bl false => b s1
  | _ => .stuck
def mNotV (a : M) : M := fun s => (a s).bind fun d s1 => match d with
  | .bl c => .ok (.bl (!c)) s1
  | _ => .stuck
variable {va vb : M}
theorem me_one {op} (h : ME X G W Γ a .fr va) : ME X G W Γ (.BoolOp op [a] pos) .fr va := pe_one h
theorem me_and (ha : ME X G W Γ a .fr va) (hb : ME X G W Γ (.BoolOp .And (b :: rest) pos) .fr vb) : ME X G W Γ (.BoolOp .And (a :: b :: rest) pos) .fr (mAndV va vb) :=
  peI (pe_and ha hb) fun σ H Q ⟨s, F, fp, R, q⟩ => ⟨s, F, fp, R, pbind q fun d s1 x F1 fp1 H1 R1 st1 a1 q1 => by
    cases a1.rep with
    | bl c =>
      refine ⟨c, rfl, ?_⟩
      cases c with
      | true => exact ⟨s1, F1, fp1, R1, q1.imp fun _ _ _ _ _ z => z.back st1⟩
      | false => exact pok q1 R1 (AE.fr (.bl false))
    | _ => exact q1.elim⟩
theorem me_or (ha : ME X G W Γ a .fr va) (hb : ME X G W Γ (.BoolOp .Or (b :: rest) pos) .fr vb) : ME X G W Γ (.BoolOp .Or (a :: b :: rest) pos) .fr (mOrV va vb) :=
  peI (pe_or ha hb) fun σ H Q ⟨s, F, fp, R, q⟩ => ⟨s, F, fp, R, pbind q fun d s1 x F1 fp1 H1 R1 st1 a1 q1 => by
    cases a1.rep with
    | bl c =>
      refine ⟨c, rfl, ?_⟩
      cases c with
      | true => exact pok q1 R1 (AE.fr (.bl true))
      | false => exact ⟨s1, F1, fp1, R1, q1.imp fun _ _ _ _ _ z => z.back st1⟩
    | _ => exact q1.elim⟩
theorem me_not (ha : ME X G W Γ a .fr va) : ME X G W Γ (.UnaryOp .Not a pos) .fr (mNotV va) :=
  peI (pe_not ha) fun σ H Q ⟨s, F, fp, R, q⟩ => ⟨s, F, fp, R, pbind q fun d s1 x F1 fp1 H1 R1 st1 a1 q1 => by
    cases a1.rep with
    | bl c => exact ⟨c, rfl, pok q1 R1 (AE.fr (.bl (!c)))⟩
    | _ => exact q1.elim⟩
def mIf (c : MB) (a b : M) : M := fun s => (c s).bind fun k s1 => if k = true then a s1 else b s1
theorem me_ifExp {c : Expr} {mc : MB} {t : Ty} (hc : MT X G W Γ c mc) (ha : ME X G W Γ a t va) (hb : ME X G W Γ b t vb) : ME X G W Γ (.IfExp c a b pos) t (mIf mc va vb) :=
  peI (pe_ifExp hc ha hb) fun σ H Q ⟨s, F, fp, R, q⟩ => ⟨s, F, fp, R, pbind q fun k s1 x F1 fp1 H1 R1 st1 a1 q1 => by
    cases a1
    cases k with
    | true => exact ⟨s1, F1, fp1, R1, q1.imp fun _ _ _ _ _ z => z.back st1⟩
    | false => exact ⟨s1, F1, fp1, R1, q1.imp fun _ _ _ _ _ z => z.back st1⟩⟩
end
end Bk

set_option Elab.async false
set_option linter.all false
set_option maxRecDepth 100000
set_option maxHeartbeats 4000000
namespace Bk
open PySem PySem.Spec PyProof.Rows L2
variable [Cls]

/-! ### equality of data, as Python has it -/
mutual
def D.py : D → PyData
  | .non => .none
  | .bl b => .bool b
  | .int i => .int i
  | .str x => .str x
  | .tup xs => .tuple (D.pys xs)
  | .lst xs => .list (D.pys xs)
  | .dct _ _ => .dict []
  | .obj _ _ _ => .dict []
def D.pys : List D → List PyData
  | [] => []
  | x :: xs => D.py x :: D.pys xs
end
mutual
def D.flat : Nat → D → Bool
  | _, .non => true
  | _, .bl _ => true
  | _, .int _ => true
  | _, .str x => PyData.strOk x
  | 0, .tup _ => false
  | 0, .lst _ => false
  | n + 1, .tup xs => D.flats n xs
  | n + 1, .lst xs => D.flats n xs
  | _, .dct _ _ => false
  | _, .obj _ _ _ => false
def D.flats : Nat → List D → Bool
  | _, [] => true
  | n, x :: xs => D.flat n x && D.flats n xs
end
mutual
def D.eq : D → D → Bool
  | .non, .non => true
  | .bl a, .bl b => a == b
  | .bl a, .int j => (if a then 1 else 0) == j
  | .int i, .bl b => i == (if b then 1 else 0)
  | .int i, .int j => i == j
  | .str x, .str y => x == y
  | .lst xs, .lst ys => D.eqs xs ys
  | .tup xs, .tup ys => D.eqs xs ys
  | _, _ => false
def D.eqs : List D → List D → Bool
  | [], [] => true
  | x :: xs, y :: ys => D.eq x y && D.eqs xs ys
  | _, _ => false
end
mutual
theorem D.eq_py : ∀ d e : D, PyData.eqv d.py e.py = D.eq d e
  | .non, e => by cases e <;> rfl
  | .bl a, e => by cases e <;> rfl
  | .int i, e => by cases e <;> rfl
  | .str x, e => by cases e <;> rfl
  | .lst xs, e => by
    cases e with
    | lst ys => exact D.eqs_py xs ys
    | _ => rfl
  | .tup xs, e => by
    cases e with
    | tup ys => exact D.eqs_py xs ys
    | _ => rfl
  | .dct _ _, e => by cases e <;> rfl
  | .obj _ _ _, e => by cases e <;> rfl
theorem D.eqs_py : ∀ ds es : List D, PyData.eqvAll (D.pys ds) (D.pys es) = D.eqs ds es
  | [], [] => rfl
  | [], _ :: _ => rfl
  | _ :: _, [] => rfl
  | d :: ds, e :: es => by
    show (PyData.eqv d.py e.py && PyData.eqvAll (D.pys ds) (D.pys es)) = (D.eq d e && D.eqs ds es)
    rw [D.eq_py d e, D.eqs_py ds es]
end
mutual
theorem D.flat_lay : ∀ (n : Nat) (d : D), D.flat n d = true → d.py.canLay0 = true ∧ d.py.depth ≤ n
  | _, .non, _ => ⟨rfl, Nat.zero_le _⟩
  | _, .bl _, _ => ⟨rfl, Nat.zero_le _⟩
  | _, .int _, _ => ⟨rfl, Nat.zero_le _⟩
  | n, .str x, h => by
    have h' : PyData.strOk x = true := by cases n <;> exact h
    exact ⟨h', Nat.zero_le _⟩
  | 0, .tup _, h => by cases h
  | 0, .lst _, h => by cases h
  | n + 1, .tup xs, h => by
    obtain ⟨a, b⟩ := D.flats_lay n xs h
    exact ⟨a, Nat.succ_le_succ b⟩
  | n + 1, .lst xs, h => by
    obtain ⟨a, b⟩ := D.flats_lay n xs h
    exact ⟨a, Nat.succ_le_succ b⟩
  | n, .dct _ _, h => by cases n <;> cases h
  | n, .obj _ _ _, h => by cases n <;> cases h
theorem D.flats_lay : ∀ (n : Nat) (ds : List D), D.flats n ds = true → PyData.canLayAll0 (D.pys ds) = true ∧ PyData.depthAll (D.pys ds) ≤ n
  | _, [], _ => ⟨rfl, Nat.zero_le _⟩
  | n, d :: ds, h => by
    have h' : (D.flat n d && D.flats n ds) = true := by cases n <;> exact h
    rw [Bool.and_eq_true] at h'
    obtain ⟨a, b⟩ := D.flat_lay n d h'.1
    obtain ⟨a2, b2⟩ := D.flats_lay n ds h'.2
    exact ⟨by show (d.py.canLay0 && PyData.canLayAll0 (D.pys ds)) = true; rw [a, a2]; rfl, Nat.max_le.mpr ⟨b, b2⟩⟩
end
theorem D.shaped {d : D} (h : D.flat 60 d = true) : SeqAt.shaped d.py = true := by
  obtain ⟨a, b⟩ := D.flat_lay 60 d h
  unfold SeqAt.shaped
  rw [a, Bool.true_and]
  exact decide_eq_true (by omega)

section
variable {X : Cx} {n : Nat} {G : Gr n} {W : WX} {Γ : List Ty}
/-- what is fixed may be read as data -/
theorem Rel.sqT {K : PySem.W.Frag} {s : Env} {σ : Sl} {F H : Hp} {fp : Fp} (R : Rel G Γ s σ F fp H) {a : Addr} {vs : List V} (e : F a = some (.tup vs)) : SqT K H a vs := .of (R.at e rfl)
theorem Rel.sqL {K : PySem.W.Frag} {s : Env} {σ : Sl} {F H : Hp} {fp : Fp} (R : Rel G Γ s σ F fp H) {a : Addr} {vs : List V} (e : F a = some (.lst vs)) : SqL K H a vs := .of (R.at e rfl)
mutual
theorem Rel.dp {K : PySem.W.Frag} {s : Env} {σ : Sl} {F H : Hp} {fp : Fp} (R : Rel G Γ s σ F fp H) : ∀ {m : Nat} {d : D} {v : V}, D.flat m d = true → Rep F d v → Dp K H v d.py
  | _, _, _, _, .non => .non
  | _, _, _, _, .bl b => .bl b
  | _, _, _, _, .int i => .int i
  | _, _, _, _, .str x => .str x
  | 0, _, _, h, .tup _ _ => by cases h
  | 0, _, _, h, .lst _ _ => by cases h
  | n + 1, _, _, h, .tup e r => .tup (R.sqT e) (Rel.dps R (m := n) h r)
  | n + 1, _, _, h, .lst e r => .lst (R.sqL e) (Rel.dps R (m := n) h r)
  | n, _, _, h, .dct _ _ _ => by cases n <;> cases h
  | n, _, _, h, .obj _ _ _ => by cases n <;> cases h
theorem Rel.dps {K : PySem.W.Frag} {s : Env} {σ : Sl} {F H : Hp} {fp : Fp} (R : Rel G Γ s σ F fp H) : ∀ {m : Nat} {ds : List D} {vs : List V}, D.flats m ds = true → Reps F ds vs → DpAll K H vs (D.pys ds)
  | _, _, _, _, .nil => .nil
  | n, d :: ds, _, h, .cons r t => by
    have h' : (D.flat n d && D.flats n ds) = true := by cases n <;> exact h
    rw [Bool.and_eq_true] at h'
    exact .cons (Rel.dp R h'.1 r) (Rel.dps R h'.2 t)
end

/-! ### operators -/
def mulOk (i j : Int) : Bool := decide (-(2 ^ 64) < i ∧ i < 2 ^ 64) || (decide (-(2 ^ 64) < j ∧ j < 2 ^ 64) || decide (i.natAbs.log2 + j.natAbs.log2 < 1000000))
def dAdd : D → D → Option D
  | .int i, .int j => some (.int (i + j))
  | .str x, .str y => if x.length + y.length ≤ sizeLine then some (.str (x ++ y)) else none
  | _, _ => none
def dSub : D → D → Option D
  | .int i, .int j => some (.int (i - j))
  | _, _ => none
def dMul : D → D → Option D
  | .int i, .int j => if mulOk i j = true then some (.int (i * j)) else none
  | _, _ => none
def dDiv : D → D → Option D
  | .int i, .int j => if 0 < j ∧ j.natAbs.log2 < 9000 then some (.int (i / j)) else none
  | _, _ => none
def dMod : D → D → Option D
  | .int i, .int j => if 0 < j then some (.int (i % j)) else none
  | _, _ => none
def dPow : D → D → Option D
  | .int i, .int j => if 0 ≤ j ∧ j ≤ 1000000 ∧ i.natAbs < 2 ^ 64 then some (.int (i ^ j.toNat)) else none
  | _, _ => none
def dShl : D → D → Option D
  | .int i, .int j => if 0 ≤ j ∧ j ≤ 1000000 ∧ i.natAbs < 2 ^ 64 then some (.int (i * 2 ^ j.toNat)) else none
  | _, _ => none
def dShr : D → D → Option D
  | .int i, .int j => if 0 ≤ j then some (.int (i / 2 ^ j.toNat)) else none
  | _, _ => none
def dLt : D → D → Option D
  | .int i, .int j => some (.bl (decide (i < j)))
  | _, _ => none
def dLe : D → D → Option D
  | .int i, .int j => some (.bl (decide (i ≤ j)))
  | _, _ => none
def dGt : D → D → Option D
  | .int i, .int j => some (.bl (decide (j < i)))
  | _, _ => none
def dGe : D → D → Option D
  | .int i, .int j => some (.bl (decide (j ≤ i)))
  | _, _ => none
def dNeg : D → Option D
  | .int i => some (.int (-i))
  | _ => none
theorem od_add : OpD (fun x y H Q => (∃ i j, x = .int i ∧ y = .int j ∧ Q (.int (i + j)) H) ∨ (∃ i j, x = .str i ∧ y = .str j ∧ i.length + j.length ≤ sizeLine ∧ Q (.str (i ++ j)) H)) dAdd := by
  intro d e z x y F H Q h rx ry k
  cases rx with
  | int i =>
    cases ry with
    | int j => cases h; exact .inl ⟨i, j, rfl, rfl, k _ (.int _)⟩
    | _ => cases h
  | str i =>
    cases ry with
    | str j =>
      have h : (if i.length + j.length ≤ sizeLine then some (D.str (i ++ j)) else none) = some z := h
      by_cases hc : i.length + j.length ≤ sizeLine
      · rw [if_pos hc] at h; cases h; exact .inr ⟨i, j, rfl, rfl, hc, k _ (.str _)⟩
      · rw [if_neg hc] at h; cases h
    | _ => cases h
  | _ => cases h
theorem od_i0 {g : Int → Int → V} {f : D → D → Option D} {r : Int → Int → D} (hr : ∀ i j F, Rep F (r i j) (g i j)) (hf : ∀ i j, f (.int i) (.int j) = some (r i j)) (hn : ∀ d e z, f d e = some z → ∃ i j, d = .int i ∧ e = .int j) : OpD (rI0 g) f := by
  intro d e z x y F H Q h rx ry k
  obtain ⟨i, j, rfl, rfl⟩ := hn d e z h
  rw [hf] at h
  cases h
  cases rx
  cases ry
  exact ⟨i, j, rfl, rfl, k _ (hr i j F)⟩
theorem od_i {C : Int → Int → Prop} {g : Int → Int → V} {f : D → D → Option D} {r : Int → Int → D} (hr : ∀ i j F, Rep F (r i j) (g i j)) (hn : ∀ d e z, f d e = some z → ∃ i j, d = .int i ∧ e = .int j ∧ C i j ∧ z = r i j) : OpD (rI C g) f := by
  intro d e z x y F H Q h rx ry k
  obtain ⟨i, j, rfl, rfl, c, rfl⟩ := hn d e z h
  cases rx
  cases ry
  exact ⟨i, j, rfl, rfl, c, k _ (hr i j F)⟩
theorem two_ints {f : D → D → Option D} (h0 : ∀ d e, (∀ i, d ≠ .int i) → f d e = none) (h1 : ∀ i e, (∀ j, e ≠ .int j) → f (.int i) e = none) : ∀ d e z, f d e = some z → ∃ i j, d = .int i ∧ e = .int j := by
  intro d e z h
  cases d with
  | int i =>
    cases e with
    | int j => exact ⟨i, j, rfl, rfl⟩
    | _ => rw [h1 _ _ (fun j q => by cases q)] at h; cases h
  | _ => rw [h0 _ _ (fun j q => by cases q)] at h; cases h
theorem if_some {α : Type} {c : Prop} [Decidable c] {a z : α} (h : (if c then some a else none) = some z) : c ∧ z = a := by
  by_cases hc : c
  · rw [if_pos hc] at h; cases h; exact ⟨hc, rfl⟩
  · rw [if_neg hc] at h; cases h
theorem od_sub : OpD (rI0 fun i j => .int (i - j)) dSub := od_i0 (fun _ _ _ => .int _) (fun _ _ => rfl) (by intro d e z h; cases d <;> cases e <;> first | exact ⟨_, _, rfl, rfl⟩ | cases h)
theorem od_lt : OpD (rI0 fun i j => .bl (decide (i < j))) dLt := od_i0 (r := fun i j => .bl (decide (i < j))) (fun _ _ _ => .bl _) (fun _ _ => rfl) (by intro d e z h; cases d <;> cases e <;> first | exact ⟨_, _, rfl, rfl⟩ | cases h)
theorem od_le : OpD (rI0 fun i j => .bl (decide (i ≤ j))) dLe := od_i0 (r := fun i j => .bl (decide (i ≤ j))) (fun _ _ _ => .bl _) (fun _ _ => rfl) (by intro d e z h; cases d <;> cases e <;> first | exact ⟨_, _, rfl, rfl⟩ | cases h)
theorem od_gt : OpD (rI0 fun i j => .bl (decide (j < i))) dGt := od_i0 (r := fun i j => .bl (decide (j < i))) (fun _ _ _ => .bl _) (fun _ _ => rfl) (by intro d e z h; cases d <;> cases e <;> first | exact ⟨_, _, rfl, rfl⟩ | cases h)
theorem od_ge : OpD (rI0 fun i j => .bl (decide (j ≤ i))) dGe := od_i0 (r := fun i j => .bl (decide (j ≤ i))) (fun _ _ _ => .bl _) (fun _ _ => rfl) (by intro d e z h; cases d <;> cases e <;> first | exact ⟨_, _, rfl, rfl⟩ | cases h)
theorem od_mul : OpD (fun x y H Q => rI CMul (fun i j => .int (i * j)) x y H Q ∨ rI CMulW (fun i j => .int (i * j)) x y H Q) dMul := by
  intro d e z x y F H Q h rx ry k
  obtain ⟨i, j, rfl, rfl⟩ : ∃ i j, d = .int i ∧ e = .int j := by cases d <;> cases e <;> first | exact ⟨_, _, rfl, rfl⟩ | cases h
  cases rx
  cases ry
  obtain ⟨hc, rfl⟩ := if_some (show (if mulOk i j = true then some (D.int (i * j)) else none) = some z from h)
  unfold mulOk at hc
  rcases Bool.or_eq_true_iff.mp hc with q | q
  · exact .inl ⟨i, j, rfl, rfl, .inl (of_decide_eq_true q), k _ (.int _)⟩
  · rcases Bool.or_eq_true_iff.mp q with q | q
    · exact .inl ⟨i, j, rfl, rfl, .inr (of_decide_eq_true q), k _ (.int _)⟩
    · exact .inr ⟨i, j, rfl, rfl, (show i.natAbs.log2 + j.natAbs.log2 < 1000000 from of_decide_eq_true q), k _ (.int _)⟩
theorem od_div : OpD (rI CDivW fun i j => .int (i / j)) dDiv := od_i (r := fun i j => .int (i / j)) (fun _ _ _ => .int _) (by
  intro d e z h
  obtain ⟨i, j, rfl, rfl⟩ : ∃ i j, d = .int i ∧ e = .int j := by cases d <;> cases e <;> first | exact ⟨_, _, rfl, rfl⟩ | cases h
  obtain ⟨hc, rfl⟩ := if_some (show (if 0 < j ∧ j.natAbs.log2 < 9000 then some (D.int (i / j)) else none) = some z from h)
  exact ⟨i, j, rfl, rfl, hc, rfl⟩)
theorem od_mod : OpD (rI (fun _ j => 0 < j) fun i j => .int (i % j)) dMod := od_i (r := fun i j => .int (i % j)) (fun _ _ _ => .int _) (by
  intro d e z h
  obtain ⟨i, j, rfl, rfl⟩ : ∃ i j, d = .int i ∧ e = .int j := by cases d <;> cases e <;> first | exact ⟨_, _, rfl, rfl⟩ | cases h
  obtain ⟨hc, rfl⟩ := if_some (show (if 0 < j then some (D.int (i % j)) else none) = some z from h)
  exact ⟨i, j, rfl, rfl, hc, rfl⟩)
theorem od_pow : OpD (rI CPow fun i j => .int (i ^ j.toNat)) dPow := od_i (r := fun i j => .int (i ^ j.toNat)) (fun _ _ _ => .int _) (by
  intro d e z h
  obtain ⟨i, j, rfl, rfl⟩ : ∃ i j, d = .int i ∧ e = .int j := by cases d <;> cases e <;> first | exact ⟨_, _, rfl, rfl⟩ | cases h
  obtain ⟨hc, rfl⟩ := if_some (show (if 0 ≤ j ∧ j ≤ 1000000 ∧ i.natAbs < 2 ^ 64 then some (D.int (i ^ j.toNat)) else none) = some z from h)
  exact ⟨i, j, rfl, rfl, hc, rfl⟩)
theorem od_shl : OpD (rI CPow fun i j => .int (i * 2 ^ j.toNat)) dShl := od_i (r := fun i j => .int (i * 2 ^ j.toNat)) (fun _ _ _ => .int _) (by
  intro d e z h
  obtain ⟨i, j, rfl, rfl⟩ : ∃ i j, d = .int i ∧ e = .int j := by cases d <;> cases e <;> first | exact ⟨_, _, rfl, rfl⟩ | cases h
  obtain ⟨hc, rfl⟩ := if_some (show (if 0 ≤ j ∧ j ≤ 1000000 ∧ i.natAbs < 2 ^ 64 then some (D.int (i * 2 ^ j.toNat)) else none) = some z from h)
  exact ⟨i, j, rfl, rfl, hc, rfl⟩)
theorem od_shr : OpD (rI (fun _ j => 0 ≤ j) fun i j => .int (i / 2 ^ j.toNat)) dShr := od_i (r := fun i j => .int (i / 2 ^ j.toNat)) (fun _ _ _ => .int _) (by
  intro d e z h
  obtain ⟨i, j, rfl, rfl⟩ : ∃ i j, d = .int i ∧ e = .int j := by cases d <;> cases e <;> first | exact ⟨_, _, rfl, rfl⟩ | cases h
  obtain ⟨hc, rfl⟩ := if_some (show (if 0 ≤ j then some (D.int (i / 2 ^ j.toNat)) else none) = some z from h)
  exact ⟨i, j, rfl, rfl, hc, rfl⟩)
variable {a b : Expr} {ma mb : M} {pos : Pos}
theorem me_add (ha : ME X G W Γ a .fr ma) (hb : ME X G W Γ b .fr mb) : ME X G W Γ (.BinOp a .Add b pos) .fr (mOp dAdd ma mb) := me_op (op_add.or op_add_str) od_add ha hb
theorem me_sub (ha : ME X G W Γ a .fr ma) (hb : ME X G W Γ b .fr mb) : ME X G W Γ (.BinOp a .Sub b pos) .fr (mOp dSub ma mb) := me_op op_sub od_sub ha hb
theorem me_mul (ha : ME X G W Γ a .fr ma) (hb : ME X G W Γ b .fr mb) : ME X G W Γ (.BinOp a .Mult b pos) .fr (mOp dMul ma mb) := me_op (op_mul.or op_mulW) od_mul ha hb
theorem me_div (ha : ME X G W Γ a .fr ma) (hb : ME X G W Γ b .fr mb) : ME X G W Γ (.BinOp a .FloorDiv b pos) .fr (mOp dDiv ma mb) := me_op op_fdivW od_div ha hb
theorem me_mod (ha : ME X G W Γ a .fr ma) (hb : ME X G W Γ b .fr mb) : ME X G W Γ (.BinOp a .Mod b pos) .fr (mOp dMod ma mb) := me_op op_mod od_mod ha hb
theorem me_pow (ha : ME X G W Γ a .fr ma) (hb : ME X G W Γ b .fr mb) : ME X G W Γ (.BinOp a .Pow b pos) .fr (mOp dPow ma mb) := me_op op_pow od_pow ha hb
theorem me_shl (ha : ME X G W Γ a .fr ma) (hb : ME X G W Γ b .fr mb) : ME X G W Γ (.BinOp a .LShift b pos) .fr (mOp dShl ma mb) := me_op op_shl od_shl ha hb
theorem me_shr (ha : ME X G W Γ a .fr ma) (hb : ME X G W Γ b .fr mb) : ME X G W Γ (.BinOp a .RShift b pos) .fr (mOp dShr ma mb) := me_op op_shr od_shr ha hb
theorem me_neg (ha : ME X G W Γ a .fr ma) : ME X G W Γ (.UnaryOp .USub a pos) .fr (mUn dNeg ma) := me_un un_neg (fun d z x F H Q h rx k => by
  cases rx with
  | int i => cases h; exact ⟨i, rfl, k _ (.int _)⟩
  | _ => cases h) ha
theorem me_lt (ha : ME X G W Γ a .fr ma) (hb : ME X G W Γ b .fr mb) : ME X G W Γ (.Compare a [.Lt] [b] pos) .fr (mOp dLt ma mb) := me_cmp op_lt od_lt ha hb (nomark _)
theorem me_le (ha : ME X G W Γ a .fr ma) (hb : ME X G W Γ b .fr mb) : ME X G W Γ (.Compare a [.LtE] [b] pos) .fr (mOp dLe ma mb) := me_cmp op_le od_le ha hb (nomark _)
theorem me_gt (ha : ME X G W Γ a .fr ma) (hb : ME X G W Γ b .fr mb) : ME X G W Γ (.Compare a [.Gt] [b] pos) .fr (mOp dGt ma mb) := me_cmp op_gt od_gt ha hb (nomark _)
theorem me_ge (ha : ME X G W Γ a .fr ma) (hb : ME X G W Γ b .fr mb) : ME X G W Γ (.Compare a [.GtE] [b] pos) .fr (mOp dGe ma mb) := me_cmp op_ge od_ge ha hb (nomark _)
theorem mt_lt (ha : ME X G W Γ a .fr ma) (hb : ME X G W Γ b .fr mb) : MT X G W Γ (.Compare a [.Lt] [b] pos) (mTst (mOp dLt ma mb)) := mt_cmp op_lt od_lt ha hb (nomark _)
theorem mt_le (ha : ME X G W Γ a .fr ma) (hb : ME X G W Γ b .fr mb) : MT X G W Γ (.Compare a [.LtE] [b] pos) (mTst (mOp dLe ma mb)) := mt_cmp op_le od_le ha hb (nomark _)
theorem mt_gt (ha : ME X G W Γ a .fr ma) (hb : ME X G W Γ b .fr mb) : MT X G W Γ (.Compare a [.Gt] [b] pos) (mTst (mOp dGt ma mb)) := mt_cmp op_gt od_gt ha hb (nomark _)
theorem mt_ge (ha : ME X G W Γ a .fr ma) (hb : ME X G W Γ b .fr mb) : MT X G W Γ (.Compare a [.GtE] [b] pos) (mTst (mOp dGe ma mb)) := mt_cmp op_ge od_ge ha hb (nomark _)
/-! ### a question about plain data -/
def dEq (d e : D) : Option Bool := if (D.flat 60 d && D.flat 60 e) = true then some (D.eq d e) else none
def mEq (ma mb : M) : M := fun s => (ma s).bind fun d s1 => (mb s1).bind fun e s2 => R.opt ((dEq d e).map D.bl) s2
def mNe (ma mb : M) : M := fun s => (ma s).bind fun d s1 => (mb s1).bind fun e s2 => R.opt ((dEq d e).map fun k => D.bl (!k)) s2
theorem two_eq {K : PySem.W.Frag} {σ : Sl} {H : Hp} {Q : VK} {ma mb : M} {g : Bool → Bool} (h : tM K G W Γ .fr (fun s => (ma s).bind fun d s1 => (mb s1).bind fun e s2 => R.opt ((dEq d e).map fun k => D.bl (g k)) s2) σ H Q) :
    tM K G W Γ .fr ma σ H fun x H1 => tM K G W Γ .fr mb σ H1 fun y H2 => ∃ d e, Dp K H2 x d ∧ Dp K H2 y e ∧ SeqAt.shaped d = true ∧ SeqAt.shaped e = true ∧ Q (.bl (g (PyData.eqv d e))) H2 := by
  obtain ⟨s, F, fp, R, q⟩ := h
  refine ⟨s, F, fp, R, pbind q fun d s1 x F1 fp1 H1 R1 st1 a1 q1 => ⟨s1, F1, fp1, R1, pbind q1 fun e s2 y F2 fp2 H2 R2 st2 a2 q2 => ?_⟩⟩
  obtain ⟨z, ez, q3⟩ := opt_post q2
  obtain ⟨k, ek, rfl⟩ := Option.map_eq_some_iff.mp ez
  unfold dEq at ek
  obtain ⟨hc, rfl⟩ := if_some ek
  rw [Bool.and_eq_true] at hc
  refine ⟨d.py, e.py, R2.dp hc.1 (a1.rep.mono st2.f), R2.dp hc.2 a2.rep, D.shaped hc.1, D.shaped hc.2, ?_⟩
  rw [D.eq_py]
  exact pok q3 R2 (AE.fr (.bl _))
theorem me_eq {k : Nat} (hr : Room k X.A) (ha : ME X G W Γ a .fr ma) (hb : ME X G W Γ b .fr mb) : ME X G W Γ (.Compare a [.Eq] [b] pos) .fr (mEq ma mb) :=
  peI (pe_cmpR (op_eqD hr.units) ha hb (nomark _)) fun σ H Q h => two_eq (g := fun k => k) h
theorem me_ne {k : Nat} (hr : Room k X.A) (ha : ME X G W Γ a .fr ma) (hb : ME X G W Γ b .fr mb) : ME X G W Γ (.Compare a [.NotEq] [b] pos) .fr (mNe ma mb) :=
  peI (pe_cmpR (op_neD hr.units) ha hb (nomark _)) fun σ H Q h => two_eq (g := fun k => !k) h
theorem mt_eq {k : Nat} (hr : Room k X.A) (ha : ME X G W Γ a .fr ma) (hb : ME X G W Γ b .fr mb) : MT X G W Γ (.Compare a [.Eq] [b] pos) (mTst (mEq ma mb)) :=
  ptI (pt_cmpR (op_eqD hr.units) ha hb (nomark _)) fun σ H Q h => two_eq (g := fun k => k) (tst h)
theorem mt_ne {k : Nat} (hr : Room k X.A) (ha : ME X G W Γ a .fr ma) (hb : ME X G W Γ b .fr mb) : MT X G W Γ (.Compare a [.NotEq] [b] pos) (mTst (mNe ma mb)) :=
  ptI (pt_cmpR (op_neD hr.units) ha hb (nomark _)) fun σ H Q h => two_eq (g := fun k => !k) (tst h)
/-- a is None -/
def D.isNon : D → Bool
  | .non => true
  | _ => false
theorem Rep.isNon {F : Hp} {d : D} {v : V} (r : Rep F d v) : decide (v = .non) = d.isNon := by cases r <;> rfl
def mIsN (g : Bool → Bool) (ma : M) : M := fun s => (ma s).bind fun d s1 => .ok (.bl (g d.isNon)) s1
theorem me_isN {j pos'} (ha : ME X G W Γ a .fr ma) : ME X G W Γ (.Compare a [.Is] [.Constant .none j pos'] pos) .fr (mIsN (fun k => k) ma) :=
  peI (pe_cmp (pc_isN ha)) fun σ H Q ⟨s, F, fp, R, q⟩ => ⟨s, F, fp, R, pbind q fun d s1 x F1 fp1 H1 R1 st1 a1 q1 => by
    rw [a1.rep.isNon]
    exact pok q1 R1 (AE.fr (.bl _))⟩
theorem me_notN {j pos'} (ha : ME X G W Γ a .fr ma) : ME X G W Γ (.Compare a [.IsNot] [.Constant .none j pos'] pos) .fr (mIsN (fun k => !k) ma) :=
  peI (pe_cmp (pc_notN ha)) fun σ H Q ⟨s, F, fp, R, q⟩ => ⟨s, F, fp, R, pbind q fun d s1 x F1 fp1 H1 R1 st1 a1 q1 => by
    rw [a1.rep.isNon]
    exact pok q1 R1 (AE.fr (.bl _))⟩
theorem mt_isN {j pos'} (ha : ME X G W Γ a .fr ma) : MT X G W Γ (.Compare a [.Is] [.Constant .none j pos'] pos) (mTst (mIsN (fun k => k) ma)) :=
  ptI (pt_cmp (pc_isN ha)) fun σ H Q ⟨s, F, fp, R, q⟩ => ⟨s, F, fp, R, pbind (r := ma s) (by unfold mTst mIsN at q; cases hm : ma s <;> rw [hm] at q <;> exact q) fun d s1 x F1 fp1 H1 R1 st1 (a1 : AE G .fr fp H d x F1 fp1 H1) (q1 : PostG X.K G W Γ σ F1 fp1 H1 AB Q (.ok d.isNon s1)) => by
    refine ⟨d.isNon, ?_, pok q1 R1 rfl⟩
    rw [a1.rep.isNon]⟩
theorem mt_notN {j pos'} (ha : ME X G W Γ a .fr ma) : MT X G W Γ (.Compare a [.IsNot] [.Constant .none j pos'] pos) (mTst (mIsN (fun k => !k) ma)) :=
  ptI (pt_cmp (pc_notN ha)) fun σ H Q ⟨s, F, fp, R, q⟩ => ⟨s, F, fp, R, pbind (r := ma s) (by unfold mTst mIsN at q; cases hm : ma s <;> rw [hm] at q <;> exact q) fun d s1 x F1 fp1 H1 R1 st1 (a1 : AE G .fr fp H d x F1 fp1 H1) (q1 : PostG X.K G W Γ σ F1 fp1 H1 AB Q (.ok (!d.isNon) s1)) => by
    refine ⟨!d.isNon, ?_, pok q1 R1 rfl⟩
    rw [a1.rep.isNon]⟩
end
end Bk

set_option Elab.async false
set_option linter.all false
set_option maxRecDepth 100000
set_option maxHeartbeats 4000000
namespace Bk
open PySem PySem.Spec PyProof.Rows L2
variable [Cls]

/-! ### states that go on -/
section
variable {n : Nat} {G : Gr n} {Γ : List Ty} {s : Env} {σ : Sl} {F H : Hp} {fp : Fp}
theorem Rel.newG (R : Rel G Γ s σ F fp H) {p : Addr} (hp : H p = none) : G.H p = none := Classical.byContradiction fun q => R.stp.there p q hp
theorem Rel.newFp (R : Rel G Γ s σ F fp H) {p : Addr} (hp : H p = none) : ∀ i, p ∉ fp i := fun i h => (R.oh i p h).ne hp
/-- a new thing is laid; nothing is fixed -/
theorem Rel.lay (R : Rel G Γ s σ F fp H) {p : Addr} {o : HO} (hp : H p = none) : Rel G Γ s σ F fp (upd H p o) ∧ Stp L0 F fp H F fp (upd H p o) := by
  have hne : ∀ {a u}, H a = some u → a ≠ p := fun {a u} e => ne_of_none e hp
  have x : Stp L0 F fp H F fp (upd H p o) := by
    refine ⟨Same.refl F, fun a u e _ _ => ?_, fun i a h => .inl ⟨i, h⟩, fun _ _ e _ => e, fun a h => ?_, fun a h => h.upd hp, fun t => t.lay hp⟩
    · rw [upd_ne (hne e)]; exact e
    · obtain ⟨u, eu⟩ := Option.ne_none_iff_exists'.mp h
      rw [upd_ne (hne eu)]; exact h
  refine ⟨R.step x (fun i a h u e => ?_) R.nF (fun a u e1 e2 => ?_), x⟩
  · rw [upd_ne (hne e)]; exact e
  · rw [e1] at e2; cases e2
/-- a thing of nobody is fixed -/
theorem Rel.free (R : Rel G Γ s σ F fp H) {p : Addr} {o : HO} (hF : F p = none) (hf : ∀ i, p ∉ fp i) (hG : G.H p = none) (hH : H p = some o) (ho : ∀ ps, o ≠ .tbl ps := by intro _ z; cases z) : Rel G Γ s σ (upd F p o) fp H := by
  have sm : Same F (upd F p o) := fun a u e => by rw [upd_ne (ne_of_none e hF)]; exact e
  refine ⟨R.ls, R.lσ, fun i t d ht hs => ?_, R.dis, fun i a h => ?_, R.oh, fun a u e => ?_, fun a ob e => ?_, ?_, R.par, R.loc, R.tb.fixF (R.tb.no hH ho)⟩
  · obtain ⟨v, h1, h2⟩ := R.slot i t d ht hs
    exact ⟨v, h1, h2.mono sm fun _ _ _ e => e⟩
  · have z : a ≠ p := fun z => by subst z; exact hf i h
    rw [upd_ne z]; exact R.nF i a h
  · by_cases z : a = p
    · subst z
      rw [upd_same] at e
      cases e
      unfold lk
      cases zL : G.L a with
      | none => exact hH
      | some ob =>
        obtain ⟨o', e', _⟩ := R.lkd a ob zL
        rw [hF] at e'
        cases e'
    · rw [upd_ne z] at e; exact R.ext a u e
  · obtain ⟨o', e1, e2⟩ := R.lkd a ob e
    exact ⟨o', sm a o' e1, e2⟩
  · refine ⟨R.stp.f.trans sm, R.stp.keep, R.stp.new, fun a h0 e n => ?_, R.stp.there, R.stp.nt, fun t => (R.stp.tab t).fixF (R.tb.no hH ho)⟩
    have z : a ≠ p := fun z => by subst z; exact h0.ne hG
    rw [upd_ne z]; exact R.stp.nof a h0 e n
theorem Stp.free {L : Lk} {F0 H0 : Hp} {fp0 : Fp} (x : Stp L F0 fp0 H0 F fp H) {p : Addr} {o : HO} (hF : F p = none) (h0 : (∃ i, p ∈ fp0 i) ∨ H0 p = none) (hT : ∀ q ∈ Cls.tabs, p ≠ q.1) : Stp L F0 fp0 H0 (upd F p o) fp H := by
  refine ⟨x.f.trans fun a u e => by rw [upd_ne (ne_of_none e hF)]; exact e, x.keep, x.new, fun a h e n => ?_, x.there, x.nt, fun t => (x.tab t).fixF hT⟩
  have z : a ≠ p := fun z => by
    subst z
    rcases h0 with ⟨i, hi⟩ | q
    · exact n i hi
    · exact h.ne q
  rw [upd_ne z]; exact x.nof a h e n
/-- a slot is forgotten -/
theorem Rel.drop (R : Rel G Γ s σ F fp H) (i : Nat) : Rel G Γ (s.set i none) σ F fp H := by
  refine ⟨by rw [List.length_set]; exact R.ls, R.lσ, fun j t d ht hs => ?_, R.dis, R.nF, R.oh, R.ext, R.lkd, R.stp, R.par, R.loc, R.tb⟩
  by_cases z : i = j
  · subst z
    by_cases hl : i < s.length
    · rw [List.getElem?_set_self hl] at hs; cases hs
    · rw [List.getElem?_eq_none (by rw [List.length_set]; omega)] at hs; cases hs
  · rw [List.getElem?_set_ne z] at hs
    exact R.slot j t d ht hs
/-- a slot's holdings are let go -/
def fpSet (fp : Fp) (i : Nat) (B : List Addr) : Fp := fun j => if j = i then B else fp j
theorem fpSet_same {fp : Fp} {i : Nat} {B : List Addr} : fpSet fp i B i = B := if_pos rfl
theorem fpSet_ne {fp : Fp} {i j : Nat} {B : List Addr} (h : j ≠ i) : fpSet fp i B j = fp j := if_neg h
theorem fpSet_mem {fp : Fp} {i j : Nat} {B : List Addr} {a : Addr} (h : a ∈ fpSet fp i B j) : (j = i ∧ a ∈ B) ∨ (j ≠ i ∧ a ∈ fp j) := by
  by_cases z : j = i
  · rw [z, fpSet_same] at h; exact .inl ⟨z, h⟩
  · rw [fpSet_ne z] at h; exact .inr ⟨z, h⟩
/-- what stands at slot i is told anew: d, of the slot's kind, at v, its holdings B -/
theorem Rel.put (R : Rel G Γ s σ F fp H) {i : Nat} {t : Ty} {d : D} {v : V} {B : List Addr} (ht : Γ[i]? = some t) (a : At F H t d v B) (hB : ∀ b ∈ B, F b = none ∧ (∀ j, j ≠ i → b ∉ fp j) ∧ (G.H b = none ∨ (i < n ∧ b ∈ G.fp i)))
    (hp : i < n → t = .fr ∨ σ[i]? = some (some v)) : Rel G Γ (s.set i (some d)) (σ.set i (some v)) F (fpSet fp i B) H := by
  have hi : i < Γ.length := (List.getElem?_eq_some_iff.mp ht).1
  refine ⟨by rw [List.length_set]; exact R.ls, by rw [List.length_set]; exact R.lσ, fun j t' d' ht' hs => ?_, fun j k b hj hk => ?_, fun j b hj => ?_, fun j b hj => ?_, R.ext, R.lkd, ?_, fun j hj hf => ?_, fun j b hj => ?_, R.tb⟩
  · by_cases z : i = j
    · subst z
      rw [List.getElem?_set_self (by rw [R.ls]; exact hi)] at hs
      rw [ht] at ht'
      cases ht'
      cases hs
      exact ⟨v, by rw [List.getElem?_set_self (by rw [R.lσ]; exact hi)], by rw [fpSet_same]; exact a⟩
    · rw [List.getElem?_set_ne z] at hs
      obtain ⟨v', h1, h2⟩ := R.slot j t' d' ht' hs
      exact ⟨v', by rw [List.getElem?_set_ne z]; exact h1, by rw [fpSet_ne (Ne.symm z)]; exact h2⟩
  · rcases fpSet_mem hj with ⟨z1, h1⟩ | ⟨z1, h1⟩
    · rcases fpSet_mem hk with ⟨z2, h2⟩ | ⟨z2, h2⟩
      · rw [z1, z2]
      · exact absurd h2 ((hB b h1).2.1 k z2)
    · rcases fpSet_mem hk with ⟨z2, h2⟩ | ⟨z2, h2⟩
      · exact absurd h1 ((hB b h2).2.1 j z1)
      · exact R.dis j k b h1 h2
  · rcases fpSet_mem hj with ⟨z1, h1⟩ | ⟨z1, h1⟩
    · exact (hB b h1).1
    · exact R.nF j b h1
  · rcases fpSet_mem hj with ⟨z1, h1⟩ | ⟨z1, h1⟩
    · exact a.there b h1
    · exact R.oh j b h1
  · refine ⟨R.stp.f, R.stp.keep, fun j b hj => ?_, R.stp.nof, R.stp.there, R.stp.nt, R.stp.tab⟩
    rcases fpSet_mem hj with ⟨z1, h1⟩ | ⟨z1, h1⟩
    · exact (hB b h1).2.2.elim .inr fun q => .inl ⟨i, q.2⟩
    · exact R.stp.new j b h1
  · by_cases z : i = j
    · subst z
      rcases hp hj with q | q
      · rw [q] at ht; exact absurd ht hf
      · rw [List.getElem?_set_self (by rw [R.lσ]; exact hi), ← q]
        exact R.par i hj hf
    · rw [List.getElem?_set_ne z]; exact R.par j hj hf
  · rcases fpSet_mem hj with ⟨z1, h1⟩ | ⟨z1, h1⟩
    · rw [z1]; exact (hB b h1).2.2
    · exact R.loc j b h1
theorem Stp.put {L : Lk} {F0 H0 : Hp} {fp0 : Fp} (x : Stp L F0 fp0 H0 F fp H) {i : Nat} {B : List Addr} (hB : ∀ b ∈ B, (∃ j, b ∈ fp0 j) ∨ H0 b = none) : Stp L F0 fp0 H0 F (fpSet fp i B) H := by
  refine ⟨x.f, x.keep, fun j b hj => ?_, x.nof, x.there, x.nt, x.tab⟩
  rcases fpSet_mem hj with ⟨z1, h1⟩ | ⟨z1, h1⟩
  · exact hB b h1
  · exact x.new j b h1
/-- a slot of fixed things -/
theorem Rel.putF (R : Rel G Γ s σ F fp H) {i : Nat} {d : D} {v : V} (ht : Γ[i]? = some .fr) (r : Rep F d v) : Rel G Γ (s.set i (some d)) (σ.set i (some v)) F (fpSet fp i []) H :=
  R.put ht ⟨r, rfl⟩ (fun _ h => by cases h) fun _ => .inl rfl
theorem Stp.putF {L : Lk} {F0 H0 : Hp} {fp0 : Fp} (x : Stp L F0 fp0 H0 F fp H) {i : Nat} : Stp L F0 fp0 H0 F (fpSet fp i []) H := x.put fun _ h => by cases h
/-- a thing of nobody, new since fp0 and H0, is changed -/
theorem Rel.tmp (R : Rel G Γ s σ F fp H) {p : Addr} {o u : HO} (hF : F p = none) (hf : ∀ i, p ∉ fp i) (hG : G.H p = none) (hH : H p = some u) (ho : tupO o = false := by rfl) (hu : tupO u = false := by rfl) : Rel G Γ s σ F fp (upd H p o) := by
  refine ⟨R.ls, R.lσ, fun i t d ht hs => ?_, R.dis, R.nF, fun i a h => ?_, fun a u e => ?_, R.lkd, ?_, R.par, R.loc, R.tb.own ⟨u, hH, hu⟩⟩
  · obtain ⟨v, h1, h2⟩ := R.slot i t d ht hs
    refine ⟨v, h1, h2.mono (Same.refl F) fun a ha o' e => ?_⟩
    rw [upd_ne (fun z => hf i (by rw [← z]; exact ha))]; exact e
  · exact (R.oh i a h).ner fun z => hf i (by rw [← z]; exact h)
  · rw [upd_ne (fun z => by rw [z, hF] at e; cases e)]; exact R.ext a u e
  · refine ⟨R.stp.f, fun a u' e hz h => ?_, R.stp.new, R.stp.nof, fun a h => ?_, fun a h => (R.stp.nt a h).upd' ho, fun t => (R.stp.tab t).own ⟨u, hH, hu⟩⟩
    · rw [upd_ne (fun z => by rw [z, hG] at e; cases e)]; exact R.stp.keep a u' e hz h
    · rw [upd_ne (fun z => h (by rw [z]; exact hG))]; exact R.stp.there a h
theorem Stp.tmp {L : Lk} {F0 H0 : Hp} {fp0 : Fp} (x : Stp L F0 fp0 H0 F fp H) {p : Addr} {o : HO} (h0 : H0 p = none) (hn : Nt H p) (ho : tupO o = false := by rfl) : Stp L F0 fp0 H0 F fp (upd H p o) := by
  refine ⟨x.f, fun a u' e hz h => ?_, x.new, x.nof, fun a h => ?_, fun a h => (x.nt a h).upd' ho, fun t => (x.tab t).own hn⟩
  · rw [upd_ne (fun z => by rw [z, h0] at e; cases e)]; exact x.keep a u' e hz h
  · rw [upd_ne (fun z => h (by rw [z]; exact h0))]; exact x.there a h
/-- what a temporary thing owns stays while other things go on -/
theorem AE.go {t : Ty} {d : D} {v : V} {F1 H1 H0 : Hp} {fp1 fp0 : Fp} (h : AE G t fp0 H0 d v F fp H) (x : Stp L0 F fp H F1 fp1 H1) (tb : TbOk F H) : AE G t fp0 H0 d v F1 fp1 H1 := by
  obtain ⟨B, a, q⟩ := h
  refine ⟨B, a.mono x.f fun b hb o e => x.keep b o e ((a.there b hb).ntab tb) (q b hb).2.1, fun b hb => ?_⟩
  obtain ⟨q1, q2, q3, q4⟩ := q b hb
  refine ⟨x.nof b (a.there b hb) q1 q2, fun i hi => ?_, q3, q4⟩
  rcases x.new i b hi with ⟨j, hj⟩ | z
  · exact q2 j hj
  · exact (a.there b hb).ne z
end

section
variable {X : Cx} {n : Nat} {G : Gr n} {W : WX} {Γ : List Ty}
/-! ### argument lists of fixed things -/
def mNil : MA := fun s => .ok [] s
def mCons (m : M) (ms : MA) : MA := fun s => (m s).bind fun d s1 => (ms s1).bind fun ds s2 => .ok (d :: ds) s2
def LenOk (ms : MA) (k : Nat) : Prop := ∀ s ds s', ms s = .ok ds s' → ds.length = k
theorem len_nil : LenOk mNil 0 := fun s ds s' h => by cases h; rfl
theorem len_cons {m : M} {ms : MA} {k : Nat} (h : LenOk ms k) : LenOk (mCons m ms) (k + 1) := fun s ds s' e => by
  unfold mCons at e
  cases e1 : m s with
  | ok d s1 =>
    rw [e1, R.bind_ok] at e
    cases e2 : ms s1 with
    | ok ds2 s2 =>
      rw [e2, R.bind_ok] at e
      cases e
      exact congrArg Nat.succ (h _ _ _ e2)
    | err _ _ => rw [e2] at e; cases e
    | stuck => rw [e2] at e; cases e
  | err _ _ => rw [e1] at e; cases e
  | stuck => rw [e1] at e; cases e
theorem ma_nil : MAs X G W Γ [] mNil := paI pa_nil fun σ H Q ⟨s, F, fp, R, q⟩ => pok q R .nil
theorem ma_cons {e : Expr} {es : List Expr} {m : M} {ms : MA} (h : ME X G W Γ e .fr m) (hs : MAs X G W Γ es ms) (he : starEach (e :: es) X.env = (false, eval e X.env) :: starEach es X.env := by rfl) : MAs X G W Γ (e :: es) (mCons m ms) :=
  paI (pa_cons h hs he) fun σ H Q ⟨s, F, fp, R, q⟩ => ⟨s, F, fp, R, pbind q fun d s1 x F1 fp1 H1 R1 st1 a1 q1 => ⟨s1, F1, fp1, R1, pbind q1 fun ds s2 xs F2 fp2 H2 R2 st2 a2 q2 => pok q2 R2 (.cons (a1.rep.mono st2.f) a2)⟩⟩
/-! ### tuples, lists -/
def mTup (ms : MA) : M := fun s => (ms s).bind fun ds s1 => .ok (.tup ds) s1
def mLst (ms : MA) : M := fun s => (ms s).bind fun ds s1 => .ok (.lst ds) s1
theorem pmapL {K : PySem.W.Frag} {σ : Sl} {H : Hp} {Q : List V → Hp → Prop} {ms : MA} {k : Nat} (hl : LenOk ms k) {s : Env} {F : Hp} {fp : Fp} {α β : Type} {A : α → β → Hp → Fp → Hp → Prop} {Qo : β → Hp → Prop} {g : List D → Env → R α} (R0 : Rel G Γ s σ F fp H)
    (q : PostG K G W Γ σ F fp H A Qo ((ms s).bind g)) (f : ∀ ds s1 vs F1 fp1 H1, ds.length = k → Rel G Γ s1 σ F1 fp1 H1 → Stp L0 F fp H F1 fp1 H1 → Reps F1 ds vs → PostG K G W Γ σ F1 fp1 H1 A Qo (g ds s1) → Q vs H1) :
    PostG K G W Γ σ F fp H AA Q (ms s) := by
  cases e : ms s with
  | ok ds s1 =>
    rw [e] at q
    exact fun vs F1 fp1 H1 R1 x z => f ds s1 vs F1 fp1 H1 (hl _ _ _ e) R1 x z (PostG.shift x q)
  | err er s1 => rw [e] at q; exact q
  | stuck => rw [e] at q; exact q
theorem small_line {k : Nat} (h : k ≤ 1000) : k ≤ sizeLine := Nat.le_of_lt (small1000 h)
theorem me_tup {es : List Expr} {ms : MA} {k : Nat} {x1 : Nat} {pos : Pos} (h : MAs X G W Γ es ms) (hl : LenOk ms k) (hk : k ≤ 1000) : ME X G W Γ (.Tuple es x1 pos) .fr (mTup ms) :=
  peI (pe_tup h) fun σ H Q ⟨s, F, fp, R, q⟩ => ⟨s, F, fp, R, pmapL hl R q fun ds s1 vs F1 fp1 H1 el R1 st1 a1 q1 => by
    refine ⟨by rw [← a1.len, el]; exact small_line hk, fun p hp => ?_⟩
    obtain ⟨R2, st2⟩ := R1.fix (o := .tup vs) hp
    exact q1 _ _ _ _ R2 st2 (AE.fr (.tup upd_same (a1.mono st2.f)))⟩
theorem me_lst {es : List Expr} {ms : MA} {k : Nat} {pos : Pos} (h : MAs X G W Γ es ms) (hl : LenOk ms k) (hk : k ≤ 1000) : ME X G W Γ (.List es pos) .ol (mLst ms) :=
  peI (pe_lst h) fun σ H Q ⟨s, F, fp, R, q⟩ => ⟨s, F, fp, R, pmapL hl R q fun ds s1 vs F1 fp1 H1 el R1 st1 a1 q1 => by
    refine ⟨by rw [← a1.len, el]; exact small_line hk, fun p hp => ?_⟩
    obtain ⟨R2, st2⟩ := R1.lay (o := .lst vs) hp
    refine q1 _ _ _ _ R2 st2 ⟨[p], ⟨p, ds, vs, rfl, rfl, upd_same, a1, rfl⟩, fun b hb => ?_⟩
    rw [List.mem_singleton.mp hb]
    exact ⟨R1.nowF hp, R1.newFp hp, R1.newG hp, .inr (Classical.byContradiction fun z => st1.there p z hp)⟩⟩
/-- an own list is fixed for good -/
theorem me_fix {e : Expr} {m : M} (h : ME X G W Γ e .ol m) : ME X G W Γ e .fr m :=
  peI h fun σ H Q ⟨s, F, fp, R, q⟩ => ⟨s, F, fp, R, by
    cases em : m s with
    | ok d s1 =>
      rw [em] at q
      rintro v F1 fp1 H1 R1 st1 ⟨B, ⟨p, ds, vs, rfl, rfl, e3, r, rfl⟩, tq⟩
      obtain ⟨t1, t2, t3, t4⟩ := tq p (List.mem_singleton.mpr rfl)
      exact q _ _ _ _ (R1.free t1 t2 t3 e3) (st1.free t1 t4 (R1.tb.no e3)) (AE.fr (.lst upd_same (r.mono fun a u e => by rw [upd_ne (ne_of_none e t1)]; exact e)))
    | err er s1 => rw [em] at q; exact q
    | stuck => rw [em] at q; exact q⟩
/-- an own name is given away -/
def mMov (i : Nat) : M := fun s => match s[i]? with
  | some (some d) => .ok d (s.set i none)
  | _ => .stuck
theorem me_mov {e : Expr} {i : Nat} {t : Ty} (h : PE X e (tVar i)) (ht : Γ[i]? = some t) (hn : n ≤ i) : ME X G W Γ e t (mMov i) := peI h fun σ H Q ⟨s, F, fp, R, q⟩ => by
  unfold mMov at q
  split at q
  · rename_i d e
    obtain ⟨v, hv, a⟩ := R.slot i _ _ ht e
    refine ⟨v, hv, q v F (fpSet fp i []) H ?_ ?_ ⟨fp i, a, fun b hb => ⟨R.nF i b hb, fun j hj => ?_, (R.loc i b hb).elim id fun z => absurd z.1 (Nat.not_lt.mpr hn), .inl ⟨i, hb⟩⟩⟩⟩
    · have R' := R.drop i
      refine ⟨R'.ls, R'.lσ, fun j t d hj hs => ?_, fun j k b hj hk => ?_, fun j b hj => ?_, fun j b hj => ?_, R'.ext, R'.lkd, ?_, R'.par, fun j b hj => ?_, R'.tb⟩
      · obtain ⟨v', h1, h2⟩ := R'.slot j t d hj hs
        have z : j ≠ i := fun z => by
          subst z
          by_cases hl : j < s.length
          · rw [List.getElem?_set_self hl] at hs; cases hs
          · rw [List.getElem?_eq_none (by rw [List.length_set]; omega)] at hs; cases hs
        exact ⟨v', h1, by rw [fpSet_ne z]; exact h2⟩
      · rcases fpSet_mem hj with ⟨_, z⟩ | ⟨z1, h1⟩
        · cases z
        · rcases fpSet_mem hk with ⟨_, z⟩ | ⟨z2, h2⟩
          · cases z
          · exact R.dis j k b h1 h2
      · rcases fpSet_mem hj with ⟨_, z⟩ | ⟨z1, h1⟩
        · cases z
        · exact R.nF j b h1
      · rcases fpSet_mem hj with ⟨_, z⟩ | ⟨z1, h1⟩
        · cases z
        · exact R.oh j b h1
      · exact R.stp.put fun _ z => by cases z
      · rcases fpSet_mem hj with ⟨_, z⟩ | ⟨z1, h1⟩
        · cases z
        · exact R.loc j b h1
    · exact (Stp.refl F fp H).put fun _ z => by cases z
    · rcases fpSet_mem hj with ⟨_, z⟩ | ⟨z1, h1⟩
      · cases z
      · exact z1 (R.dis j i b h1 hb)
  · exact q.elim
/-! ### items, lengths, built-in functions -/
def dIx : D → D → Option D
  | .tup ds, .int i => atI ds i
  | .lst ds, .int i => atI ds i
  | _, _ => none
theorem Reps.atI {F : Hp} {ds : List D} {vs : List V} {i : Int} {d : D} (r : Reps F ds vs) (h : L2.atI ds i = some d) : ∃ v, L2.atI vs i = some v ∧ Rep F d v := by
  unfold L2.atI at h ⊢
  rw [r.len] at h
  cases e : ixN vs.length i with
  | none => rw [e] at h; cases h
  | some j =>
    rw [e] at h
    exact r.get h
theorem me_ix {a b : Expr} {ma mb : M} {pos : Pos} (ha : ME X G W Γ a .fr ma) (hb : ME X G W Γ b .fr mb) (hs : PlainIx b) : ME X G W Γ (.Subscript a b pos) .fr (mOp dIx ma mb) :=
  peI (pe_ix ix_seq ha hb hs) fun σ H Q h => two' (fun d e z x y s F fp H Q R hz rx ry k => by
    cases ry with
    | int i =>
      cases rx with
      | tup e r =>
        obtain ⟨v, h1, h2⟩ := r.atI hz
        exact .inr (.inl ⟨_, _, _, v, rfl, rfl, R.sqT e, h1, k v h2⟩)
      | lst e r =>
        obtain ⟨v, h1, h2⟩ := r.atI hz
        exact .inl ⟨_, _, _, v, rfl, rfl, R.sqL e, h1, k v h2⟩
      | _ => cases hz
    | _ => cases rx <;> cases hz) h
def mCall (f : List D → Option D) (ms : MA) : M := fun s => (ms s).bind fun ds s1 => R.opt (f ds) s1
/-- what a built-in function's rule asks is given by a function on data -/
theorem cb {K : PySem.W.Frag} {σ : Sl} {H : Hp} {Q : VK} {r : List V → Hp → VK → Prop} {f : List D → Option D} (hf : ∀ ds z vs s F fp H (Q : VK), Rel G Γ s σ F fp H → f ds = some z → Reps F ds vs → (∀ w, Rep F z w → Q w H) → r vs H Q) {ms : MA}
    (h : tM K G W Γ .fr (mCall f ms) σ H Q) : tCB r (tMA K G W Γ ms) σ H Q := by
  obtain ⟨s, F, fp, R, q⟩ := h
  refine ⟨s, F, fp, R, pbind q fun ds s1 vs F1 fp1 H1 R1 st1 a1 q1 => ?_⟩
  obtain ⟨z, ez, q3⟩ := opt_post q1
  exact hf ds z vs s1 F1 fp1 H1 Q R1 ez a1 fun w rw => pok q3 R1 (AE.fr rw)
/-- .. of which a new list comes -/
theorem cbL {K : PySem.W.Frag} {σ : Sl} {H : Hp} {Q : VK} {r : List V → Hp → VK → Prop} {f : List D → Option (List D)} (hf : ∀ ds zs vs s F fp H (Q : VK), Rel G Γ s σ F fp H → f ds = some zs → Reps F ds vs → (∀ p ws, H p = none → Reps F zs ws → Q (.ref p) (upd H p (.lst ws))) → r vs H Q) {ms : MA}
    (h : tM K G W Γ .ol (mCall (fun ds => (f ds).map D.lst) ms) σ H Q) : tCB r (tMA K G W Γ ms) σ H Q := by
  obtain ⟨s, F, fp, R, q⟩ := h
  refine ⟨s, F, fp, R, pbind q fun ds s1 vs F1 fp1 H1 R1 st1 a1 q1 => ?_⟩
  obtain ⟨z, ez, q3⟩ := opt_post q1
  obtain ⟨zs, ez2, rfl⟩ := Option.map_eq_some_iff.mp ez
  refine hf ds zs vs s1 F1 fp1 H1 Q R1 ez2 a1 fun p ws hp rw => ?_
  obtain ⟨R2, st2⟩ := R1.lay (o := .lst ws) hp
  refine q3 _ _ _ _ R2 st2 ⟨[p], ⟨p, zs, ws, rfl, rfl, upd_same, rw, rfl⟩, fun b hb => ?_⟩
  rw [List.mem_singleton.mp hb]
  exact ⟨R1.nowF hp, R1.newFp hp, R1.newG hp, .inr (Classical.byContradiction fun z => st1.there p z hp)⟩
def bLen : List D → Option D
  | [.tup ds] => some (.int ds.length)
  | [.lst ds] => some (.int ds.length)
  | [.str x] => if x.length ≤ sizeLine then some (.int x.length) else none
  | _ => none
def bAbs : List D → Option D
  | [.int i] => some (.int (if i < 0 then -i else i))
  | _ => none
theorem Reps.one {F : Hp} {d : D} {vs : List V} (h : Reps F [d] vs) : ∃ v, vs = [v] ∧ Rep F d v := by
  cases h with
  | cons r t => cases t; exact ⟨_, rfl, r⟩
theorem Reps.two {F : Hp} {d e : D} {vs : List V} (h : Reps F [d, e] vs) : ∃ v w, vs = [v, w] ∧ Rep F d v ∧ Rep F e w := by
  cases h with
  | cons r t =>
    obtain ⟨w, rfl, q⟩ := t.one
    exact ⟨_, w, rfl, r, q⟩
theorem cb_len {K : PySem.W.Frag} {σ : Sl} {H : Hp} {Q : VK} {ms : MA} (h : tM K G W Γ .fr (mCall bLen ms) σ H Q) : tCB (fun xs H Q => ∃ x k, xs = [x] ∧ LenV K x H k ∧ Q (.int k) H) (tMA K G W Γ ms) σ H Q := cb (fun ds z vs s F fp H Q R hz rs k => by
  match ds, hz with
  | [.tup es], hz =>
    cases hz
    obtain ⟨v, rfl, r⟩ := rs.one
    cases r with
    | tup e t => exact ⟨_, _, rfl, .inr ⟨_, R.sqT e, t.len⟩, k _ (.int _)⟩
  | [.lst es], hz =>
    cases hz
    obtain ⟨v, rfl, r⟩ := rs.one
    cases r with
    | lst e t => exact ⟨_, _, rfl, .inl ⟨_, R.sqL e, t.len⟩, k _ (.int _)⟩
  | [.str x], hz =>
    obtain ⟨hc, rfl⟩ := if_some hz
    obtain ⟨v, rfl, r⟩ := rs.one
    cases r
    exact ⟨_, _, rfl, ⟨hc, rfl⟩, k _ (.int _)⟩) h
theorem cb_abs {K : PySem.W.Frag} {σ : Sl} {H : Hp} {Q : VK} {ms : MA} (h : tM K G W Γ .fr (mCall bAbs ms) σ H Q) : tCB (fun xs H Q => ∃ i, xs = [.int i] ∧ Q (.int (if i < 0 then -i else i)) H) (tMA K G W Γ ms) σ H Q := cb (fun ds z vs s F fp H Q R hz rs k => by
  match ds, hz with
  | [.int i], hz =>
    cases hz
    obtain ⟨v, rfl, r⟩ := rs.one
    cases r
    exact ⟨i, rfl, k _ (.int _)⟩) h
theorem me_len {e : Expr} {ms : MA} (h : PE X e (tCB (fun xs H Q => ∃ x k, xs = [x] ∧ LenV X.K x H k ∧ Q (.int k) H) (tMA X.K G W Γ ms))) : ME X G W Γ e .fr (mCall bLen ms) := peI h fun _ _ _ => cb_len
theorem me_abs {e : Expr} {ms : MA} (h : PE X e (tCB (fun xs H Q => ∃ i, xs = [.int i] ∧ Q (.int (if i < 0 then -i else i)) H) (tMA X.K G W Γ ms))) : ME X G W Γ e .fr (mCall bAbs ms) := peI h fun _ _ _ => cb_abs
/-! ### isinstance of a built-in class -/
inductive Tn where
  | int | bool | str | tuple | list | dict
def Tn.name : Tn → String
  | .int => "int" | .bool => "bool" | .str => "str" | .tuple => "tuple" | .list => "list" | .dict => "dict"
def D.ty : D → String
  | .non => "NoneType" | .bl _ => "bool" | .int _ => "int" | .str _ => "str" | .tup _ => "tuple" | .lst _ => "list" | .dct _ _ => "dict" | .obj _ _ _ => "object"
def isT : Tn → D → Bool
  | .int, .int _ => true
  | .int, .bl _ => true
  | .bool, .bl _ => true
  | .str, .str _ => true
  | .tuple, .tup _ => true
  | .list, .lst _ => true
  | .dict, .dct _ _ => true
  | _, _ => false
theorem kit_is (t : Tn) (d : D) : kitB d.ty t.name = some (isT t d) := by
  cases t <;> cases d <;> (dsimp only [D.ty, Tn.name, isT]; decide +kernel)
def D.isDct : D → Bool
  | .dct _ _ => true
  | .obj _ _ _ => true
  | _ => false
theorem Rel.tyX {s : Env} {σ : Sl} {F H : Hp} {fp : Fp} {K : PySem.W.Frag} (R : Rel G Γ s σ F fp H) {d : D} {v : V} (h : d.isDct = false) (r : Rep F d v) : TyX K H v (.type d.ty) := by
  cases r with
  | non => exact .base .non
  | bl b => exact .base (.bl b)
  | int i => exact .base (.int i)
  | str x => exact .base (.str x)
  | tup e _ => exact .base (.tup (R.at e rfl))
  | lst e _ => exact .base (.lst (R.at e rfl))
  | dct e _ _ => cases h
  | obj e _ _ => cases h
  | emp _ => cases h
def mIsi (t : Tn) (m : M) : M := fun s => (m s).bind fun d s1 => if d.isDct = true then .stuck else .ok (.bl (isT t d)) s1
theorem me_isi {e : Expr} {t : Tn} {m : M} (h : PE X e (tCB (rIsi X.K) (tCons (tM X.K G W Γ .fr m) (tCons (tC (.ty t.name)) tNil)))) : ME X G W Γ e .fr (mIsi t m) := peI h fun σ H Q ⟨s, F, fp, R, q⟩ => ⟨s, F, fp, R, pbind q fun d s1 x F1 fp1 H1 R1 st1 a1 q1 => by
    by_cases hd : d.isDct = true
    · rw [if_pos hd] at q1; exact q1.elim
    · rw [if_neg hd] at q1
      exact ⟨x, .ty t.name, .type d.ty, .type t.name, isT t d, rfl, .ty _, R1.tyX (by simpa using hd) a1.rep, kit_ty (kit_is t d), pok q1 R1 (AE.fr (.bl _))⟩⟩

/-! ### statements -/
end
inductive SO where
  | nx (s : Env) | rt (d : D) (s : Env) | bk (s : Env) | ct (s : Env) | err (e : Err) (s : Env) | stuck
abbrev MS := Env → SO
def SO.bind (o : SO) (k : Env → SO) : SO := match o with
  | .nx s => k s
  | .rt d s => .rt d s
  | .bk s => .bk s
  | .ct s => .ct s
  | .err e s => .err e s
  | .stuck => .stuck
@[simp] theorem SO.bind_nx (s : Env) (k : Env → SO) : (SO.nx s).bind k = k s := rfl
@[simp] theorem SO.bind_rt (d : D) (s : Env) (k : Env → SO) : (SO.rt d s).bind k = .rt d s := rfl
@[simp] theorem SO.bind_bk (s : Env) (k : Env → SO) : (SO.bk s).bind k = .bk s := rfl
@[simp] theorem SO.bind_ct (s : Env) (k : Env → SO) : (SO.ct s).bind k = .ct s := rfl
@[simp] theorem SO.bind_err (e : Err) (s : Env) (k : Env → SO) : (SO.err e s).bind k = .err e s := rfl
@[simp] theorem SO.bind_stuck (k : Env → SO) : SO.stuck.bind k = .stuck := rfl
def R.so {α : Type} (r : R α) (k : α → Env → SO) : SO := match r with
  | .ok a s => k a s
  | .err e s => .err e s
  | .stuck => .stuck
@[simp] theorem R.so_ok {α : Type} (a : α) (s : Env) (k : α → Env → SO) : (R.ok a s).so k = k a s := rfl
@[simp] theorem R.so_err {α : Type} (e : Err) (s : Env) (k : α → Env → SO) : (R.err e s : R α).so k = .err e s := rfl
@[simp] theorem R.so_stuck {α : Type} (k : α → Env → SO) : (R.stuck : R α).so k = .stuck := rfl
/-- what is wanted behind a statement that began with σ, F, fp, H -/
def PostS (K : PySem.W.Frag) {n : Nat} (G : Gr n) (W : WX) (Γ : List Ty) (rt : Ty) (F : Hp) (fp : Fp) (H : Hp) (Dn : Ends) : SO → Prop
  | .nx s' => ∀ σ' F' fp' H', Rel G Γ s' σ' F' fp' H' → Stp L0 F fp H F' fp' H' → Dn.nx σ' H'
  | .bk s' => ∀ σ' F' fp' H', Rel G Γ s' σ' F' fp' H' → Stp L0 F fp H F' fp' H' → Dn.bk σ' H'
  | .ct s' => ∀ σ' F' fp' H', Rel G Γ s' σ' F' fp' H' → Stp L0 F fp H F' fp' H' → Dn.ct σ' H'
  | .rt d s' => ∀ v σ' F' fp' H', Rel G Γ s' σ' F' fp' H' → Stp L0 F fp H F' fp' H' → AE G rt fp H d v F' fp' H' → Dn.rt v H'
  | .err e s' => ∀ cls od σ' F' fp' H', Rel G Γ s' σ' F' fp' H' → Stp L0 F fp H F' fp' H' → ErrAt K F' e cls od → W cls od σ' H'
  | .stuck => False
def tS (K : PySem.W.Frag) {n : Nat} (G : Gr n) (W : WX) (Γ : List Ty) (rt : Ty) (m : MS) : TS := fun Dn σ H => ∃ s F fp, Rel G Γ s σ F fp H ∧ PostS K G W Γ rt F fp H Dn (m s)
abbrev MSt (X : Cx) {n : Nat} (G : Gr n) (W : WX) (Γ : List Ty) (rt : Ty) (st : Stmt) (m : MS) : Prop := PS X st (tS X.K G W Γ rt m)
abbrev MSs (X : Cx) {n : Nat} (G : Gr n) (W : WX) (Γ : List Ty) (rt : Ty) (st : List Stmt) (m : MS) : Prop := PSs X st (tS X.K G W Γ rt m)
section
variable {X : Cx} {n : Nat} {G : Gr n} {W : WX} {Γ : List Ty} {rt : Ty}
theorem PostS.shift {K : PySem.W.Frag} {F F1 H H1 : Hp} {fp fp1 : Fp} {Dn : Ends} (x : Stp L0 F fp H F1 fp1 H1) : ∀ {o : SO}, PostS K G W Γ rt F fp H Dn o → PostS K G W Γ rt F1 fp1 H1 Dn o
  | .nx _, h => fun σ' F' fp' H' R y => h σ' F' fp' H' R (x.trans y)
  | .bk _, h => fun σ' F' fp' H' R y => h σ' F' fp' H' R (x.trans y)
  | .ct _, h => fun σ' F' fp' H' R y => h σ' F' fp' H' R (x.trans y)
  | .rt _ _, h => fun v σ' F' fp' H' R y a => h v σ' F' fp' H' R (x.trans y) (a.back x)
  | .err _ _, h => fun cls od σ' F' fp' H' R y z => h cls od σ' F' fp' H' R (x.trans y) z
  | .stuck, h => h
/-- an expression ahead of the rest of a statement -/
theorem sbind {α β : Type} {K : PySem.W.Frag} {σ : Sl} {F H : Hp} {fp : Fp} {Dn : Ends} {A : α → β → Hp → Fp → Hp → Prop} {Q : β → Hp → Prop} {k : α → Env → SO} :
    ∀ {r : R α}, PostS K G W Γ rt F fp H Dn (r.so k) → (∀ a s1 b F1 fp1 H1, Rel G Γ s1 σ F1 fp1 H1 → Stp L0 F fp H F1 fp1 H1 → A a b F1 fp1 H1 → PostS K G W Γ rt F1 fp1 H1 Dn (k a s1) → Q b H1) → PostG K G W Γ σ F fp H A Q r
  | .ok a s1, h, f => fun b F1 fp1 H1 R1 x z => f a s1 b F1 fp1 H1 R1 x z (PostS.shift x h)
  | .err _ _, h, _ => fun cls od F' fp' H' R y z => h cls od σ F' fp' H' R y z
  | .stuck, h, _ => h
/-- a statement ahead of the rest -/
theorem scont {K : PySem.W.Frag} {F H : Hp} {fp : Fp} {Dn : Ends} {N : L2.St → Hp → Prop} {k : Env → SO} :
    ∀ {o : SO}, PostS K G W Γ rt F fp H Dn (o.bind k) → (∀ s1 σ1 F1 fp1 H1, Rel G Γ s1 σ1 F1 fp1 H1 → Stp L0 F fp H F1 fp1 H1 → PostS K G W Γ rt F1 fp1 H1 Dn (k s1) → N σ1 H1) → PostS K G W Γ rt F fp H { Dn with nx := N } o
  | .nx s1, h, f => fun σ1 F1 fp1 H1 R1 x => f s1 σ1 F1 fp1 H1 R1 x (PostS.shift x h)
  | .bk _, h, _ => h
  | .ct _, h, _ => h
  | .rt _ _, h, _ => h
  | .err _ _, h, _ => h
  | .stuck, h, _ => h
def sNil : MS := fun s => .nx s
def sSeq (a b : MS) : MS := fun s => (a s).bind b
theorem snil {K : PySem.W.Frag} {σ : Sl} {F H : Hp} {fp : Fp} {Dn : Ends} {s : Env} (R : Rel G Γ s σ F fp H) (q : PostS K G W Γ rt F fp H Dn (.nx s)) : Dn.nx σ H := q σ F fp H R (Stp.refl F fp H)
theorem ms_nil : MSs X G W Γ rt [] sNil := pssI pss_nil fun Dn σ H ⟨s, F, fp, R, q⟩ => snil R q
theorem ms_cons {st : Stmt} {r : List Stmt} {a b : MS} (h : MSt X G W Γ rt st a) (hr : MSs X G W Γ rt r b) : MSs X G W Γ rt (st :: r) (sSeq a b) :=
  pssI (pss_cons h hr) fun Dn σ H ⟨s, F, fp, R, q⟩ => ⟨s, F, fp, R, scont q fun s1 σ1 F1 fp1 H1 R1 x q1 => ⟨s1, F1, fp1, R1, q1⟩⟩
theorem ms_one {st : Stmt} {a : MS} (h : MSt X G W Γ rt st a) : MSs X G W Γ rt [st] a := pss_one h
def sSet (i : Nat) (m : M) : MS := fun s => (m s).so fun d s1 => .nx (s1.set i (some d))
theorem ms_set {st : Stmt} {i : Nat} {m : M} (h : PS X st (tAsg (tM X.K G W Γ .fr m) (gName i))) (ht : Γ[i]? = some .fr) : MSt X G W Γ rt st (sSet i m) :=
  psI h fun Dn σ H ⟨s, F, fp, R, q⟩ => ⟨s, F, fp, R, sbind q fun d s1 v F1 fp1 H1 R1 x a q1 => q1 _ _ _ _ (R1.putF ht a.rep) (Stp.putF (Stp.refl F1 fp1 H1))⟩
/-- a new own thing comes to a name -/
theorem ms_setO {st : Stmt} {i : Nat} {t : Ty} {m : M} (h : PS X st (tAsg (tM X.K G W Γ t m) (gName i))) (ht : Γ[i]? = some t) (hn : n ≤ i) : MSt X G W Γ rt st (sSet i m) :=
  psI h fun Dn σ H ⟨s, F, fp, R, q⟩ => ⟨s, F, fp, R, by
    cases e : m s with
    | ok d s1 =>
      have q : PostS X.K G W Γ rt F fp H Dn (.nx (s1.set i (some d))) := by
        have q' := q
        unfold sSet at q'
        rw [e] at q'
        exact q'
      rintro v F1 fp1 H1 R1 x ⟨B, a, tq⟩
      refine q _ F1 (fpSet fp1 i B) H1 (R1.put ht a (fun b hb => ?_) fun z => absurd z (Nat.not_lt.mpr hn)) (x.put fun b hb => (tq b hb).2.2.2)
      obtain ⟨q1, q2, q3, q4⟩ := tq b hb
      exact ⟨q1, fun j _ => q2 j, .inl q3⟩
    | err er s1 => unfold sSet at q; rw [e] at q; exact fun cls od F' fp' H' R y z => q cls od σ F' fp' H' R y z
    | stuck => unfold sSet at q; rw [e] at q; exact q⟩
def sRet (m : M) : MS := fun s => (m s).so fun d s1 => .rt d s1
theorem ms_ret {e : Expr} {m : M} {pos : Pos} (h : ME X G W Γ e rt m) : MSt X G W Γ rt (.Return (some e) pos) (sRet m) :=
  psI (ps_ret h) fun Dn σ H ⟨s, F, fp, R, q⟩ => ⟨s, F, fp, R, by
    unfold sRet at q
    cases em : m s with
    | ok d s1 => rw [em] at q; exact fun v F1 fp1 H1 R1 x a => q v σ F1 fp1 H1 R1 x a
    | err er s1 => rw [em] at q; exact fun cls od F' fp' H' R y z => q cls od σ F' fp' H' R y z
    | stuck => rw [em] at q; exact q⟩
def sRetN : MS := fun s => .rt .non s
theorem ms_retN {pos : Pos} : MSt X G W Γ .fr (.Return none pos) sRetN :=
  psI ps_retN fun Dn σ H ⟨s, F, fp, R, q⟩ => q .non σ F fp H R (Stp.refl F fp H) (AE.fr .non)
def sExp (m : M) : MS := fun s => (m s).so fun _ s1 => .nx s1
theorem ms_exp {st : Stmt} {t : Ty} {m : M} (h : PS X st (tDrop (tM X.K G W Γ t m))) : MSt X G W Γ rt st (sExp m) :=
  psI h fun Dn σ H ⟨s, F, fp, R, q⟩ => ⟨s, F, fp, R, sbind q fun d s1 v F1 fp1 H1 R1 x a q1 => snil R1 q1⟩
def sIf (c : MB) (a b : MS) : MS := fun s => (c s).so fun k s1 => if k = true then a s1 else b s1
theorem ms_if {c : Expr} {a b : List Stmt} {mc : MB} {ma mb : MS} {pos : Pos} (hc : MT X G W Γ c mc) (ha : MSs X G W Γ rt a ma) (hb : MSs X G W Γ rt b mb) : MSt X G W Γ rt (.If c a b pos) (sIf mc ma mb) :=
  psI (ps_if hc ha hb) fun Dn σ H ⟨s, F, fp, R, q⟩ => ⟨s, F, fp, R, sbind q fun k s1 k' F1 fp1 H1 R1 x a q1 => by
    cases a
    cases k with
    | true => exact ⟨s1, F1, fp1, R1, q1⟩
    | false => exact ⟨s1, F1, fp1, R1, q1⟩⟩
theorem ms_pass {pos : Pos} : MSt X G W Γ rt (.Pass pos) sNil := psI ps_pass fun Dn σ H ⟨s, F, fp, R, q⟩ => snil R q
def sBrk : MS := fun s => .bk s
def sCnt : MS := fun s => .ct s
theorem ms_break {pos : Pos} : MSt X G W Γ rt (.Break pos) sBrk := psI ps_break fun Dn σ H ⟨s, F, fp, R, q⟩ => q σ F fp H R (Stp.refl F fp H)
theorem ms_continue {pos : Pos} : MSt X G W Γ rt (.Continue pos) sCnt := psI ps_continue fun Dn σ H ⟨s, F, fp, R, q⟩ => q σ F fp H R (Stp.refl F fp H)
/-! ### targets -/
abbrev MG := D → Env → Option Env
abbrev MGs := List D → Env → Option Env
def tG {n : Nat} (G : Gr n) (Γ : List Ty) (js : List Nat) (g : MG) : TG := fun v σ H Q => ∃ d s F fp, Rel G Γ s σ F fp H ∧ Rep F d v ∧ ∃ s', g d s = some s' ∧ ∀ σ' fp', Rel G Γ s' σ' F fp' H → Stp L0 F fp H F fp' H → (∀ j, j ∉ js → σ'[j]? = σ[j]?) → Q σ' H
def tGs {n : Nat} (G : Gr n) (Γ : List Ty) (js : List Nat) (g : MGs) : TGs := fun vs σ H Q => ∃ ds s F fp, Rel G Γ s σ F fp H ∧ Reps F ds vs ∧ ∃ s', g ds s = some s' ∧ ∀ σ' fp', Rel G Γ s' σ' F fp' H → Stp L0 F fp H F fp' H → (∀ j, j ∉ js → σ'[j]? = σ[j]?) → Q σ' H
theorem pgI {e : Expr} {t t' : TG} (h : PG X e t) (f : ∀ v σ H Q, t' v σ H Q → t v σ H Q) : PG X e t' := ⟨fun pins s σ H v u Q I r q => h.run pins s σ H v u Q I r (f v σ H Q q)⟩
end
end Bk

set_option Elab.async false
set_option linter.all false
set_option maxRecDepth 100000
set_option maxHeartbeats 4000000
namespace Bk
open PySem PySem.Spec PyProof.Rows L2
variable [Cls]
section
variable {X : Cx} {n : Nat} {G : Gr n} {W : WX} {Γ : List Ty} {rt : Ty}
theorem pgsI {es : List Expr} {t t' : TGs} (h : PGs X es t) (f : ∀ v σ H Q, t' v σ H Q → t v σ H Q) : PGs X es t' := ⟨fun pins s σ H v u Q I r q => h.run pins s σ H v u Q I r (f v σ H Q q)⟩
theorem pg_or {e : Expr} {t t' : TG} (h : PG X e t) (h' : PG X e t') : PG X e (fun v σ H Q => t v σ H Q ∨ t' v σ H Q) := ⟨fun pins s σ H v u Q I r q => q.elim (h.run pins s σ H v u Q I r) (h'.run pins s σ H v u Q I r)⟩
abbrev MGt (X : Cx) {n : Nat} (G : Gr n) (Γ : List Ty) (js : List Nat) (e : Expr) (g : MG) : Prop := PG X e (tG G Γ js g)
abbrev MGts (X : Cx) {n : Nat} (G : Gr n) (Γ : List Ty) (js : List Nat) (es : List Expr) (g : MGs) : Prop := PGs X es (tGs G Γ js g)
def gN (i : Nat) : MG := fun d s => some (s.set i (some d))
theorem mg_n {e : Expr} {i : Nat} (h : PG X e (gName i)) (ht : Γ[i]? = some .fr) : MGt X G Γ [i] e (gN i) :=
  pgI h fun v σ H Q ⟨d, s, F, fp, R, r, s', e, k⟩ => by
    cases e
    exact k _ _ (R.putF ht r) (Stp.putF (Stp.refl F fp H)) fun j hj => List.getElem?_set_ne fun z => hj (by rw [z]; exact List.mem_singleton.mpr rfl)
def gE : MGs := fun ds s => match ds with
  | [] => some s
  | _ => none
def gC (g : MG) (gs : MGs) : MGs := fun ds s => match ds with
  | [] => none
  | d :: ds => (g d s).bind (gs ds)
theorem mg_nil : MGts X G Γ [] [] gE := pgsI pgs_nil fun vs σ H Q ⟨ds, s, F, fp, R, r, s', e, k⟩ => by
  cases r with
  | nil => cases e; exact ⟨rfl, k σ fp R (Stp.refl F fp H) fun _ _ => rfl⟩
  | cons _ _ => cases e
theorem mg_cons {e : Expr} {es : List Expr} {g : MG} {gs : MGs} {js js' : List Nat} (h : MGt X G Γ js e g) (hs : MGts X G Γ js' es gs) (ha : (assignEach (e :: es) X.env).map (·.2) = assign e X.env :: (assignEach es X.env).map (·.2) := by rfl) : MGts X G Γ (js ++ js') (e :: es) (gC g gs) :=
  pgsI (pgs_cons h hs ha) fun vs σ H Q ⟨ds, s, F, fp, R, r, s', e, k⟩ => by
    cases r with
    | nil => cases e
    | @cons d ds v vs r t =>
      obtain ⟨s1, e1, e2⟩ := Option.bind_eq_some_iff.mp (show (g d s).bind (gs ds) = some s' from e)
      exact ⟨v, vs, rfl, d, s, F, fp, R, r, s1, e1, fun σ1 fp1 R1 x1 k1 => ⟨ds, s1, F, fp1, R1, t, s', e2, fun σ2 fp2 R2 x2 k2 => k σ2 fp2 R2 (x1.trans x2) fun j hj => (k2 j fun z => hj (List.mem_append_right _ z)).trans (k1 j fun z => hj (List.mem_append_left _ z))⟩⟩
/-- (a, b, ..) = a tuple or a list -/
def gT (k : Nat) (gs : MGs) : MG := fun d s => match d with
  | .tup ds => if ds.length = k then gs ds s else none
  | .lst ds => if ds.length = k then gs ds s else none
  | _ => none
theorem mg_tup {es : List Expr} {x1 : Nat} {pos : Pos} {gs : MGs} {k : Nat} {js : List Nat} (hc : X.calm = true) (h : MGts X G Γ js es gs) (hn : (assignEach es X.env).length = k := by rfl) (hst : (assignEach es X.env).findIdx? (·.1) = none := by rfl) : MGt X G Γ js (.Tuple es x1 pos) (gT k gs) :=
  pgI (pg_or (pg_tup hc h hn hst) (pg_lst hc h hn hst)) fun v σ H Q ⟨d, s, F, fp, R, r, s', e, q⟩ => by
    cases r with
    | @tup ds vs a ea rs =>
      have e : (if ds.length = k then gs ds s else none) = some s' := e
      by_cases hk : ds.length = k
      · rw [if_pos hk] at e
        exact .inl ⟨a, vs, rfl, R.sqT ea, by rw [← rs.len]; exact hk, ds, s, F, fp, R, rs, s', e, q⟩
      · rw [if_neg hk] at e; cases e
    | @lst ds vs a ea rs =>
      have e : (if ds.length = k then gs ds s else none) = some s' := e
      by_cases hk : ds.length = k
      · rw [if_pos hk] at e
        exact .inr ⟨a, vs, rfl, R.sqL ea, by rw [← rs.len]; exact hk, ds, s, F, fp, R, rs, s', e, q⟩
      · rw [if_neg hk] at e; cases e
    | _ => cases e
def SO.opt (o : Option Env) : SO := match o with
  | some s => .nx s
  | none => .stuck
def sAsg (g : MG) (m : M) : MS := fun s => (m s).so fun d s1 => SO.opt (g d s1)
theorem ms_asg {st : Stmt} {g : MG} {m : M} {js : List Nat} (h : PS X st (tAsg (tM X.K G W Γ .fr m) (tG G Γ js g))) : MSt X G W Γ rt st (sAsg g m) :=
  psI h fun Dn σ H ⟨s, F, fp, R, q⟩ => ⟨s, F, fp, R, sbind q fun d s1 v F1 fp1 H1 R1 x a q1 => by
    cases e1 : g d s1 with
    | none => rw [e1] at q1; exact q1.elim
    | some s2 =>
      rw [e1] at q1
      exact ⟨d, s1, F1, fp1, R1, a.rep, s2, e1, fun σ2 fp2 R2 x2 _ => q1 σ2 F1 fp2 H1 R2 x2⟩⟩
/-- a, b = e1, e2 -/
def sPar (i j : Nat) (ms : MA) : MS := fun s => (ms s).so fun ds s1 => match ds with
  | [d, e] => .nx ((s1.set i (some d)).set j (some e))
  | _ => .stuck
theorem ms_par {st : Stmt} {i j : Nat} {ms : MA} (h : PS X st (tPar i j (tMA X.K G W Γ ms))) (hi : Γ[i]? = some .fr) (hj : Γ[j]? = some .fr) : MSt X G W Γ rt st (sPar i j ms) :=
  psI h fun Dn σ H ⟨s, F, fp, R, q⟩ => ⟨s, F, fp, R, sbind q fun ds s1 vs F1 fp1 H1 R1 x (a : Reps F1 ds vs) q1 => by
    match ds, q1 with
    | [d, e], q1 =>
      obtain ⟨v, w, rfl, r1, r2⟩ := a.two
      exact ⟨v, w, rfl, q1 _ F1 _ H1 ((R1.putF hi r1).putF hj r2) (Stp.putF (Stp.putF (Stp.refl F1 fp1 H1)))⟩⟩
/-- x op= e -/
def sAug (i : Nat) (f : D → D → Option D) (m : M) : MS := fun s => match s[i]? with
  | some (some d) => (m s).so fun e s1 => match f d e with
    | some z => .nx (s1.set i (some z))
    | none => .stuck
  | _ => .stuck
theorem ms_aug {st : Stmt} {i : Nat} {r : R2} {f : D → D → Option D} {m : M} (h : PS X st (tAug i (tM X.K G W Γ .fr m) r)) (hf : OpD r f) (ht : Γ[i]? = some .fr) : MSt X G W Γ rt st (sAug i f m) :=
  psI h fun Dn σ H ⟨s, F, fp, R, q⟩ => by
    unfold sAug at q
    split at q
    · rename_i d e
      obtain ⟨v, hv, a⟩ := R.slot i _ _ ht e
      refine ⟨v, hv, s, F, fp, R, sbind q fun e' s1 y F1 fp1 H1 R1 x b q1 => ?_⟩
      cases ef : f d e' with
      | none => rw [ef] at q1; exact q1.elim
      | some z =>
        rw [ef] at q1
        exact hf d e' z v y F1 H1 _ ef (a.1.mono x.f) b.rep fun w rw => q1 _ F1 _ H1 (R1.putF ht rw) (Stp.putF (Stp.refl F1 fp1 H1))
    · exact q.elim
theorem pip {op : Operator} {r : R2} (ho : OpR X (inplaceOp op) r) : PIp X op r := fun pins s σ H x y v u Q I rx ry q => ho pins s σ H x y v u Q I rx ry q
/-! ### an own list is grown -/
def sApp (i : Nat) (m : M) : MS := fun s => match s[i]? with
  | some (some _) => (m s).so fun d s1 => match s1[i]? with
    | some (some (.lst ds)) => if ds.length < 16000000 then .nx (s1.set i (some (.lst (ds ++ [d])))) else .stuck
    | _ => .stuck
  | _ => .stuck
theorem sixteen {k : Nat} (h : k < 16000000) : k < sizeLine := by rw [sizeLine_eq]; omega
/-- the thing at an owned address is changed -/
theorem Rel.own {s : Env} {σ : Sl} {F H : Hp} {fp : Fp} (R : Rel G Γ s σ F fp H) {i : Nat} {p : Addr} {o : HO} {d : D} {t : Ty} (ht : Γ[i]? = some t) (hp : p ∈ fp i) (v : V) (hv : σ[i]? = some (some v)) (a : At F (upd H p o) t d v (fp i)) (ho : tupO o = false := by rfl) :
    Rel G Γ (s.set i (some d)) σ F fp (upd H p o) ∧ Stp L0 F fp H F fp (upd H p o) := by
  have hi : i < Γ.length := (List.getElem?_eq_some_iff.mp ht).1
  have hF : F p = none := R.nF i p hp
  have x : Stp L0 F fp H F fp (upd H p o) := by
    refine ⟨Same.refl F, fun b u e _ hb => ?_, fun j b h => .inl ⟨j, h⟩, fun _ _ e _ => e, fun b h => ?_, fun b h => h.upd' ho, fun t => t.own (R.oh i p hp)⟩
    · rw [upd_ne (fun z => hb i (by rw [z]; exact hp))]; exact e
    · by_cases z : b = p
      · rw [z, upd_same]; exact Option.some_ne_none _
      · rw [upd_ne z]; exact h
  refine ⟨⟨by rw [List.length_set]; exact R.ls, R.lσ, fun j t' d' ht' hs => ?_, R.dis, R.nF, fun j b h => x.nt b (R.oh j b h), fun b u e => ?_, R.lkd, R.stp.trans x, R.par, R.loc, x.tab R.tb⟩, x⟩
  · by_cases z : i = j
    · subst z
      rw [List.getElem?_set_self (by rw [R.ls]; exact hi)] at hs
      cases hs
      rw [ht] at ht'
      cases ht'
      exact ⟨v, hv, a⟩
    · rw [List.getElem?_set_ne z] at hs
      obtain ⟨v', h1, h2⟩ := R.slot j t' d' ht' hs
      refine ⟨v', h1, h2.mono (Same.refl F) fun b hb u e => ?_⟩
      rw [upd_ne (fun w => z (R.dis i j p hp (by rw [← w]; exact hb)))]; exact e
  · rw [upd_ne (fun z => by rw [z, hF] at e; cases e)]; exact R.ext b u e
theorem ms_app {e : Expr} {pos : Pos} {i : Nat} {m : M} (h : PE X e (tBM X.K "list" rAppend (tVar i) (tCons (tM X.K G W Γ .fr m) tNil))) (ht : Γ[i]? = some .ol) (hs : swapsWith e none pos.line X.env = pure false := by rfl) : MSt X G W Γ rt (.Expr e pos) (sApp i m) :=
  psI (ps_expr h hs) fun Dn σ H ⟨s, F, fp, R, q⟩ => by
    unfold sApp at q
    split at q
    · rename_i d0 e0
      obtain ⟨v, hv, a0⟩ := R.slot i _ _ ht e0
      obtain ⟨p, ds0, vs0, _, rfl, e3, _, e4⟩ := id a0
      refine ⟨.ref p, hv, .inl ⟨rfl, vs0, .of e3⟩, s, F, fp, R, sbind q fun d s1 w F1 fp1 H1 R1 x b q1 => ?_⟩
      split at q1
      · rename_i ds e1
        by_cases hl : ds.length < 16000000
        · rw [if_pos hl] at q1
          obtain ⟨v', hv', p', ds', vs', z1, z2, z3, z4, z5⟩ := R1.slot i _ _ ht e1
          rw [hv] at hv'
          cases hv'
          cases z1
          cases z2
          refine ⟨p, vs', w, rfl, rfl, z3, by rw [← z4.len]; exact sixteen hl, ?_⟩
          have hp : p ∈ fp1 i := by rw [z5]; exact List.mem_singleton.mpr rfl
          obtain ⟨R2, x2⟩ := R1.own (o := .lst (vs' ++ [w])) (d := .lst (ds ++ [d])) ht hp (.ref p) hv ⟨p, ds ++ [d], vs' ++ [w], rfl, rfl, upd_same, z4.app (.cons b.rep .nil), z5⟩
          exact q1 _ _ _ _ R2 x2
        · rw [if_neg hl] at q1; exact q1.elim
      · exact q1.elim
    · exact q.elim
/-! ### what a loop walks -/
/-- J walks the things ds, whatever comes to be meanwhile -/
def Wk {n : Nat} (G : Gr n) (Γ : List Ty) (J : It) (F : Hp) (ds : List D) : Prop := ∀ i s σ F' fp' H', Rel G Γ s σ F' fp' H' → Same F F' →
  (∀ d, ds[i]? = some d → J.go i H' ∧ ∀ x H'', J.yld i H' x H'' → ∃ F'', Rel G Γ s σ F'' fp' H'' ∧ Stp L0 F' fp' H' F'' fp' H'' ∧ Rep F'' d x) ∧ (ds.length ≤ i → J.stop i H')
def tI (K : PySem.W.Frag) {n : Nat} (G : Gr n) (W : WX) (Γ : List Ty) (mi : MA) : TI := fun σ H R => ∃ s F fp, Rel G Γ s σ F fp H ∧ PostG K G W Γ σ F fp H (fun ds J F' _ _ => Wk G Γ J F' ds) R (mi s)
abbrev MI (X : Cx) {n : Nat} (G : Gr n) (W : WX) (Γ : List Ty) (tg it : Expr) (mi : MA) : Prop := PI X tg it (tI X.K G W Γ mi)
theorem piI {tg e : Expr} {t t' : TI} (h : PI X tg e t) (f : ∀ σ H R, t' σ H R → t σ H R) : PI X tg e t' := ⟨fun pins s σ H R I q => h.run pins s σ H R I (f σ H R q)⟩
theorem wk_list {K : PySem.W.Frag} {F : Hp} {a : Addr} {vs : List V} {ds : List D} (e : F a = some (.lst vs)) (r : Reps F ds vs) : Wk G Γ (Itl K a) F ds := fun i s σ F' fp' H' R x => by
  have q : SqL K H' a vs := R.sqL (x a _ e)
  refine ⟨fun d hd => ?_, fun h => ⟨vs, q, by rw [← r.len]; exact h⟩⟩
  obtain ⟨v, hv, rv⟩ := r.get hd
  refine ⟨⟨vs, v, q, hv⟩, fun y H'' hy => ?_⟩
  obtain ⟨e1, e2⟩ := hy
  subst e1
  have e3 := e2 vs q
  rw [hv] at e3
  cases e3
  exact ⟨F', R, Stp.refl F' fp' _, rv.mono x⟩
theorem wk_tup {K : PySem.W.Frag} {F : Hp} {a : Addr} {vs : List V} {ds : List D} (e : F a = some (.tup vs)) (r : Reps F ds vs) : Wk G Γ (Itt K a) F ds := fun i s σ F' fp' H' R x => by
  have q : SqT K H' a vs := R.sqT (x a _ e)
  refine ⟨fun d hd => ?_, fun h => ⟨vs, q, by rw [← r.len]; exact h⟩⟩
  obtain ⟨v, hv, rv⟩ := r.get hd
  refine ⟨⟨vs, v, q, hv⟩, fun y H'' hy => ?_⟩
  obtain ⟨e1, e2⟩ := hy
  subst e1
  have e3 := e2 vs q
  rw [hv] at e3
  cases e3
  exact ⟨F', R, Stp.refl F' fp' _, rv.mono x⟩
/-- the ints lo, lo + 1, .. -/
def rng (lo : Int) : Nat → List D
  | 0 => []
  | k + 1 => .int lo :: rng (lo + 1) k
theorem rng_len : ∀ (k : Nat) (lo : Int), (rng lo k).length = k
  | 0, _ => rfl
  | k + 1, lo => congrArg Nat.succ (rng_len k (lo + 1))
theorem rng_get : ∀ (k : Nat) (lo : Int) (i : Nat), i < k → (rng lo k)[i]? = some (.int (lo + i))
  | 0, _, _, h => by omega
  | k + 1, lo, 0, _ => by show some (D.int lo) = some (D.int (lo + ((0 : Nat) : Int))); rw [Int.natCast_zero, Int.add_zero]
  | k + 1, lo, i + 1, h => by
    show (rng (lo + 1) k)[i]? = _
    rw [rng_get k (lo + 1) i (by omega)]
    congr 2
    omega
theorem wk_rng {F : Hp} {lo : Int} {k : Nat} : Wk G Γ (Itr lo k) F (rng lo k) := fun i s σ F' fp' H' R x => by
  refine ⟨fun d hd => ?_, fun h => by rw [rng_len] at h; exact h⟩
  have hi : i < k := by
    have := (List.getElem?_eq_some_iff.mp hd).1
    rw [rng_len] at this
    exact this
  rw [rng_get k lo i hi] at hd
  cases hd
  refine ⟨hi, fun y H'' hy => ?_⟩
  obtain ⟨e1, e2⟩ := hy
  subst e1 e2
  exact ⟨F', R, Stp.refl F' fp' _, .int _⟩
/-- a list or a tuple that is fixed -/
def mSeqI (m : M) : MA := fun s => (m s).bind fun d s1 => match d with
  | .tup ds => .ok ds s1
  | .lst ds => .ok ds s1
  | _ => .stuck
theorem pi_or {tg e : Expr} {t t' : TI} (h : PI X tg e t) (h' : PI X tg e t') : PI X tg e (fun σ H R => t σ H R ∨ t' σ H R) := ⟨fun pins s σ H R I q => q.elim (h.run pins s σ H R I) (h'.run pins s σ H R I)⟩
theorem mi_seq {tg e : Expr} {m : M} (h : ME X G W Γ e .fr m) : MI X G W Γ tg e (mSeqI m) :=
  piI (pi_or (pi_list h) (pi_tup h)) fun σ H Q ⟨s, F, fp, R, q⟩ => by
    unfold mSeqI at q
    cases em : m s with
    | ok d s1 =>
      rw [em, Bk.R.bind_ok] at q
      cases d with
      | tup ds => exact .inr ⟨s, F, fp, R, by
          rw [em]
          intro v F1 fp1 H1 R1 x a
          cases a.rep with
          | tup e1 r1 => exact ⟨_, rfl, ⟨_, R1.sqT e1⟩, q _ F1 fp1 H1 R1 x (wk_tup e1 r1)⟩⟩
      | lst ds => exact .inl ⟨s, F, fp, R, by
          rw [em]
          intro v F1 fp1 H1 R1 x a
          cases a.rep with
          | lst e1 r1 => exact ⟨_, rfl, ⟨_, R1.sqL e1⟩, q _ F1 fp1 H1 R1 x (wk_list e1 r1)⟩⟩
      | _ => exact q.elim
    | err er s1 => rw [em] at q; exact .inl ⟨s, F, fp, R, by rw [em]; exact q⟩
    | stuck => rw [em] at q; exact q.elim
def rg (i j : Int) : Bool := decide (-(2 ^ 62) ≤ i ∧ i < 2 ^ 62 ∧ -(2 ^ 62) ≤ j ∧ j < 2 ^ 62)
def bRng1 : List D → Option (List D)
  | [.int j] => if rg 0 j = true then some (rng 0 j.toNat) else none
  | _ => none
def bRng2 : List D → Option (List D)
  | [.int i, .int j] => if rg i j = true then some (rng i (j - i).toNat) else none
  | _ => none
def mRng (f : List D → Option (List D)) (ms : MA) : MA := fun s => (ms s).bind fun ds s1 => R.opt (f ds) s1
theorem mi_rng1 {tg e : Expr} {ms : MA} (h : PI X tg e (iRng1 (tMA X.K G W Γ ms))) : MI X G W Γ tg e (mRng bRng1 ms) :=
  piI h fun σ H Q ⟨s, F, fp, R, q⟩ => ⟨s, F, fp, R, pbind q fun ds s1 vs F1 fp1 H1 R1 x (a : Reps F1 ds vs) q1 => by
    obtain ⟨zs, ez, q2⟩ := opt_post q1
    match ds, ez with
    | [.int j], ez =>
      obtain ⟨v, rfl, r⟩ := a.one
      cases r
      obtain ⟨hj, rfl⟩ := if_some (show (if rg 0 j = true then some (rng 0 j.toNat) else none) = some zs from ez)
      obtain ⟨_, _, h3, h4⟩ := of_decide_eq_true hj
      exact ⟨j, rfl, h3, h4, pok q2 R1 wk_rng⟩⟩
theorem mi_rng2 {tg e : Expr} {ms : MA} (h : PI X tg e (iRng2 (tMA X.K G W Γ ms))) : MI X G W Γ tg e (mRng bRng2 ms) :=
  piI h fun σ H Q ⟨s, F, fp, R, q⟩ => ⟨s, F, fp, R, pbind q fun ds s1 vs F1 fp1 H1 R1 x (a : Reps F1 ds vs) q1 => by
    obtain ⟨zs, ez, q2⟩ := opt_post q1
    match ds, ez with
    | [.int i, .int j], ez =>
      obtain ⟨v, w, rfl, r, r'⟩ := a.two
      cases r
      cases r'
      obtain ⟨hj, rfl⟩ := if_some (show (if rg i j = true then some (rng i (j - i).toNat) else none) = some zs from ez)
      exact ⟨i, j, rfl, of_decide_eq_true hj, pok q2 R1 wk_rng⟩⟩
/-! ### for, while -/
def forM (g : MG) (b : MS) : List D → Env → SO
  | [], s => .nx s
  | d :: ds, s => match g d s with
    | none => .stuck
    | some s1 => match b s1 with
      | .nx s2 => forM g b ds s2
      | .ct s2 => forM g b ds s2
      | .bk s2 => .nx s2
      | .rt d s2 => .rt d s2
      | .err e s2 => .err e s2
      | .stuck => .stuck
def sFor (mi : MA) (g : MG) (b : MS) : MS := fun s => (mi s).so (forM g b)
theorem ms_for {st : Stmt} {mi : MA} {g : MG} {b : MS} {js : List Nat} (h : PS X st (tFor (tI X.K G W Γ mi) (tG G Γ js g) (tS X.K G W Γ rt b))) : MSt X G W Γ rt st (sFor mi g b) :=
  psI h fun Dn σ H ⟨s, F, fp, R, q⟩ => ⟨s, F, fp, R, sbind q fun ds s1 J F1 fp1 H1 R1 x (wk : Wk G Γ J F1 ds) q1 => by
    refine ⟨fun i k σ' H' => k = ds.length - i ∧ i ≤ ds.length ∧ ∃ s' F' fp', Rel G Γ s' σ' F' fp' H' ∧ Stp L0 F1 fp1 H1 F' fp' H' ∧ PostS X.K G W Γ rt F' fp' H' Dn (forM g b (ds.drop i) s'), ⟨ds.length, by simp, Nat.zero_le _, s1, F1, fp1, R1, Stp.refl F1 fp1 H1, q1⟩, ?_⟩
    rintro i k σ' H' ⟨rfl, hi, s', F', fp', R', x', q'⟩
    obtain ⟨w1, w2⟩ := wk i s' σ' F' fp' H' R' x'.f
    by_cases hlt : i < ds.length
    · have hd : ds[i]? = some ds[i] := by simp [hlt]
      have hdrop : ds.drop i = ds[i] :: ds.drop (i + 1) := List.drop_eq_getElem_cons hlt
      rw [hdrop] at q'
      obtain ⟨go, hy⟩ := w1 _ hd
      refine .inr ⟨go, fun σ2 H2 => i + 1 ≤ ds.length ∧ ∃ s2 F2 fp2, Rel G Γ s2 σ2 F2 fp2 H2 ∧ Stp L0 F1 fp1 H1 F2 fp2 H2 ∧ PostS X.K G W Γ rt F2 fp2 H2 Dn (forM g b (ds.drop (i + 1)) s2), fun σ2 H2 n2 => ⟨ds.length - (i + 1), by omega, rfl, n2⟩, fun v H2 yv => ?_⟩
      obtain ⟨F2, R2, x2, r2⟩ := hy v H2 yv
      have q2 := PostS.shift x2 q'
      unfold forM at q2
      cases eg : g ds[i] s' with
      | none => rw [eg] at q2; exact q2.elim
      | some s2 =>
        rw [eg] at q2
        simp only [] at q2
        refine ⟨ds[i], s', F2, fp', R2, r2, s2, eg, fun σ3 fp3 R3 x3 _ => ⟨s2, F2, fp3, R3, ?_⟩⟩
        have q3 := PostS.shift x3 q2
        have xx := (x'.trans x2).trans x3
        cases eb : b s2 with
        | nx s4 => rw [eb] at q3; exact fun σ4 F4 fp4 H4 R4 x4 => ⟨hlt, s4, F4, fp4, R4, xx.trans x4, PostS.shift x4 q3⟩
        | ct s4 => rw [eb] at q3; exact fun σ4 F4 fp4 H4 R4 x4 => ⟨hlt, s4, F4, fp4, R4, xx.trans x4, PostS.shift x4 q3⟩
        | bk s4 => rw [eb] at q3; exact q3
        | rt d s4 => rw [eb] at q3; exact q3
        | err e s4 => rw [eb] at q3; exact q3
        | stuck => rw [eb] at q3; exact q3
    · have e : i = ds.length := by omega
      subst e
      rw [List.drop_length] at q'
      exact .inl ⟨w2 (Nat.le_refl _), snil R' q'⟩⟩
def whileM (c : MB) (b : MS) : Nat → Env → SO
  | 0, _ => .stuck
  | k + 1, s => (c s).so fun t s1 => if t = true then (match b s1 with
      | .nx s2 => whileM c b k s2
      | .ct s2 => whileM c b k s2
      | .bk s2 => .nx s2
      | .rt d s2 => .rt d s2
      | .err e s2 => .err e s2
      | .stuck => .stuck) else .nx s1
def sWhile (fuel : Env → Nat) (c : MB) (b : MS) : MS := fun s => whileM c b (fuel s) s
theorem ms_while {st : Stmt} {fuel : Env → Nat} {c : MB} {b : MS} (h : PS X st (tWhile (tMB X.K G W Γ c) (tS X.K G W Γ rt b))) : MSt X G W Γ rt st (sWhile fuel c b) :=
  psI h fun Dn σ H ⟨s, F, fp, R, q⟩ => by
    refine ⟨fun k σ' H' => ∃ s' F' fp', Rel G Γ s' σ' F' fp' H' ∧ PostS X.K G W Γ rt F' fp' H' Dn (whileM c b k s'), ⟨fuel s, s, F, fp, R, q⟩, ?_⟩
    rintro k σ' H' ⟨s', F', fp', R', q'⟩
    cases k with
    | zero => exact q'.elim
    | succ k =>
      refine ⟨s', F', fp', R', sbind q' fun t s1 t' F1 fp1 H1 R1 x a q1 => ?_⟩
      cases a
      cases t with
      | false => exact snil R1 q1
      | true =>
        rw [if_pos rfl] at q1
        refine ⟨fun σ2 H2 => ∃ s2 F2 fp2, Rel G Γ s2 σ2 F2 fp2 H2 ∧ PostS X.K G W Γ rt F2 fp2 H2 Dn (whileM c b k s2), fun σ2 H2 n2 => ⟨k, Nat.lt_succ_self k, n2⟩, s1, F1, fp1, R1, ?_⟩
        cases eb : b s1 with
        | nx s4 => rw [eb] at q1; exact fun σ4 F4 fp4 H4 R4 x4 => ⟨s4, F4, fp4, R4, PostS.shift x4 q1⟩
        | ct s4 => rw [eb] at q1; exact fun σ4 F4 fp4 H4 R4 x4 => ⟨s4, F4, fp4, R4, PostS.shift x4 q1⟩
        | bk s4 => rw [eb] at q1; exact q1
        | rt d s4 => rw [eb] at q1; exact q1
        | err e s4 => rw [eb] at q1; exact q1
        | stuck => rw [eb] at q1; exact q1
end
end Bk

set_option Elab.async false
set_option linter.all false
set_option maxRecDepth 100000
set_option maxHeartbeats 4000000
namespace Bk
open PySem PySem.Spec PyProof.Rows L2
variable [Cls]
/-! ### defs: what a call of one does, by a function on data -/
/-- the own parameters as a call leaves them -/
def msk : List Ty → Env → Env
  | t :: ts, o :: s => (if t = .fr then none else o) :: msk ts s
  | _, _ => []
theorem msk_get : ∀ {ts : List Ty} {s : Env} {i : Nat} {t : Ty} {d : D}, ts[i]? = some t → (msk ts s)[i]? = some (some d) → t ≠ .fr ∧ s[i]? = some (some d)
  | [], _, _, _, _, h, _ => by simp at h
  | _ :: _, [], _, _, _, _, h => by simp [msk] at h
  | t' :: ts, o :: s, 0, t, d, h, e => by
    simp at h
    subst h
    have e : some (if t' = .fr then none else o) = some (some d) := e
    by_cases z : t' = .fr
    · rw [if_pos z] at e; cases e
    · rw [if_neg z] at e; exact ⟨z, e⟩
  | t' :: ts, o :: s, i + 1, t, d, h, e => msk_get (ts := ts) (s := s) (i := i) (by simpa using h) e
def runF (ts : List Ty) (rt : Ty) (k : Nat) (m : MS) (ds : List D) : R D := match m (ds.map some ++ List.replicate (k - ds.length) none) with
  | .nx s => if rt = .fr then .ok .non (msk ts s) else .stuck
  | .rt d s => .ok d (msk ts s)
  | .err e s => .err e (msk ts s)
  | _ => .stuck
structure Pre (L : Lk) (ts : List Ty) (ds : List D) (vs : List V) (F : Hp) (fp : Fp) (H : Hp) : Prop where
  ld : ds.length = ts.length
  lv : vs.length = ts.length
  slot : ∀ (i : Nat) (t : Ty) (d : D) (v : V), ts[i]? = some t → ds[i]? = some d → vs[i]? = some v → At F H t d v (fp i)
  dis : ∀ i j a, a ∈ fp i → a ∈ fp j → i = j
  nF : ∀ i a, a ∈ fp i → F a = none
  oh : ∀ i a, a ∈ fp i → Nt H a
  ext : ∀ a o, F a = some o → H a = some (lk L a o)
  lkd : ∀ a ob, L a = some ob → ∃ o, F a = some o ∧ isDct o = true
  tb : TbOk F H
structure Pst (L : Lk) (ts : List Ty) (vs : List V) (e : Env) (F : Hp) (fp : Fp) (H F' : Hp) (fp' : Fp) (H' : Hp) : Prop where
  slot : ∀ (i : Nat) (t : Ty) (d : D) (v : V), ts[i]? = some t → e[i]? = some (some d) → vs[i]? = some v → At F' H' t d v (fp' i)
  dis : ∀ i j a, a ∈ fp' i → a ∈ fp' j → i = j
  nF : ∀ i a, a ∈ fp' i → F' a = none
  oh : ∀ i a, a ∈ fp' i → Nt H' a
  ext : ∀ a o, F' a = some o → H' a = some (lk L a o)
  own : ∀ i a, a ∈ fp' i → a ∈ fp i ∨ H a = none
  big : ∀ i a, a ∈ fp' i → i < ts.length
  stp : Stp L0 F fp H F' fp' H'
def PostF (K : PySem.W.Frag) (L : Lk) (ts : List Ty) (rt : Ty) (vs : List V) (F : Hp) (fp : Fp) (H : Hp) (Q : VK) (E : XK) : R D → Prop
  | .ok r e => ∀ v F' fp' H' B, Pst L ts vs e F fp H F' fp' H' → At F' H' rt r v B → (∀ a ∈ B, F' a = none ∧ (∀ i, a ∉ fp' i) ∧ H a = none) → Q v H'
  | .err er e => ∀ cls od F' fp' H', Pst L ts vs e F fp H F' fp' H' → ErrAt K F' er cls od → E cls od H'
  | .stuck => False
def spM (K : PySem.W.Frag) (ts : List Ty) (rt : Ty) (f : List D → R D) : Sp := fun vs H Q E => ∃ ds F fp L, Pre L ts ds vs F fp H ∧ PostF K L ts rt vs F fp H Q E (f ds)
theorem spM_len {K : PySem.W.Frag} {ts : List Ty} {rt : Ty} {f : List D → R D} {ps : List Str} (h : ts.length = ps.length) : ∀ vs H Q E, spM K ts rt f vs H Q E → vs.length = ps.length := fun vs H Q E ⟨ds, F, fp, L, p, _⟩ => p.lv.trans h
def fpCut (n : Nat) (fp : Fp) : Fp := fun i => if i < n then fp i else []
theorem fpCut_mem {n : Nat} {fp : Fp} {i : Nat} {a : Addr} (h : a ∈ fpCut n fp i) : i < n ∧ a ∈ fp i := by
  unfold fpCut at h
  by_cases z : i < n
  · rw [if_pos z] at h; exact ⟨z, h⟩
  · rw [if_neg z] at h; cases h
theorem start_get {N : List Str} {vs : List V} {i : Nat} (h : i < vs.length) : (L2.start N vs)[i]? = some vs[i]? := by
  unfold L2.start
  rw [List.getElem?_append_left (by rw [List.length_map]; exact h), List.getElem?_map, List.getElem?_eq_getElem h]
  rfl
theorem Rel.begin {L : Lk} {ts Γ : List Ty} {ds : List D} {vs : List V} {F H : Hp} {fp : Fp} {N : List Str} (p : Pre L ts ds vs F fp H) (hΓ : Γ.length = N.length) (hpre : Γ.take ts.length = ts) (hl : ts.length ≤ N.length) :
    Rel (n := ts.length) ⟨L2.start N vs, F, fpCut ts.length fp, H, L, L0⟩ Γ (ds.map some ++ List.replicate (N.length - ds.length) none) (L2.start N vs) F (fpCut ts.length fp) H := by
  refine ⟨?_, ?_, fun i t d ht hs => ?_, fun i j a hi hj => p.dis i j a (fpCut_mem hi).2 (fpCut_mem hj).2, fun i a h => p.nF i a (fpCut_mem h).2, fun i a h => p.oh i a (fpCut_mem h).2, p.ext, p.lkd, Stp.refl F _ H, fun _ _ _ => rfl, fun i a h => .inr ⟨(fpCut_mem h).1, h⟩, p.tb⟩
  · rw [List.length_append, List.length_map, List.length_replicate, hΓ, p.ld]; omega
  · unfold L2.start
    rw [List.length_append, List.length_map, List.length_replicate, hΓ, p.lv]; omega
  · by_cases hi : i < ds.length
    · rw [List.getElem?_append_left (by rw [List.length_map]; exact hi), List.getElem?_map, List.getElem?_eq_getElem hi] at hs
      have hs : some (some ds[i]) = some (some d) := hs
      cases hs
      have hi' : i < vs.length := by rw [p.lv, ← p.ld]; exact hi
      have hit : i < ts.length := by rw [← p.ld]; exact hi
      have ht2 : ts[i]? = some t := by
        rw [← hpre, List.getElem?_take, if_pos hit]
        exact ht
      refine ⟨vs[i], by rw [start_get hi', List.getElem?_eq_getElem hi'], ?_⟩
      unfold fpCut
      rw [if_pos hit]
      exact p.slot i t _ _ ht2 (List.getElem?_eq_getElem hi) (List.getElem?_eq_getElem hi')
    · rw [List.getElem?_append_right (by rw [List.length_map]; omega), List.getElem?_replicate] at hs
      split at hs <;> cases hs
theorem Rel.ends {L : Lk} {ts Γ : List Ty} {ds : List D} {vs : List V} {F H : Hp} {fp : Fp} {N : List Str} {s : Env} {σ : Sl} {F' H' : Hp} {fp' : Fp} (p : Pre L ts ds vs F fp H) (hpre : Γ.take ts.length = ts)
    (R : Rel (n := ts.length) ⟨L2.start N vs, F, fpCut ts.length fp, H, L, L0⟩ Γ s σ F' fp' H') (x : Stp L0 F (fpCut ts.length fp) H F' fp' H') : Pst L ts vs (msk ts s) F fp H F' (fpCut ts.length fp') H' := by
  refine ⟨fun i t d v ht he hv => ?_, fun i j a hi hj => R.dis i j a (fpCut_mem hi).2 (fpCut_mem hj).2, fun i a h => R.nF i a (fpCut_mem h).2, fun i a h => R.oh i a (fpCut_mem h).2, R.ext, fun i a h => ?_, fun i a h => (fpCut_mem h).1, ?_⟩
  · obtain ⟨hf, hs⟩ := msk_get ht he
    have hit : i < ts.length := (List.getElem?_eq_some_iff.mp ht).1
    have hiv : i < vs.length := by rw [p.lv]; exact hit
    have ht2 : Γ[i]? = some t := by
      rw [← hpre, List.getElem?_take, if_pos hit] at ht
      exact ht
    obtain ⟨v', h1, h2⟩ := R.slot i t d ht2 hs
    have e := R.par i hit (by rw [ht2]; intro z; cases z; exact hf rfl)
    have e : σ[i]? = (L2.start N vs)[i]? := e
    rw [h1, start_get hiv, hv] at e
    cases e
    unfold fpCut
    rw [if_pos hit]
    exact h2
  · rcases R.loc i a (fpCut_mem h).2 with z | ⟨_, z⟩
    · exact .inr z
    · exact .inl (fpCut_mem z).2
  · refine ⟨x.f, fun a o e hz hn => x.keep a o e hz fun i hi => hn i (fpCut_mem hi).2, fun i a h => ?_, fun a h e hn => x.nof a h e fun i hi => hn i (fpCut_mem hi).2, x.there, x.nt, x.tab⟩
    rcases R.loc i a (fpCut_mem h).2 with z | ⟨_, z⟩
    · exact .inr z
    · exact .inl ⟨i, (fpCut_mem z).2⟩
/-- THE RULE of a def -/
theorem fn_ok {P : Program} {w : World} {K : PySem.W.Frag} {mg : Str → Option Value} {base : Heap} {x qual : Str} {params : Arguments} {body : List Stmt} {scope : Scope} {dvs : List V} {kws : List (Str × V)} {f : Addr} {fd : FuncData}
    {N ps : List Str} {k : Nat} {ts Γ : List Ty} {rt : Ty} {m : MS} (FD : FunD K x qual params body scope dvs kws f fd) (S : FnScope N ps scope) (hts : ts.length = ps.length) (hΓ : Γ.length = N.length) (hpre : Γ.take ts.length = ts) (hl : ts.length ≤ N.length)
    (hb : ∀ (cdv : Value) (A : Around) (outer : List PySem.Env) (s : Shared) (H : Hp) (E : XK), Room k (A.deeper (envOfC qual scope s.heap.objs.size f cdv)) → ∀ (G : Gr ts.length) (W : WX), Takes (cxOf (L2.CX P w) P w K mg base N qual scope f cdv A outer s H E) W →
      MSs (cxOf (L2.CX P w) P w K mg base N qual scope f cdv A outer s H E) G W Γ rt body m) :
    FnOk P w K mg base (L2.CX P w) (k + 1) f fd ps (spM K ts rt (runF ts rt N.length m)) := by
  refine FD.ok S (spM_len hts) fun cdv A outer s H vs Q E hr hsp => ?_
  obtain ⟨ds, F, fp, L, p, q⟩ := hsp
  refine ⟨_, hb cdv A outer s H E hr ⟨L2.start N vs, F, fpCut ts.length fp, H, L, L0⟩ (fun cls d _ H' => E cls d H') (takes_of rfl rfl rfl rfl), ds.map some ++ List.replicate (N.length - ds.length) none, F, fpCut ts.length fp, Rel.begin p hΓ hpre hl, ?_⟩
  unfold runF at q
  cases em : m (ds.map some ++ List.replicate (N.length - ds.length) none) with
  | nx s1 =>
    rw [em] at q
    simp only [] at q
    by_cases z : rt = .fr
    · rw [if_pos z] at q
      exact fun σ1 F1 fp1 H1 R1 x1 => q .non F1 _ H1 [] (R1.ends p hpre x1) (by rw [z]; exact ⟨.non, rfl⟩) fun _ h => by cases h
    · rw [if_neg z] at q; exact q.elim
  | rt d s1 =>
    rw [em] at q
    intro v σ1 F1 fp1 H1 R1 x1 a
    obtain ⟨B, a1, tq⟩ := a
    refine q v F1 _ H1 B (R1.ends p hpre x1) a1 fun b hb => ?_
    obtain ⟨q1, q2, q3, _⟩ := tq b hb
    exact ⟨q1, fun i hi => q2 i (fpCut_mem hi).2, q3⟩
  | err er s1 =>
    rw [em] at q
    exact fun cls od σ1 F1 fp1 H1 R1 x1 z => q cls od F1 _ H1 (R1.ends p hpre x1) z
  | bk s1 => rw [em] at q; exact q.elim
  | ct s1 => rw [em] at q; exact q.elim
  | stuck => rw [em] at q; exact q.elim
/-! ### calls -/
abbrev Spc := List (Option Nat)
inductive ArgsOk (σ : Sl) (F : Hp) : Spc → List D → List V → Prop
  | nil : ArgsOk σ F [] [] []
  | fr {sp : Spc} {d : D} {ds : List D} {v : V} {vs : List V} : Rep F d v → ArgsOk σ F sp ds vs → ArgsOk σ F (none :: sp) (d :: ds) (v :: vs)
  | own {sp : Spc} {j : Nat} {ds : List D} {v : V} {vs : List V} : σ[j]? = some (some v) → ArgsOk σ F sp ds vs → ArgsOk σ F (some j :: sp) (.non :: ds) (v :: vs)
theorem ArgsOk.mono {σ : Sl} {F F' : Hp} (h : Same F F') : ∀ {sp : Spc} {ds : List D} {vs : List V}, ArgsOk σ F sp ds vs → ArgsOk σ F' sp ds vs
  | _, _, _, .nil => .nil
  | _, _, _, .fr r t => .fr (r.mono h) (ArgsOk.mono h t)
  | _, _, _, .own e t => .own e (ArgsOk.mono h t)
def tAr (K : PySem.W.Frag) {n : Nat} (G : Gr n) (W : WX) (Γ : List Ty) (sp : Spc) (ms : MA) : TA := fun σ H Q => ∃ s F fp, Rel G Γ s σ F fp H ∧ PostG K G W Γ σ F fp H (fun ds vs F' _ _ => ArgsOk σ F' sp ds vs) Q (ms s)
abbrev MAr (X : Cx) {n : Nat} (G : Gr n) (W : WX) (Γ : List Ty) (es : List Expr) (sp : Spc) (ms : MA) : Prop := PA X es (tAr X.K G W Γ sp ms)
def mOwnA (j : Nat) (ms : MA) : MA := fun s => match s[j]? with
  | some (some _) => (ms s).bind fun ds s1 => .ok (.non :: ds) s1
  | _ => .stuck
def fill : Spc → List D → Env → Option (List D)
  | [], [], _ => some []
  | none :: sp, d :: ds, s => (fill sp ds s).map (d :: ·)
  | some j :: sp, _ :: ds, s => match s[j]? with
    | some (some d) => (fill sp ds s).map (d :: ·)
    | _ => none
  | _, _, _ => none
def puts : Spc → Env → Env → Env
  | [], _, s => s
  | none :: sp, e, s => puts sp e.tail s
  | some j :: sp, e, s => puts sp e.tail (s.set j e.head?.join)
def mCallF (f : List D → R D) (sp : Spc) (dflt : List D) (ms : MA) : M := fun s => (ms s).bind fun ds s1 => match fill sp (ds ++ dflt) s1 with
  | none => .stuck
  | some ds' => match f ds' with
    | .ok r e => .ok r (puts sp e s1)
    | .err er e => .err er (puts sp e s1)
    | .stuck => .stuck
def ix : Spc → Nat → Option Nat
  | [], _ => none
  | o :: sp, j => if o = some j then some 0 else (ix sp j).map (· + 1)
theorem ix_some : ∀ {sp : Spc} {j k : Nat}, ix sp j = some k → sp[k]? = some (some j)
  | [], _, _, h => by cases h
  | o :: sp, j, k, h => by
    have h : (if o = some j then some 0 else (ix sp j).map (· + 1)) = some k := h
    by_cases z : o = some j
    · rw [if_pos z] at h; cases h; rw [z]; rfl
    · rw [if_neg z] at h
      obtain ⟨k', e1, rfl⟩ := Option.map_eq_some_iff.mp h
      have := ix_some e1
      simpa using this
theorem ix_none : ∀ {sp : Spc} {j : Nat}, ix sp j = none → ∀ k : Nat, sp[k]? ≠ some (some j)
  | [], _, _, k => by simp
  | o :: sp, j, h, k => by
    have h : (if o = some j then some 0 else (ix sp j).map (· + 1)) = none := h
    by_cases z : o = some j
    · rw [if_pos z] at h; cases h
    · rw [if_neg z] at h
      have h' := Option.map_eq_none_iff.mp h
      cases k with
      | zero => simpa using z
      | succ k => simpa using ix_none h' k
def nd : Spc → Bool
  | [] => true
  | none :: r => nd r
  | some j :: r => (ix r j).isNone && nd r
theorem nd_eq : ∀ {sp : Spc}, nd sp = true → ∀ {k k' j : Nat}, sp[k]? = some (some j) → sp[k']? = some (some j) → k = k'
  | [], _, _, _, _, h, _ => by simp at h
  | none :: r, h, 0, _, _, e, _ => by simp at e
  | none :: r, h, _ + 1, 0, _, _, e => by simp at e
  | none :: r, h, k + 1, k' + 1, j, e, e' => congrArg Nat.succ (nd_eq (sp := r) h (by simpa using e) (by simpa using e'))
  | some i :: r, h, 0, 0, _, _, _ => rfl
  | some i :: r, h, 0, k' + 1, j, e, e' => by
    simp at e
    subst e
    have h1 := (Bool.and_eq_true_iff.mp (show ((ix r i).isNone && nd r) = true from h)).1
    exact absurd (show r[k']? = some (some i) by simpa using e') (ix_none (Option.isNone_iff_eq_none.mp h1) k')
  | some i :: r, h, k + 1, 0, j, e', e => by
    simp at e
    subst e
    have h1 := (Bool.and_eq_true_iff.mp (show ((ix r i).isNone && nd r) = true from h)).1
    exact absurd (show r[k]? = some (some i) by simpa using e') (ix_none (Option.isNone_iff_eq_none.mp h1) k)
  | some i :: r, h, k + 1, k' + 1, j, e, e' =>
    congrArg Nat.succ (nd_eq (sp := r) (Bool.and_eq_true_iff.mp (show ((ix r i).isNone && nd r) = true from h)).2 (by simpa using e) (by simpa using e'))
theorem puts_len : ∀ {sp : Spc} {e s : Env}, (puts sp e s).length = s.length
  | [], _, _ => rfl
  | none :: sp, e, s => puts_len (sp := sp)
  | some j :: sp, e, s => by
    show (puts sp e.tail (s.set j e.head?.join)).length = s.length
    rw [puts_len, List.length_set]
theorem puts_out : ∀ {sp : Spc} {e s : Env} {j : Nat}, (∀ k : Nat, sp[k]? ≠ some (some j)) → (puts sp e s)[j]? = s[j]?
  | [], _, _, _, _ => rfl
  | none :: sp, e, s, j, h => puts_out (sp := sp) fun k => by simpa using h (k + 1)
  | some i :: sp, e, s, j, h => by
    show (puts sp e.tail (s.set i e.head?.join))[j]? = s[j]?
    rw [puts_out (sp := sp) fun k => by simpa using h (k + 1)]
    have : i ≠ j := fun z => h 0 (by rw [z]; rfl)
    rw [List.getElem?_set_ne this]
theorem puts_in : ∀ {sp : Spc} {e s : Env} {j k : Nat}, nd sp = true → sp[k]? = some (some j) → j < s.length → (puts sp e s)[j]? = some (e[k]?.join)
  | [], _, _, _, _, _, h, _ => by simp at h
  | none :: sp, e, s, j, 0, hn, h, hl => by simp at h
  | none :: sp, e, s, j, k + 1, hn, h, hl => by
    show (puts sp e.tail s)[j]? = _
    rw [puts_in (sp := sp) (k := k) hn (by simpa using h) hl]
    cases e <;> simp
  | some i :: sp, e, s, j, 0, hn, h, hl => by
    simp at h
    subst h
    have h1 := (Bool.and_eq_true_iff.mp (show ((ix sp i).isNone && nd sp) = true from hn)).1
    show (puts sp e.tail (s.set i e.head?.join))[i]? = _
    rw [puts_out (ix_none (Option.isNone_iff_eq_none.mp h1)), List.getElem?_set_self hl]
    cases e <;> simp
  | some i :: sp, e, s, j, k + 1, hn, h, hl => by
    have h2 := (Bool.and_eq_true_iff.mp (show ((ix sp i).isNone && nd sp) = true from hn)).2
    show (puts sp e.tail (s.set i e.head?.join))[j]? = _
    rw [puts_in (sp := sp) (k := k) h2 (by simpa using h) (by rw [List.length_set]; exact hl)]
    cases e <;> simp
theorem ArgsOk.app {σ : Sl} {F : Hp} : ∀ {sp sp' : Spc} {ds es : List D} {vs ws : List V}, ArgsOk σ F sp ds vs → ArgsOk σ F sp' es ws → ArgsOk σ F (sp ++ sp') (ds ++ es) (vs ++ ws)
  | _, _, _, _, _, _, .nil, s => s
  | _, _, _, _, _, _, .fr r t, s => .fr r (ArgsOk.app t s)
  | _, _, _, _, _, _, .own e t, s => .own e (ArgsOk.app t s)
theorem ArgsOk.dflt {σ : Sl} {F : Hp} : ∀ {ds : List D} {vs : List V}, Reps F ds vs → ArgsOk σ F (List.replicate ds.length none) ds vs
  | _, _, .nil => .nil
  | _, _, .cons r t => .fr r (ArgsOk.dflt t)
theorem args_len {σ : Sl} {F : Hp} {s : Env} : ∀ {sp : Spc} {ds ds' : List D} {vs : List V}, ArgsOk σ F sp ds vs → fill sp ds s = some ds' → ds'.length = sp.length ∧ vs.length = sp.length
  | _, _, _, _, .nil, e => by cases e; exact ⟨rfl, rfl⟩
  | _, _, _, _, .fr r t, e => by
    obtain ⟨ds1, e1, rfl⟩ := Option.map_eq_some_iff.mp e
    obtain ⟨h1, h2⟩ := args_len t e1
    exact ⟨congrArg Nat.succ h1, congrArg Nat.succ h2⟩
  | some j :: sp, _, _, _, .own e0 t, e => by
    unfold fill at e
    split at e
    · obtain ⟨ds1, e1, rfl⟩ := Option.map_eq_some_iff.mp e
      obtain ⟨h1, h2⟩ := args_len t e1
      exact ⟨congrArg Nat.succ h1, congrArg Nat.succ h2⟩
    · cases e
theorem args_fr {σ : Sl} {F : Hp} {s : Env} : ∀ {sp : Spc} {ds ds' : List D} {vs : List V} {k : Nat} {d : D} {v : V}, ArgsOk σ F sp ds vs → fill sp ds s = some ds' → sp[k]? = some none → ds'[k]? = some d → vs[k]? = some v → Rep F d v
  | _, _, _, _, k, _, _, .nil, e, h, _, _ => by simp at h
  | _, _, _, _, 0, _, _, .fr r t, e, h, hd, hv => by
    obtain ⟨ds1, e1, rfl⟩ := Option.map_eq_some_iff.mp e
    simp at hd hv
    subst hd hv
    exact r
  | _, _, _, _, k + 1, _, _, .fr r t, e, h, hd, hv => by
    obtain ⟨ds1, e1, rfl⟩ := Option.map_eq_some_iff.mp e
    exact args_fr (k := k) t e1 (by simpa using h) (by simpa using hd) (by simpa using hv)
  | some j :: sp, _, _, _, 0, _, _, .own e0 t, e, h, hd, hv => by simp at h
  | some j :: sp, _, _, _, k + 1, _, _, .own e0 t, e, h, hd, hv => by
    unfold fill at e
    split at e
    · obtain ⟨ds1, e1, rfl⟩ := Option.map_eq_some_iff.mp e
      exact args_fr (k := k) t e1 (by simpa using h) (by simpa using hd) (by simpa using hv)
    · cases e
theorem args_own {σ : Sl} {F : Hp} {s : Env} : ∀ {sp : Spc} {ds ds' : List D} {vs : List V} {k j : Nat} {d : D} {v : V}, ArgsOk σ F sp ds vs → fill sp ds s = some ds' → sp[k]? = some (some j) → ds'[k]? = some d → vs[k]? = some v → s[j]? = some (some d) ∧ σ[j]? = some (some v)
  | _, _, _, _, k, _, _, _, .nil, e, h, _, _ => by simp at h
  | _, _, _, _, 0, _, _, _, .fr r t, e, h, hd, hv => by simp at h
  | _, _, _, _, k + 1, _, _, _, .fr r t, e, h, hd, hv => by
    obtain ⟨ds1, e1, rfl⟩ := Option.map_eq_some_iff.mp e
    exact args_own (k := k) t e1 (by simpa using h) (by simpa using hd) (by simpa using hv)
  | some j :: sp, _, _, _, 0, _, _, _, .own e0 t, e, h, hd, hv => by
    unfold fill at e
    split at e
    · rename_i d' es
      obtain ⟨ds1, e1, rfl⟩ := Option.map_eq_some_iff.mp e
      simp at h hd hv
      subst h hd hv
      exact ⟨es, e0⟩
    · cases e
  | some j :: sp, _, _, _, k + 1, _, _, _, .own e0 t, e, h, hd, hv => by
    unfold fill at e
    split at e
    · obtain ⟨ds1, e1, rfl⟩ := Option.map_eq_some_iff.mp e
      exact args_own (k := k) t e1 (by simpa using h) (by simpa using hd) (by simpa using hv)
    · cases e
def tyAt (Γ : List Ty) : Option Nat → Ty
  | none => .fr
  | some j => (Γ[j]?).getD .fr
def fpc (sp : Spc) (fp : Fp) : Fp := fun k => match sp[k]? with
  | some (some j) => fp j
  | _ => []
theorem fpc_mem {sp : Spc} {fp : Fp} {k : Nat} {a : Addr} (h : a ∈ fpc sp fp k) : ∃ j, sp[k]? = some (some j) ∧ a ∈ fp j := by
  unfold fpc at h
  split at h
  · rename_i j e; exact ⟨j, e, h⟩
  · cases h
theorem fpc_of {sp : Spc} {fp : Fp} {k j : Nat} (h : sp[k]? = some (some j)) : fpc sp fp k = fp j := by
  unfold fpc
  rw [h]
/-- a call seen from its caller -/
theorem call_pre {n : Nat} {G : Gr n} {Γ : List Ty} {s : Env} {σ : Sl} {F H : Hp} {fp : Fp} (R : Rel G Γ s σ F fp H) {sp : Spc} {ds ds' : List D} {vs : List V} (hn : nd sp = true) (hj : ∀ j ∈ sp.filterMap id, j < Γ.length) (a : ArgsOk σ F sp ds vs) (e : fill sp ds s = some ds') :
    Pre G.L (sp.map (tyAt Γ)) ds' vs F (fpc sp fp) H := by
  obtain ⟨l1, l2⟩ := args_len a e
  refine ⟨by rw [l1, List.length_map], by rw [l2, List.length_map], fun k t d v ht hd hv => ?_, fun i j b hi hk => ?_, fun i b h => ?_, fun i b h => ?_, R.ext, R.lkd, R.tb⟩
  · rw [List.getElem?_map] at ht
    obtain ⟨o, eo, rfl⟩ := Option.map_eq_some_iff.mp ht
    cases o with
    | none =>
      refine ⟨args_fr a e eo hd hv, ?_⟩
      unfold fpc
      rw [eo]
    | some j =>
      obtain ⟨h1, h2⟩ := args_own a e eo hd hv
      rw [fpc_of eo]
      have hjl : j < Γ.length := hj j (List.mem_filterMap.mpr ⟨some j, List.mem_of_getElem? eo, rfl⟩)
      have eΓ : Γ[j]? = some (tyAt Γ (some j)) := by
        show Γ[j]? = some ((Γ[j]?).getD .fr)
        rw [List.getElem?_eq_getElem hjl]
        rfl
      obtain ⟨v', h3, h4⟩ := R.slot j _ d eΓ h1
      rw [h2] at h3
      cases h3
      exact h4
  · obtain ⟨j1, e1, m1⟩ := fpc_mem hi
    obtain ⟨j2, e2, m2⟩ := fpc_mem hk
    have := R.dis j1 j2 b m1 m2
    subst this
    exact nd_eq hn e1 e2
  · obtain ⟨j, _, m⟩ := fpc_mem h; exact R.nF j b m
  · obtain ⟨j, _, m⟩ := fpc_mem h; exact R.oh j b m
def fpu (sp : Spc) (fpc' fp : Fp) : Fp := fun j => match ix sp j with
  | some k => fpc' k
  | none => fp j
theorem fpu_mem {sp : Spc} {fpc' fp : Fp} {j : Nat} {a : Addr} (h : a ∈ fpu sp fpc' fp j) : (∃ k, ix sp j = some k ∧ a ∈ fpc' k) ∨ (ix sp j = none ∧ a ∈ fp j) := by
  unfold fpu at h
  split at h
  · rename_i k e; exact .inl ⟨k, e, h⟩
  · rename_i e; exact .inr ⟨e, h⟩
theorem call_post {n : Nat} {G : Gr n} {Γ : List Ty} {s : Env} {σ : Sl} {F H : Hp} {fp : Fp} (R : Rel G Γ s σ F fp H) {sp : Spc} {ds ds' : List D} {vs : List V} {e' : Env} {F' H' : Hp} {fp' : Fp} (hn : nd sp = true) (hj : ∀ j ∈ sp.filterMap id, j < Γ.length) (a : ArgsOk σ F sp ds vs) (e : fill sp ds s = some ds')
    (p : Pst G.L (sp.map (tyAt Γ)) vs e' F (fpc sp fp) H F' fp' H') : Rel G Γ (puts sp e' s) σ F' (fpu sp fp' fp) H' ∧ Stp L0 F fp H F' (fpu sp fp' fp) H' := by
  obtain ⟨l1, l2⟩ := args_len a e
  -- what is owned and not handed over
  have outs : ∀ {j : Nat} {b : Addr}, ix sp j = none → b ∈ fp j → ∀ k, b ∉ fpc sp fp k := fun {j b} hi hb k hk => by
    obtain ⟨j', e1, m1⟩ := fpc_mem hk
    have := R.dis j j' b hb m1
    subst this
    exact ix_none hi k e1
  have old : ∀ {j k : Nat} {b : Addr}, ix sp j = some k → b ∈ fp' k → b ∈ fp j ∨ H b = none := fun {j k b} hi hb => by
    rcases p.own k b hb with z | z
    · rw [fpc_of (ix_some hi)] at z; exact .inl z
    · exact .inr z
  have x : Stp L0 F fp H F' (fpu sp fp' fp) H' := by
    refine ⟨p.stp.f, fun b o eb hz hb => p.stp.keep b o eb hz fun k hk => ?_, fun j b h => ?_, fun b h eF hb => p.stp.nof b h eF fun k hk => ?_, p.stp.there, p.stp.nt, p.stp.tab⟩
    · obtain ⟨j, _, m⟩ := fpc_mem hk; exact hb j m
    · rcases fpu_mem h with ⟨k, hi, hk⟩ | ⟨hi, hk⟩
      · rcases old hi hk with z | z
        · exact .inl ⟨j, z⟩
        · exact .inr z
      · exact .inl ⟨j, hk⟩
    · obtain ⟨j, _, m⟩ := fpc_mem hk; exact hb j m
  refine ⟨⟨by rw [puts_len]; exact R.ls, R.lσ, fun j t d ht hs => ?_, fun i j b hi hk => ?_, fun j b h => ?_, fun j b h => ?_, p.ext, fun b ob eb => ?_, R.stp.trans x, R.par, fun j b h => ?_, x.tab R.tb⟩, x⟩
  · cases hi : ix sp j with
    | none =>
      rw [puts_out (ix_none hi)] at hs
      obtain ⟨v, h1, h2⟩ := R.slot j t d ht hs
      refine ⟨v, h1, ?_⟩
      unfold fpu
      rw [hi]
      refine h2.mono p.stp.f fun b hb o eb => ?_
      exact p.stp.keep b o eb ((R.oh j b hb).ntab R.tb) (outs hi hb)
    | some k =>
      have ek := ix_some hi
      have hjl : j < s.length := by rw [R.ls]; exact (List.getElem?_eq_some_iff.mp ht).1
      rw [puts_in hn ek hjl] at hs
      have hs : e'[k]?.join = some d := Option.some.inj hs
      have he : e'[k]? = some (some d) := by
        cases z : e'[k]? with
        | none => rw [z] at hs; cases hs
        | some o => rw [z] at hs; exact congrArg some hs
      have hkl : k < vs.length := by rw [l2]; exact (List.getElem?_eq_some_iff.mp ek).1
      have hkd : k < ds'.length := by rw [l1]; exact (List.getElem?_eq_some_iff.mp ek).1
      obtain ⟨_, hσ⟩ := args_own a e ek (List.getElem?_eq_getElem hkd) (List.getElem?_eq_getElem hkl)
      refine ⟨vs[k], hσ, ?_⟩
      unfold fpu
      rw [hi]
      have et : (sp.map (tyAt Γ))[k]? = some t := by
        rw [List.getElem?_map, ek]
        show some ((Γ[j]?).getD .fr) = some t
        rw [ht]
        rfl
      exact p.slot k t d _ et he (List.getElem?_eq_getElem hkl)
  · rcases fpu_mem hi with ⟨k1, e1, m1⟩ | ⟨e1, m1⟩
    · rcases fpu_mem hk with ⟨k2, e2, m2⟩ | ⟨e2, m2⟩
      · have := p.dis k1 k2 b m1 m2
        subst this
        have q1 := ix_some e1
        rw [ix_some e2] at q1
        cases q1
        rfl
      · rcases old e1 m1 with z | z
        · exact R.dis i j b z m2
        · exact absurd z (R.oh j b m2).ne
    · rcases fpu_mem hk with ⟨k2, e2, m2⟩ | ⟨e2, m2⟩
      · rcases old e2 m2 with z | z
        · exact R.dis i j b m1 z
        · exact absurd z (R.oh i b m1).ne
      · exact R.dis i j b m1 m2
  · rcases fpu_mem h with ⟨k1, e1, m1⟩ | ⟨e1, m1⟩
    · exact p.nF k1 b m1
    · exact p.stp.nof b (R.oh j b m1) (R.nF j b m1) (outs e1 m1)
  · rcases fpu_mem h with ⟨k1, e1, m1⟩ | ⟨e1, m1⟩
    · exact p.oh k1 b m1
    · exact p.stp.nt b (R.oh j b m1)
  · obtain ⟨o, h1, h2⟩ := R.lkd b ob eb
    exact ⟨o, p.stp.f b o h1, h2⟩
  · rcases fpu_mem h with ⟨k1, e1, m1⟩ | ⟨e1, m1⟩
    · rcases old e1 m1 with z | z
      · exact R.loc j b z
      · exact .inl (R.newG z)
    · exact R.loc j b m1
section
variable {X : Cx} {n : Nat} {G : Gr n} {W : WX} {Γ : List Ty} {rt : Ty}
theorem mr_nil : MAr X G W Γ [] [] mNil := paI pa_nil fun σ H Q ⟨s, F, fp, R, q⟩ => pok q R .nil
theorem mr_fr {e : Expr} {es : List Expr} {sp : Spc} {m : M} {ms : MA} (h : ME X G W Γ e .fr m) (hs : MAr X G W Γ es sp ms) (he : starEach (e :: es) X.env = (false, eval e X.env) :: starEach es X.env := by rfl) : MAr X G W Γ (e :: es) (none :: sp) (mCons m ms) :=
  paI (pa_cons h hs he) fun σ H Q ⟨s, F, fp, R, q⟩ => ⟨s, F, fp, R, pbind q fun d s1 x F1 fp1 H1 R1 st1 a1 q1 => ⟨s1, F1, fp1, R1, pbind q1 fun ds s2 xs F2 fp2 H2 R2 st2 a2 q2 => pok q2 R2 (.fr (a1.rep.mono st2.f) a2)⟩⟩
theorem mr_own {e : Expr} {es : List Expr} {sp : Spc} {j : Nat} {ms : MA} {t : Ty} (h : PE X e (tVar j)) (ht : Γ[j]? = some t) (hs : MAr X G W Γ es sp ms) (he : starEach (e :: es) X.env = (false, eval e X.env) :: starEach es X.env := by rfl) : MAr X G W Γ (e :: es) (some j :: sp) (mOwnA j ms) :=
  paI (pa_cons h hs he) fun σ H Q ⟨s, F, fp, R, q⟩ => by
    unfold mOwnA at q
    split at q
    · rename_i d e
      obtain ⟨v, hv, a⟩ := R.slot j _ _ ht e
      exact ⟨v, hv, s, F, fp, R, pbind q fun ds s1 xs F1 fp1 H1 R1 st1 a1 q1 => pok q1 R1 (.own hv a1)⟩
    · exact q.elim
/-- the reading of a call of a def -/
theorem call_go {K : PySem.W.Frag} {σ : Sl} {H : Hp} {Q : VK} {f : List D → R D} {spa sp : Spc} {dflt : List D} {dvs : List V} {ms : MA} {ts : List Ty} {t : Ty} (hd : ∀ F, Reps F dflt dvs) (hsp : sp = spa ++ List.replicate dflt.length none) (hn : nd sp = true) (hj : ∀ j ∈ sp.filterMap id, j < Γ.length) (hts : sp.map (tyAt Γ) = ts)
    (h : tM K G W Γ t (mCallF f sp dflt ms) σ H Q) : tCallSD (spM K ts t f) dvs (WE W) (tAr K G W Γ spa ms) σ H Q := by
  obtain ⟨s, F, fp, R, q⟩ := h
  subst hts hsp
  refine ⟨s, F, fp, R, pbind q fun ds s1 vs F1 fp1 H1 R1 st1 (a : ArgsOk σ F1 spa ds vs) q1 => ?_⟩
  have a' := a.app (ArgsOk.dflt (hd F1))
  split at q1
  · exact q1.elim
  · rename_i ds' e
    refine ⟨ds', F1, _, G.L, call_pre R1 hn hj a' e, ?_⟩
    cases ef : f ds' with
    | ok r e' =>
      rw [ef] at q1
      intro v F' fp' H' B p aB tq
      obtain ⟨R2, x2⟩ := call_post R1 hn hj a' e p
      have hex : ∀ b ∈ B, ∀ i, b ∉ fpu (spa ++ List.replicate dflt.length none) fp' fp1 i := fun b hb i hi => by
        obtain ⟨_, h2, h3⟩ := tq b hb
        rcases fpu_mem hi with ⟨k, _, m⟩ | ⟨_, m⟩
        · exact h2 k m
        · exact (R1.oh i b m).ne h3
      exact q1 v F' _ H' R2 x2 ⟨B, aB, fun b hb => ⟨(tq b hb).1, hex b hb, R1.newG (tq b hb).2.2, .inr (Classical.byContradiction fun z => st1.there b z (tq b hb).2.2)⟩⟩
    | err er e' =>
      rw [ef] at q1
      intro cls od F' fp' H' p z
      obtain ⟨R2, x2⟩ := call_post R1 hn hj a' e p
      exact q1 cls od F' _ H' R2 x2 z
    | stuck => rw [ef] at q1; exact q1.elim
theorem me_call {e : Expr} {f : List D → R D} {spa sp : Spc} {dflt : List D} {dvs : List V} {ms : MA} {ts : List Ty} {t : Ty} (h : PE X e (tCallSD (spM X.K ts t f) dvs (WE W) (tAr X.K G W Γ spa ms))) (hd : ∀ F, Reps F dflt dvs) (hsp : sp = spa ++ List.replicate dflt.length none := by rfl) (hn : nd sp = true := by rfl)
    (hj : ∀ j ∈ sp.filterMap id, j < Γ.length := by decide) (hts : sp.map (tyAt Γ) = ts := by rfl) : ME X G W Γ e t (mCallF f sp dflt ms) := peI h fun _ _ _ => call_go hd hsp hn hj hts
end
end Bk

set_option Elab.async false
set_option linter.all false
set_option maxRecDepth 100000
set_option maxHeartbeats 4000000
namespace Bk
open PySem PySem.Spec PyProof.Rows L2
variable [Cls]
/-! ### list comprehensions -/
/-- the slots of a block's own names forgotten; as they were ahead of the block -/
def swipe (s : Env) : List Nat → Env
  | [] => s
  | v :: vs => (swipe s vs).set v none
def srest (s0 s : Env) : List Nat → Env
  | [] => s
  | v :: vs => (srest s0 s vs).set v ((s0[v]?).join)
section
variable {X : Cx} {n : Nat} {G : Gr n} {W : WX} {Γ : List Ty} {rt : Ty}
theorem Rel.wipe {s : Env} {σ : Sl} {F H : Hp} {fp : Fp} (R : Rel G Γ s σ F fp H) : ∀ {vs : List Nat}, (∀ v ∈ vs, n ≤ v ∨ Γ[v]? = some .fr) → Rel G Γ (swipe s vs) (L2.wipe σ vs) F fp H
  | [], _ => R
  | v :: vs, h => by
    have R' := R.wipe (vs := vs) fun w hw => h w (List.mem_cons_of_mem _ hw)
    have hv := h v List.mem_cons_self
    show Rel G Γ ((swipe s vs).set v none) ((L2.wipe σ vs).set v none) F fp H
    refine ⟨by rw [List.length_set]; exact R'.ls, by rw [List.length_set]; exact R'.lσ, fun j t d ht hs => ?_, R'.dis, R'.nF, R'.oh, R'.ext, R'.lkd, R'.stp, fun j hj hf => ?_, R'.loc, R'.tb⟩
    · by_cases z : v = j
      · subst z
        by_cases hl : v < (swipe s vs).length
        · rw [List.getElem?_set_self hl] at hs; cases hs
        · rw [List.getElem?_eq_none (by rw [List.length_set]; omega)] at hs; cases hs
      · rw [List.getElem?_set_ne z] at hs
        obtain ⟨w, h1, h2⟩ := R'.slot j t d ht hs
        exact ⟨w, by rw [List.getElem?_set_ne z]; exact h1, h2⟩
    · have z : v ≠ j := fun z => by
        subst z
        rcases hv with q | q
        · omega
        · exact hf q
      rw [List.getElem?_set_ne z]; exact R'.par j hj hf
/-- the block's names are left: the slots stand as they stood, what they held is fixed -/
theorem Rel.rest {s0 s : Env} {σ : Sl} {F0 H0 F H : Hp} {fp0 fp : Fp} (R0 : Rel G Γ s0 σ F0 fp0 H0) (x : Same F0 F) : ∀ {vs : List Nat}, (∀ v ∈ vs, Γ[v]? = some .fr) → Rel G Γ s (L2.wipe σ vs) F fp H → Rel G Γ (srest s0 s vs) σ F (fun j => if j ∈ vs then [] else fp j) H := by
  intro vs hv R
  have ls : ∀ vs : List Nat, (srest s0 s vs).length = s.length := fun vs => by
    induction vs with
    | nil => rfl
    | cons v vs ih => show ((srest s0 s vs).set v _).length = _; rw [List.length_set]; exact ih
  have get : ∀ (vs : List Nat) (j : Nat), j ∈ vs → j < s.length → (srest s0 s vs)[j]? = some ((s0[j]?).join) := fun vs j => by
    induction vs with
    | nil => intro h; cases h
    | cons v vs ih =>
      intro h hl
      show ((srest s0 s vs).set v _)[j]? = _
      by_cases z : v = j
      · subst z; rw [List.getElem?_set_self (by rw [ls]; exact hl)]
      · rw [List.getElem?_set_ne z]
        rcases List.mem_cons.mp h with q | q
        · exact absurd q.symm z
        · exact ih q hl
  have out : ∀ (vs : List Nat) (j : Nat), j ∉ vs → (srest s0 s vs)[j]? = s[j]? := fun vs j => by
    induction vs with
    | nil => intro _; rfl
    | cons v vs ih =>
      intro h
      show ((srest s0 s vs).set v _)[j]? = _
      rw [List.getElem?_set_ne (fun z => h (by rw [z]; exact List.mem_cons_self))]
      exact ih fun q => h (List.mem_cons_of_mem _ q)
  have mem : ∀ {j : Nat} {a : Addr}, a ∈ (if j ∈ vs then [] else fp j) → j ∉ vs ∧ a ∈ fp j := fun {j a} h => by
    by_cases z : j ∈ vs
    · rw [if_pos z] at h; cases h
    · rw [if_neg z] at h; exact ⟨z, h⟩
  refine ⟨by rw [ls]; exact R.ls, R0.lσ, fun j t d ht hs => ?_, fun i j a hi hj => R.dis i j a (mem hi).2 (mem hj).2, fun i a h => R.nF i a (mem h).2, fun i a h => R.oh i a (mem h).2, R.ext, R.lkd, ?_, R0.par, fun i a h => R.loc i a (mem h).2, R.tb⟩
  · have hjl : j < s.length := by rw [R.ls]; exact (List.getElem?_eq_some_iff.mp ht).1
    by_cases z : j ∈ vs
    · rw [get vs j z hjl] at hs
      have e : s0[j]? = some (some d) := by
        have hs : (s0[j]?).join = some d := Option.some.inj hs
        cases q : s0[j]? with
        | none => rw [q] at hs; cases hs
        | some o => rw [q] at hs; exact congrArg some hs
      obtain ⟨v, h1, h2⟩ := R0.slot j t d ht e
      have := hv j z
      rw [ht] at this
      cases this
      exact ⟨v, h1, h2.1.mono x, if_pos z⟩
    · rw [out vs j z] at hs
      obtain ⟨v, h1, h2⟩ := R.slot j t d ht hs
      exact ⟨v, (wipe_some h1).1, by rw [if_neg z]; exact h2⟩
  · exact ⟨R.stp.f, R.stp.keep, fun i a h => R.stp.new i a (mem h).2, R.stp.nof, R.stp.there, R.stp.nt, R.stp.tab⟩
theorem wipe_get (σ : Sl) : ∀ (vs : List Nat) (j : Nat), j ∉ vs → (L2.wipe σ vs)[j]? = σ[j]?
  | [], _, _ => rfl
  | v :: vs, j, h => by
    show ((L2.wipe σ vs).set v none)[j]? = _
    rw [List.getElem?_set_ne (fun z => h (by rw [z]; exact List.mem_cons_self))]
    exact wipe_get σ vs j fun q => h (List.mem_cons_of_mem _ q)
theorem wipe_at (σ : Sl) : ∀ (vs : List Nat) (j : Nat), j ∈ vs → j < σ.length → (L2.wipe σ vs)[j]? = some none
  | v :: vs, j, h, hl => by
    show ((L2.wipe σ vs).set v none)[j]? = _
    by_cases z : v = j
    · subst z; rw [List.getElem?_set_self (by rw [wipe_length]; exact hl)]
    · rw [List.getElem?_set_ne z]
      rcases List.mem_cons.mp h with q | q
      · exact absurd q.symm z
      · exact wipe_at σ vs j q hl
theorem wipe_eq {σ σ' : Sl} {vs : List Nat} (hl : σ'.length = σ.length) (h : ∀ j, j ∉ vs → σ'[j]? = σ[j]?) : L2.wipe σ' vs = L2.wipe σ vs := by
  apply List.ext_getElem?
  intro j
  by_cases z : j ∈ vs
  · by_cases hj : j < σ.length
    · rw [wipe_at σ vs j z hj, wipe_at σ' vs j z (by rw [hl]; exact hj)]
    · rw [List.getElem?_eq_none (by rw [wipe_length]; omega), List.getElem?_eq_none (by rw [wipe_length]; omega)]
  · rw [wipe_get σ vs j z, wipe_get σ' vs j z, h j z]
theorem wipe_wipe (σ : Sl) (vs : List Nat) : L2.wipe (L2.wipe σ vs) vs = L2.wipe σ vs := wipe_eq (wipe_length σ vs) fun j h => wipe_get σ vs j h
def compM (g : MG) (c : MB) (e : M) (vs : List Nat) : List D → Env → List D → R (List D)
  | [], s, acc => .ok acc s
  | d :: ds, s, acc => match g d s with
    | none => .stuck
    | some s1 => (c s1).bind fun b s2 => if b = true then (e s2).bind fun z s3 => if acc.length < 16000000 then compM g c e vs ds (swipe s3 vs) (acc ++ [z]) else .stuck else compM g c e vs ds (swipe s2 vs) acc
def R.noerr {α : Type} (r : R α) : R α := match r with
  | .ok a s => .ok a s
  | _ => .stuck
@[simp] theorem R.noerr_ok {α : Type} (a : α) (s : Env) : (R.ok a s).noerr = .ok a s := rfl
def mComp (mi : MA) (g : MG) (c : MB) (e : M) (vs : List Nat) : M := fun s => (mi s).bind fun ds s1 => (compM g c e vs ds (swipe s1 vs) []).noerr.bind fun zs s2 => .ok (.lst zs) (srest s1 s2 vs)
def mYes : MB := fun s => .ok true s
/-- behind the turns of a comprehension: the new list at p -/
def PostC {n : Nat} (G : Gr n) (Γ : List Ty) (σ : Sl) (F : Hp) (fp : Fp) (H : Hp) (p : Addr) (vs : List Nat) (Qd : Hp → Prop) : R (List D) → Prop
  | .ok zs s' => ∀ F' fp' H' ws, Rel G Γ s' (L2.wipe σ vs) F' fp' H' → Stp L0 F fp H F' fp' H' → H' p = some (.lst ws) → Reps F' zs ws → F' p = none → (∀ i, p ∉ fp' i) → Qd H'
  | _ => False
theorem pts_yes (h : PTs X [] tYes) : PTs X [] (tMB X.K G W Γ mYes) := ⟨fun pins s σ H Q I ⟨s', F, fp, R, q⟩ => h.run pins s σ H Q I (pok q R rfl)⟩
abbrev W0 : WX := fun _ _ _ _ => False
theorem fits {k : Nat} (h : k < 16000000) : k < sizeLine := sixteen h
theorem keepP {p : Addr} {av : List V} {Fa Ha Fb Hb : Hp} {fa fb : Fp} (h1 : Ha p = some (.lst av)) (h2 : Fa p = none) (h3 : ∀ i, p ∉ fa i) (y : Stp L0 Fa fa Ha Fb fb Hb) (t : TbOk Fa Ha) : Hb p = some (.lst av) ∧ Fb p = none ∧ ∀ i, p ∉ fb i := by
  refine ⟨y.keep p _ h1 (t.no h1) h3, y.nof p ⟨_, h1, rfl⟩ h2 h3, fun i hi => ?_⟩
  rcases y.new i p hi with ⟨j, hj⟩ | z
  · exact h3 j hj
  · rw [h1] at z; cases z
/-- the turns -/
theorem comp_core {K : PySem.W.Frag} {g : MG} {c : MB} {e : M} {vs js : List Nat} {ds : List D} {J : It} {σ : Sl} {F1 H1 F0 H0 : Hp} {fp1 fp0 : Fp} {s0 : Env} {p : Addr} {acc0 : List D} {av0 : List V} {Qd : Hp → Prop} (hjs : ∀ j ∈ js, j ∈ vs) (hvs : ∀ v ∈ vs, Γ[v]? = some .fr) (wk : Wk G Γ J F0 ds) (hp : H1 p = none) (hG : G.H p = none) (hσl : σ.length = Γ.length)
    (R0 : Rel G Γ s0 (L2.wipe σ vs) F0 fp0 H0) (x0 : Stp L0 F1 fp1 H1 F0 fp0 H0) (hp0 : H0 p = some (.lst av0)) (ra0 : Reps F0 acc0 av0) (hF0 : F0 p = none) (hf0 : ∀ i, p ∉ fp0 i)
    (q : PostC G Γ σ F1 fp1 H1 p vs Qd (compM g c e vs ds s0 acc0)) :
    ∃ V : Nat → Nat → Hp → Prop, (∃ m, V 0 m H0) ∧ ∀ i m H, V i m H →
      (J.stop i H ∧ Qd H) ∨ (J.go i H ∧ ∃ Nx : Hp → Prop, (∀ H', Nx H' → ∃ m', m' < m ∧ V (i + 1) m' H') ∧ ∀ x H', J.yld i H x H' → tG G Γ js g x (L2.wipe σ vs) H' fun σ2 H2 => L2.wipe σ2 vs = L2.wipe σ vs ∧ tMB K G W0 Γ c σ2 H2 fun b H3 =>
        if b = true then tM K G W0 Γ .fr e σ2 H3 fun y H4 => ∃ acc, H4 p = some (.lst acc) ∧ acc.length < sizeLine ∧ Nx (upd H4 p (.lst (acc ++ [y]))) else Nx H3) := by
  have hw : ∀ v ∈ vs, n ≤ v ∨ Γ[v]? = some .fr := fun v hv => .inr (hvs v hv)
  let St (i : Nat) (H : Hp) : Prop := i ≤ ds.length ∧ ∃ s' F' fp' acc accv, Rel G Γ s' (L2.wipe σ vs) F' fp' H ∧ Same F0 F' ∧ Stp L0 F1 fp1 H1 F' fp' H ∧ H p = some (.lst accv) ∧ Reps F' acc accv ∧ F' p = none ∧ (∀ i, p ∉ fp' i) ∧ PostC G Γ σ F1 fp1 H1 p vs Qd (compM g c e vs (ds.drop i) s' acc)
  refine ⟨fun i m H => m = ds.length - i ∧ St i H, ⟨ds.length, by simp, Nat.zero_le _, s0, F0, fp0, acc0, av0, R0, Same.refl F0, x0, hp0, ra0, hF0, hf0, q⟩, ?_⟩
  rintro i m H ⟨rfl, hi, s', F', fp', acc, accv, R', sm, x', hpl, ra, hF, hf, q'⟩
  obtain ⟨w1, w2⟩ := wk i s' _ F' fp' H R' sm
  by_cases hlt : i < ds.length
  · have hd : ds[i]? = some ds[i] := by simp [hlt]
    have hdrop : ds.drop i = ds[i] :: ds.drop (i + 1) := List.drop_eq_getElem_cons hlt
    rw [hdrop] at q'
    obtain ⟨go, hy⟩ := w1 _ hd
    refine .inr ⟨go, St (i + 1), fun H' n' => ⟨ds.length - (i + 1), by omega, rfl, n'⟩, fun y H2 yv => ?_⟩
    obtain ⟨F2, R2, x2, r2⟩ := hy y H2 yv
    unfold compM at q'
    cases eg : g ds[i] s' with
    | none => rw [eg] at q'; exact q'.elim
    | some s2 =>
      rw [eg] at q'
      simp only [] at q'
      refine ⟨ds[i], s', F2, fp', R2, r2, s2, eg, fun σ3 fp3 R3 x3 k3 => ?_⟩
      have hσ : L2.wipe σ3 vs = L2.wipe σ vs := by
        rw [← wipe_wipe σ vs]
        exact wipe_eq (by rw [wipe_length, R3.lσ, hσl]) fun j hj => k3 j fun z => hj (hjs j z)
      refine ⟨hσ, s2, F2, fp3, R3, ?_⟩
      obtain ⟨p2, f2, g2⟩ := keepP hpl hF hf (x2.trans x3) R'.tb
      have xx := x'.trans (x2.trans x3)
      cases ec : c s2 with
      | err _ _ => rw [ec] at q'; exact q'.elim
      | stuck => rw [ec] at q'; exact q'.elim
      | ok b s3 =>
        rw [ec, Bk.R.bind_ok] at q'
        intro b' F4 fp4 H4 R4 x4 eb
        cases eb
        obtain ⟨p4, f4, g4⟩ := keepP p2 f2 g2 x4 R3.tb
        cases b with
        | false =>
          rw [if_neg Bool.false_ne_true]
          rw [if_neg Bool.false_ne_true] at q'
          refine ⟨hlt, swipe s3 vs, F4, fp4, acc, accv, ?_, sm.trans (x2.f.trans (x3.f.trans x4.f)), xx.trans x4, p4, ra.mono (x2.f.trans (x3.f.trans x4.f)), f4, g4, q'⟩
          have := R4.wipe hw
          rw [hσ] at this
          exact this
        | true =>
          rw [if_pos rfl]
          rw [if_pos rfl] at q'
          refine ⟨s3, F4, fp4, R4, ?_⟩
          cases ee : e s3 with
          | err _ _ => rw [ee] at q'; exact q'.elim
          | stuck => rw [ee] at q'; exact q'.elim
          | ok z s5 =>
            rw [ee, Bk.R.bind_ok] at q'
            intro w F6 fp6 H6 R6 x6 aw
            obtain ⟨p6, f6, g6⟩ := keepP p4 f4 g4 x6 R4.tb
            by_cases hl : acc.length < 16000000
            · rw [if_pos hl] at q'
              have hra : Reps F6 acc accv := ra.mono (x2.f.trans (x3.f.trans (x4.f.trans x6.f)))
              refine ⟨accv, p6, by rw [← ra.len]; exact sixteen hl, hlt, swipe s5 vs, F6, fp6, acc ++ [z], accv ++ [w], ?_, sm.trans (x2.f.trans (x3.f.trans (x4.f.trans x6.f))), ((xx.trans x4).trans x6).tmp hp ⟨_, p6, rfl⟩, upd_same, hra.app (.cons aw.rep .nil), f6, g6, q'⟩
              have := (R6.wipe hw).tmp (o := .lst (accv ++ [w])) f6 g6 hG p6
              rw [hσ] at this
              exact this
            · rw [if_neg hl] at q'; exact q'.elim
  · have e : i = ds.length := by omega
    subst e
    rw [List.drop_length] at q'
    exact .inl ⟨w2 (Nat.le_refl _), q' F' fp' H accv R' x' hpl ra hF hf⟩
theorem comp_go {K : PySem.W.Frag} {g : MG} {c : MB} {e : M} {vs js : List Nat} {ds : List D} {J : It} {σ : Sl} {F1 H1 : Hp} {fp1 : Fp} {s1 : Env} {p : Addr} {Qd : Hp → Prop} (hjs : ∀ j ∈ js, j ∈ vs) (hvs : ∀ v ∈ vs, Γ[v]? = some .fr) (R1 : Rel G Γ s1 σ F1 fp1 H1) (wk : Wk G Γ J F1 ds) (hp : H1 p = none)
    (q : PostC G Γ σ F1 fp1 H1 p vs Qd (compM g c e vs ds (swipe s1 vs) [])) :
    ∃ V : Nat → Nat → Hp → Prop, (∃ m, V 0 m (upd H1 p (.lst []))) ∧ ∀ i m H, V i m H →
      (J.stop i H ∧ Qd H) ∨ (J.go i H ∧ ∃ Nx : Hp → Prop, (∀ H', Nx H' → ∃ m', m' < m ∧ V (i + 1) m' H') ∧ ∀ x H', J.yld i H x H' → tG G Γ js g x (L2.wipe σ vs) H' fun σ2 H2 => L2.wipe σ2 vs = L2.wipe σ vs ∧ tMB K G W0 Γ c σ2 H2 fun b H3 =>
        if b = true then tM K G W0 Γ .fr e σ2 H3 fun y H4 => ∃ acc, H4 p = some (.lst acc) ∧ acc.length < sizeLine ∧ Nx (upd H4 p (.lst (acc ++ [y]))) else Nx H3) := by
  obtain ⟨a, b⟩ := (R1.wipe fun v hv => .inr (hvs v hv)).lay (o := .lst []) hp
  exact comp_core hjs hvs wk hp (R1.newG hp) R1.lσ a b upd_same .nil (R1.nowF hp) (R1.newFp hp) q
theorem comp_end {K : PySem.W.Frag} {g : MG} {c : MB} {e : M} {vs : List Nat} {ds : List D} {σ : Sl} {F1 H1 : Hp} {fp1 : Fp} {s1 : Env} {p : Addr} {Q : VK} (hvs : ∀ v ∈ vs, Γ[v]? = some .fr) (R1 : Rel G Γ s1 σ F1 fp1 H1) (hp : H1 p = none) {fp0 : Fp} {H0 : Hp} (h0 : H0 p = none) {o : R (List D)}
    (q : PostG K G W Γ σ F1 fp1 H1 (AE G .ol fp0 H0) Q (o.noerr.bind fun zs s2 => .ok (.lst zs) (srest s1 s2 vs))) : PostC G Γ σ F1 fp1 H1 p vs (Q (.ref p)) o := by
  cases o with
  | err _ _ => exact q.elim
  | stuck => exact q.elim
  | ok zs s2 =>
    intro F' fp' H' ws R' x' hpl ra hF hf
    refine q (.ref p) F' _ H' (Rel.rest R1 x'.f hvs R') ⟨x'.f, x'.keep, fun i a h => ?_, x'.nof, x'.there, x'.nt, x'.tab⟩ ⟨[p], ⟨p, zs, ws, rfl, rfl, hpl, ra, rfl⟩, fun b hb => ?_⟩
    · have h : a ∈ (if i ∈ vs then [] else fp' i) := h
      by_cases z : i ∈ vs
      · rw [if_pos z] at h; cases h
      · rw [if_neg z] at h; exact x'.new i a h
    · rw [List.mem_singleton.mp hb]
      refine ⟨hF, fun i h => ?_, R1.newG hp, .inr h0⟩
      have h : p ∈ (if i ∈ vs then [] else fp' i) := h
      by_cases z : i ∈ vs
      · rw [if_pos z] at h; cases h
      · rw [if_neg z] at h; exact hf i h
theorem comp_read {K : PySem.W.Frag} {mi : MA} {g : MG} {c : MB} {e : M} {vs js : List Nat} {σ : Sl} {H : Hp} {Q : VK} (hjs : ∀ j ∈ js, j ∈ vs) (hvs : ∀ v ∈ vs, Γ[v]? = some .fr) (h : tM K G W Γ .ol (mComp mi g c e vs) σ H Q) :
    tLc (tI K G W Γ mi) (tG G Γ js g) (tMB K G W0 Γ c) (tM K G W0 Γ .fr e) vs σ H Q := by
  obtain ⟨s, F, fp, R, q⟩ := h
  refine ⟨s, F, fp, R, pbind q fun ds s1 J F1 fp1 H1 R1 st1 (wk : Wk G Γ J F1 ds) q1 => fun p hp => ?_⟩
  exact comp_go hjs hvs R1 wk hp (comp_end (K := K) (W := W) (g := g) (c := c) (e := e) (ds := ds) hvs R1 hp (Classical.byContradiction fun z => st1.there p z hp) q1)
theorem me_comp {ex : Expr} {mi : MA} {g : MG} {c : MB} {e : M} {vs js : List Nat} (h : PE X ex (tLc (tI X.K G W Γ mi) (tG G Γ js g) (tMB X.K G W0 Γ c) (tM X.K G W0 Γ .fr e) vs)) (hjs : ∀ j ∈ js, j ∈ vs := by decide) (hvs : ∀ v ∈ vs, Γ[v]? = some .fr := by decide) : ME X G W Γ ex .ol (mComp mi g c e vs) :=
  peI h fun _ _ _ => comp_read hjs hvs
/-! two clauses -/
def compM2 (g : MG) (c : MB) (mi1 : MA) (g1 : MG) (c1 : MB) (e : M) (vs vs1 : List Nat) : List D → Env → List D → R (List D)
  | [], s, acc => .ok acc s
  | d :: ds, s, acc => match g d s with
    | none => .stuck
    | some s1 => (c s1).bind fun b s2 => if b = true then (mi1 s2).bind fun ds1 s3 => (compM g1 c1 e vs1 ds1 (swipe s3 vs1) acc).bind fun acc' s4 => compM2 g c mi1 g1 c1 e vs vs1 ds (swipe s4 vs) acc' else compM2 g c mi1 g1 c1 e vs vs1 ds (swipe s2 vs) acc
def mComp2 (mi : MA) (g : MG) (c : MB) (mi1 : MA) (g1 : MG) (c1 : MB) (e : M) (vs vs1 : List Nat) : M := fun s => (mi s).bind fun ds s1 => (compM2 g c mi1 g1 c1 e vs vs1 ds (swipe s1 vs) []).noerr.bind fun zs s2 => .ok (.lst zs) (srest s1 s2 vs)
theorem comp2_go {K : PySem.W.Frag} {g g1 : MG} {c c1 : MB} {mi1 : MA} {e : M} {vs vs1 js js1 : List Nat} {ds : List D} {J : It} {σ : Sl} {F1 H1 : Hp} {fp1 : Fp} {s1 : Env} {p : Addr} {Qd : Hp → Prop} (hjs : ∀ j ∈ js, j ∈ vs) (hvs : ∀ v ∈ vs, Γ[v]? = some .fr) (hjs1 : ∀ j ∈ js1, j ∈ vs1) (h1 : ∀ v ∈ vs1, v ∈ vs) (R1 : Rel G Γ s1 σ F1 fp1 H1) (wk : Wk G Γ J F1 ds) (hp : H1 p = none)
    (q : PostC G Γ σ F1 fp1 H1 p vs Qd (compM2 g c mi1 g1 c1 e vs vs1 ds (swipe s1 vs) [])) :
    ∃ V : Nat → Nat → Hp → Prop, (∃ m, V 0 m (upd H1 p (.lst []))) ∧ ∀ i m H, V i m H →
      (J.stop i H ∧ Qd H) ∨ (J.go i H ∧ ∃ Nx : Hp → Prop, (∀ H', Nx H' → ∃ m', m' < m ∧ V (i + 1) m' H') ∧ ∀ x H', J.yld i H x H' → tG G Γ js g x (L2.wipe σ vs) H' fun σ2 H2 => L2.wipe σ2 vs = L2.wipe σ vs ∧ tMB K G W0 Γ c σ2 H2 fun b H3 =>
        if b = true then tI K G W0 Γ mi1 σ2 H3 fun J1 H4 => ∃ V1 : Nat → Nat → Hp → Prop, (∃ m, V1 0 m H4) ∧ ∀ j k H, V1 j k H →
          (J1.stop j H ∧ Nx H) ∨ (J1.go j H ∧ ∃ Nx1 : Hp → Prop, (∀ H', Nx1 H' → ∃ k', k' < k ∧ V1 (j + 1) k' H') ∧ ∀ x H', J1.yld j H x H' → tG G Γ js1 g1 x (L2.wipe σ2 vs1) H' fun σ3 H5 => L2.wipe σ3 vs1 = L2.wipe σ2 vs1 ∧ tMB K G W0 Γ c1 σ3 H5 fun b H6 =>
            if b = true then tM K G W0 Γ .fr e σ3 H6 fun y H7 => ∃ acc, H7 p = some (.lst acc) ∧ acc.length < sizeLine ∧ Nx1 (upd H7 p (.lst (acc ++ [y]))) else Nx1 H6)
        else Nx H3) := by
  have hw : ∀ v ∈ vs, n ≤ v ∨ Γ[v]? = some .fr := fun v hv => .inr (hvs v hv)
  have hw1 : ∀ v ∈ vs1, Γ[v]? = some .fr := fun v hv => hvs v (h1 v hv)
  have hG : G.H p = none := R1.newG hp
  let St (i : Nat) (H : Hp) : Prop := i ≤ ds.length ∧ ∃ s' F' fp' acc accv, Rel G Γ s' (L2.wipe σ vs) F' fp' H ∧ Stp L0 F1 fp1 H1 F' fp' H ∧ H p = some (.lst accv) ∧ Reps F' acc accv ∧ F' p = none ∧ (∀ i, p ∉ fp' i) ∧ PostC G Γ σ F1 fp1 H1 p vs Qd (compM2 g c mi1 g1 c1 e vs vs1 (ds.drop i) s' acc)
  refine ⟨fun i m H => m = ds.length - i ∧ St i H, ⟨ds.length, by simp, Nat.zero_le _, swipe s1 vs, F1, fp1, [], [], ?_, ?_, upd_same, .nil, R1.nowF hp, R1.newFp hp, q⟩, ?_⟩
  · exact ((R1.wipe hw).lay (o := .lst []) hp).1
  · exact ((R1.wipe hw).lay (o := .lst []) hp).2
  rintro i m H ⟨rfl, hi, s', F', fp', acc, accv, R', x', hpl, ra, hF, hf, q'⟩
  obtain ⟨w1, w2⟩ := wk i s' _ F' fp' H R' x'.f
  by_cases hlt : i < ds.length
  · have hd : ds[i]? = some ds[i] := by simp [hlt]
    have hdrop : ds.drop i = ds[i] :: ds.drop (i + 1) := List.drop_eq_getElem_cons hlt
    rw [hdrop] at q'
    obtain ⟨go, hy⟩ := w1 _ hd
    refine .inr ⟨go, St (i + 1), fun H' n' => ⟨ds.length - (i + 1), by omega, rfl, n'⟩, fun y H2 yv => ?_⟩
    obtain ⟨F2, R2, x2, r2⟩ := hy y H2 yv
    unfold compM2 at q'
    cases eg : g ds[i] s' with
    | none => rw [eg] at q'; exact q'.elim
    | some s2 =>
      rw [eg] at q'
      simp only [] at q'
      refine ⟨ds[i], s', F2, fp', R2, r2, s2, eg, fun σ3 fp3 R3 x3 k3 => ?_⟩
      have hσ : L2.wipe σ3 vs = L2.wipe σ vs := by
        rw [← wipe_wipe σ vs]
        exact wipe_eq (by rw [wipe_length, R3.lσ, ← R1.lσ]) fun j hj => k3 j fun z => hj (hjs j z)
      refine ⟨hσ, s2, F2, fp3, R3, ?_⟩
      obtain ⟨p2, f2, g2⟩ := keepP hpl hF hf (x2.trans x3) R'.tb
      have xx := x'.trans (x2.trans x3)
      cases ec : c s2 with
      | err _ _ => rw [ec] at q'; exact q'.elim
      | stuck => rw [ec] at q'; exact q'.elim
      | ok b s3 =>
        rw [ec, Bk.R.bind_ok] at q'
        intro b' F4 fp4 H4 R4 x4 eb
        cases eb
        obtain ⟨p4, f4, g4⟩ := keepP p2 f2 g2 x4 R3.tb
        cases b with
        | false =>
          rw [if_neg Bool.false_ne_true]
          rw [if_neg Bool.false_ne_true] at q'
          refine ⟨hlt, swipe s3 vs, F4, fp4, acc, accv, ?_, xx.trans x4, p4, ra.mono (x2.f.trans (x3.f.trans x4.f)), f4, g4, q'⟩
          have := R4.wipe hw
          rw [hσ] at this
          exact this
        | true =>
          rw [if_pos rfl]
          rw [if_pos rfl] at q'
          refine ⟨s3, F4, fp4, R4, ?_⟩
          cases em : mi1 s3 with
          | err _ _ => rw [em] at q'; exact q'.elim
          | stuck => rw [em] at q'; exact q'.elim
          | ok ds1 s5 =>
            rw [em, Bk.R.bind_ok] at q'
            intro J1 F6 fp6 H6 R6 x6 wk1
            obtain ⟨p6, f6, g6⟩ := keepP p4 f4 g4 x6 R4.tb
            have ra6 : Reps F6 acc accv := ra.mono (x2.f.trans (x3.f.trans (x4.f.trans x6.f)))
            have R6' := R6.wipe (vs := vs1) fun v hv => .inr (hw1 v hv)
            refine comp_core (K := K) (g := g1) (c := c1) (e := e) (vs := vs1) (js := js1) (ds := ds1) (σ := σ3) (F1 := F1) (H1 := H1) (fp1 := fp1) (Qd := St (i + 1)) hjs1 hw1 wk1 hp hG R6.lσ R6' ((xx.trans x4).trans x6) p6 ra6 f6 g6 ?_
            cases ei : compM g1 c1 e vs1 ds1 (swipe s5 vs1) acc with
            | err _ _ => rw [ei] at q'; exact q'.elim
            | stuck => rw [ei] at q'; exact q'.elim
            | ok acc' s7 =>
              rw [ei, Bk.R.bind_ok] at q'
              intro F8 fp8 H8 ws R8 x8 p8 ra8 f8 g8
              refine ⟨hlt, swipe s7 vs, F8, fp8, acc', ws, ?_, x8, p8, ra8, f8, g8, q'⟩
              have := R8.wipe hw
              have e2 : L2.wipe (L2.wipe σ3 vs1) vs = L2.wipe σ vs := by
                rw [← hσ]
                exact wipe_eq (wipe_length σ3 vs1) fun j hj => wipe_get σ3 vs1 j fun z => hj (h1 j z)
              rw [e2] at this
              exact this
  · have e : i = ds.length := by omega
    subst e
    rw [List.drop_length] at q'
    exact .inl ⟨w2 (Nat.le_refl _), q' F' fp' H accv R' x' hpl ra hF hf⟩
theorem comp2_read {K : PySem.W.Frag} {mi mi1 : MA} {g g1 : MG} {c c1 : MB} {e : M} {vs vs1 js js1 : List Nat} {σ : Sl} {H : Hp} {Q : VK} (hjs : ∀ j ∈ js, j ∈ vs) (hvs : ∀ v ∈ vs, Γ[v]? = some .fr) (hjs1 : ∀ j ∈ js1, j ∈ vs1) (h1 : ∀ v ∈ vs1, v ∈ vs) (h : tM K G W Γ .ol (mComp2 mi g c mi1 g1 c1 e vs vs1) σ H Q) :
    tLc2 (tI K G W Γ mi) (tG G Γ js g) (tMB K G W0 Γ c) (tI K G W0 Γ mi1) (tG G Γ js1 g1) (tMB K G W0 Γ c1) (tM K G W0 Γ .fr e) vs vs1 σ H Q := by
  obtain ⟨s, F, fp, R, q⟩ := h
  refine ⟨s, F, fp, R, pbind q fun ds s1 J F1 fp1 H1 R1 st1 (wk : Wk G Γ J F1 ds) q1 => fun p hp => ?_⟩
  exact comp2_go hjs hvs hjs1 h1 R1 wk hp (comp_end (K := K) (W := W) (g := g) (c := c) (e := e) (ds := ds) hvs R1 hp (Classical.byContradiction fun z => st1.there p z hp) q1)
theorem me_comp2 {ex : Expr} {mi mi1 : MA} {g g1 : MG} {c c1 : MB} {e : M} {vs vs1 js js1 : List Nat} (h : PE X ex (tLc2 (tI X.K G W Γ mi) (tG G Γ js g) (tMB X.K G W0 Γ c) (tI X.K G W0 Γ mi1) (tG G Γ js1 g1) (tMB X.K G W0 Γ c1) (tM X.K G W0 Γ .fr e) vs vs1)) (hjs : ∀ j ∈ js, j ∈ vs := by decide) (hvs : ∀ v ∈ vs, Γ[v]? = some .fr := by decide) (hjs1 : ∀ j ∈ js1, j ∈ vs1 := by decide) (h1 : ∀ v ∈ vs1, v ∈ vs := by decide) : ME X G W Γ ex .ol (mComp2 mi g c mi1 g1 c1 e vs vs1) :=
  peI h fun _ _ _ => comp2_read hjs hvs hjs1 h1
/-- fixing, told of readings -/
theorem fix_read {K : PySem.W.Frag} {m : M} {σ : Sl} {H : Hp} {Q : VK} (h : tM K G W Γ .fr m σ H Q) : tM K G W Γ .ol m σ H Q := by
  obtain ⟨s, F, fp, R, q⟩ := h
  refine ⟨s, F, fp, R, ?_⟩
  cases em : m s with
  | ok d s1 =>
    rw [em] at q
    rintro v F1 fp1 H1 R1 st1 ⟨B, ⟨p, ds, vs, rfl, rfl, e3, r, rfl⟩, tq⟩
    obtain ⟨t1, t2, t3, t4⟩ := tq p (List.mem_singleton.mpr rfl)
    exact q _ _ _ _ (R1.free t1 t2 t3 e3) (st1.free t1 t4 (R1.tb.no e3)) (AE.fr (.lst upd_same (r.mono fun a u e => by rw [upd_ne (ne_of_none e t1)]; exact e)))
  | err er s1 => rw [em] at q; exact q
  | stuck => rw [em] at q; exact q
theorem asgI {st : Stmt} {te te' : TE} {g : TG} (h : PS X st (tAsg te g)) (f : ∀ σ H Q, te' σ H Q → te σ H Q) : PS X st (tAsg te' g) := psI h fun Dn σ H q => f σ H _ q
end
end Bk

set_option Elab.async false
set_option linter.all false
set_option maxRecDepth 100000
set_option maxHeartbeats 4000000
namespace Bk
open PySem PySem.Spec PyProof.Rows L2
variable [Cls]
section
variable {X : Cx} {n : Nat} {G : Gr n} {W : WX} {Γ : List Ty} {rt : Ty}
/-! ### chains, truth, constants of the module -/
def mChain (f f' : D → D → Option D) (ma mb mc : M) : M := fun s => (ma s).bind fun d s1 => (mb s1).bind fun e s2 => match f d e with
  | some (.bl true) => (mc s2).bind fun z s3 => R.opt (f' e z) s3
  | some (.bl false) => .ok (.bl false) s2
  | _ => .stuck
theorem chain_go {K : PySem.W.Frag} {σ : Sl} {H : Hp} {Q : VK} {r r' : R2} {f f' : D → D → Option D} (hf : OpD r f) (hf' : OpD r' f') {ma mb mc : M} (h : tM K G W Γ .fr (mChain f f' ma mb mc) σ H Q) :
    tChain r r' (tM K G W Γ .fr ma) (tM K G W Γ .fr mb) (tM K G W Γ .fr mc) σ H Q := by
  obtain ⟨s, F, fp, R, q⟩ := h
  refine ⟨s, F, fp, R, pbind q fun d s1 x F1 fp1 H1 R1 st1 a1 q1 => ⟨s1, F1, fp1, R1, pbind q1 fun e s2 y F2 fp2 H2 R2 st2 a2 q2 => ?_⟩⟩
  split at q2
  · rename_i ef
    refine hf d e _ x y F2 H2 _ ef (a1.rep.mono st2.f) a2.rep fun w rw => ?_
    cases rw
    exact ⟨true, rfl, iteT ⟨s2, F2, fp2, R2, pbind q2 fun z s3 u F3 fp3 H3 R3 st3 a3 q3 => by
      obtain ⟨b, eb, q4⟩ := opt_post q3
      exact hf' e z b y u F3 H3 _ eb (a2.rep.mono st3.f) a3.rep fun w rw => pok q4 R3 (AE.fr rw)⟩⟩
  · rename_i ef
    refine hf d e _ x y F2 H2 _ ef (a1.rep.mono st2.f) a2.rep fun w rw => ?_
    cases rw
    exact ⟨false, rfl, iteF (pok q2 R2 (AE.fr (.bl false)))⟩
  · exact q2.elim
variable {a b c : Expr} {ma mb mc : M} {pos : Pos}
theorem me_chain {op op' : CmpOp} {r r' : R2} {f f' : D → D → Option D} (ho : OpR X (compareOp op) r) (ho' : OpR X (compareOp op') r') (hf : OpD r f) (hf' : OpD r' f') (ha : ME X G W Γ a .fr ma) (hb : ME X G W Γ b .fr mb) (hc : ME X G W Γ c .fr mc)
    (hm : lastMarks [op, op'] [b, c] = false := by with_unfolding_all rfl) : ME X G W Γ (.Compare a [op, op'] [b, c] pos) .fr (mChain f f' ma mb mc) := peI (pe_chain ho ho' ha hb hc hm) fun σ H Q h => chain_go hf hf' h
theorem mt_chain {op op' : CmpOp} {r r' : R2} {f f' : D → D → Option D} (ho : OpR X (compareOp op) r) (ho' : OpR X (compareOp op') r') (hf : OpD r f) (hf' : OpD r' f') (ha : ME X G W Γ a .fr ma) (hb : ME X G W Γ b .fr mb) (hc : ME X G W Γ c .fr mc)
    (hm : lastMarks [op, op'] [b, c] = false := by with_unfolding_all rfl) : MT X G W Γ (.Compare a [op, op'] [b, c] pos) (mTst (mChain f f' ma mb mc)) := ptI (pt_chain ho ho' ha hb hc hm) fun σ H Q h => chain_go hf hf' (tst h)
def dTru : D → Option Bool
  | .non => some false
  | .bl k => some k
  | .int i => some (i != 0)
  | .str x => if x.length ≤ sizeLine then some ((x.length : Int) != 0) else none
  | .tup ds => some (!ds.isEmpty)
  | .lst ds => some (!ds.isEmpty)
  | .dct _ _ => none
  | .obj _ _ _ => none
def mTru (m : M) : MB := fun s => (m s).bind fun d s1 => R.opt (dTru d) s1
theorem Reps.empty {F : Hp} {ds : List D} {vs : List V} (r : Reps F ds vs) : ds.isEmpty = vs.isEmpty := by cases r <;> rfl
theorem mt_tru (ha : ME X G W Γ a .fr ma) (he : ∀ whole, isTrue a X.env whole = (do let v ← whole; standAt a.pos; holding [v] (truthy v)) := by intro _; rfl) : MT X G W Γ a (mTru ma) :=
  ptI (pt_truth ha he) fun σ H Q ⟨s, F, fp, R, q⟩ => ⟨s, F, fp, R, pbind q fun d s1 x F1 fp1 H1 R1 st1 a1 q1 => by
    obtain ⟨k, ek, q2⟩ := opt_post q1
    refine ⟨k, ?_, pok q2 R1 rfl⟩
    cases a1.rep with
    | non => cases ek; rfl
    | bl b => cases ek; rfl
    | int i => cases ek; rfl
    | str x =>
      obtain ⟨hc, rfl⟩ := if_some (show (if x.length ≤ sizeLine then some ((x.length : Int) != 0) else none) = some k from ek)
      exact ⟨hc, rfl⟩
    | tup e r => cases ek; exact .inr (.inl ⟨_, R1.sqT e, by rw [r.empty]⟩)
    | lst e r => cases ek; exact .inl ⟨_, R1.sqL e, by rw [r.empty]⟩
    | dct _ _ _ => cases ek
    | obj _ _ _ => cases ek
    | emp _ => cases ek⟩
theorem me_globI {x : Str} {i : Int} (h : ∃ t, X.mg x = some (.int i t)) (hg : Gl X x) (hd : (x == ("__debug__" : Str)) = false := by decide) : ME X G W Γ (.Name x pos) .fr (mK (.int i)) := by
  obtain ⟨t, e⟩ := h
  exact me_k (pe_glob (v := .int i) hg e ⟨t, rfl⟩ hd) fun _ => .int i
end
/-! ### defs by their names -/
structure Cal (P : Program) (w : World) (K : PySem.W.Frag) (mg : Str → Option Value) (base : Heap) (k : Nat) (x : Str) (ts : List Ty) (t : Ty) (f : List D → R D) (dvs : List V) : Prop where
  ex : ∃ (a : Addr) (fd : FuncData) (ps : List Str) (ds : List Value), FnOk P w K mg base (L2.CX P w) k a fd ps (spM K ts t f) ∧ mg x = some (.ref a) ∧ PySem.W.keepIn K (.ref a) = true ∧ Binds K fd ps ds ∧ Vals dvs ds
section
variable {X : Cx} {n : Nat} {G : Gr n} {W : WX} {Γ : List Ty} {rt : Ty}
theorem me_callC {k : Nat} {x : Str} {e : Expr} {es : List Expr} {p pos : Pos} {f : List D → R D} {spa sp : Spc} {dflt : List D} {dvs : List V} {ms : MA} {ts : List Ty} {t : Ty} (C : Cal X.prog X.w X.K X.mg X.base k x ts t f dvs) (hr : Room k X.A) (tk : Takes X W) (hg : Gl X x) (ha : MAr X G W Γ (e :: es) spa ms) (hd : ∀ F, Reps F dflt dvs := by intro F; exact .nil)
    (hsp : sp = spa ++ List.replicate dflt.length none := by rfl) (hn : nd sp = true := by rfl) (hj : ∀ j ∈ sp.filterMap id, j < Γ.length := by decide) (hts : sp.map (tyAt Γ) = ts := by rfl)
    (hdb : (x == ("__debug__" : Str)) = false := by decide) (he : starEach (e :: es) X.env = (false, eval e X.env) :: starEach es X.env := by rfl) (hpl : (backTo pos (starEach es X.env)).any (·.1) = false := by rfl) :
    ME X G W Γ (.Call (.Name x p) (e :: es) [] pos) t (mCallF f sp dflt ms) := by
  obtain ⟨a, fd, ps, ds, F, hm, hk, hb, hv⟩ := C.ex
  exact me_call (pe_callSD F hr hg hm hk hb hv (fun σ => passAt tk σ) ha hdb he hpl) hd hsp hn hj hts
end
theorem Cal.of {P : Program} {w : World} {K : PySem.W.Frag} {mg : Str → Option Value} {base : Heap} {k : Nat} {x qual : Str} {params : Arguments} {body : List Stmt} {scope : Scope} {a : Addr} {fd : FuncData} {ps : List Str} {ts : List Ty} {t : Ty} {f : List D → R D}
    (F : FunD K x qual params body scope [] [] a fd) (h : FnOk P w K mg base (L2.CX P w) k a fd ps (spM K ts t f)) (hm : mg x = some (.ref a))
    (hb : ∀ (kV doc pm : Value) (an : Option Addr) (cdv ct : Value) (us : List Value), us.length = ps.length → bindArgs (PySem.W.fnOf x qual params body scope .none kV doc pm an cdv ct) ⟨us, []⟩ = pure (ps.zip us)) : Cal P w K mg base k x ts t f [] :=
  ⟨a, fd, ps, [], h, hm, F.kp, F.bindsN hb, .nil⟩
/-! ### the bag of draws -/
def unint : List D → Option (List Int)
  | [] => some []
  | .int i :: ds => (unint ds).map (i :: ·)
  | _ => none
theorem unint_map : ∀ ns : List Int, unint (ns.map D.int) = some ns
  | [] => rfl
  | i :: ns => by show (unint (ns.map D.int)).map (i :: ·) = _; rw [unint_map ns]; rfl
def bagD (ns : List Int) (k z : Int) : D := .tup [.lst (ns.map D.int), .int k, .int z]
/-- what a draw tells, and the bag behind it -/
def cellI (ns : List Int) (k : Int) : Int := if 0 < ns.length then (if ns.getD (k % ns.length).toNat 0 < 0 then 1 - ns.getD (k % ns.length).toNat 0 else ns.getD (k % ns.length).toNat 0) else 0
def seedI (ns : List Int) (k z : Int) : Int := (z * 48271 + cellI ns k * 9973 + k * 31 + 11) % 2147483647
def drawR (ns : List Int) (k z many : Int) : Int := if 1000000000000000000 ≤ cellI ns k then cellI ns k % many else seedI ns k z * 69621 % 2147483629 / 64 % many
def drawN (ns : List Int) (k z many : Int) : List Int := if 1000000000000000000 ≤ cellI ns k then ns.set (k % ns.length).toNat (cellI ns k / many) else ns
def drawK (ns : List Int) (k : Int) : Int := if 1000000000000000000 ≤ cellI ns k then k else k + 1
def drawZ (ns : List Int) (k z : Int) : Int := if 1000000000000000000 ≤ cellI ns k then z else seedI ns k z
def drawF : List D → R D
  | [.tup [.lst ds, .int k, .int z], .int many] => match unint ds with
    | some ns => if 0 < many ∧ many.natAbs.log2 < 9000 then .ok (.int (drawR ns k z many)) [some (bagD (drawN ns k z many) (drawK ns k) (drawZ ns k z)), none] else .stuck
    | none => .stuck
  | _ => .stuck
theorem drawF_eq {ns : List Int} {k z many : Int} (h : 0 < many) (h2 : many.natAbs.log2 < 9000) : drawF [bagD ns k z, .int many] = .ok (.int (drawR ns k z many)) [some (bagD (drawN ns k z many) (drawK ns k) (drawZ ns k z)), none] := by
  show (match unint (ns.map D.int) with
    | some ns => if 0 < many ∧ many.natAbs.log2 < 9000 then R.ok (D.int (drawR ns k z many)) [some (bagD (drawN ns k z many) (drawK ns k) (drawZ ns k z)), none] else .stuck
    | none => .stuck) = _
  rw [unint_map]
  exact if_pos ⟨h, h2⟩
theorem drawR_nonneg {ns : List Int} {k z many : Int} (h : 0 < many) : 0 ≤ drawR ns k z many := by
  unfold drawR
  split <;> exact Int.emod_nonneg _ (by omega)
theorem drawR_lt {ns : List Int} {k z many : Int} (h : 0 < many) : drawR ns k z many < many := by
  unfold drawR
  split <;> exact Int.emod_lt_of_pos _ h
theorem drawN_len {ns : List Int} {k z many : Int} : (drawN ns k z many).length = ns.length := by
  unfold drawN
  split
  · rw [List.length_set]
  · rfl
/-- a bag -/
def IsBag (d : D) : Prop := ∃ (ns : List Int) (k z : Int), d = bagD ns k z ∧ ns.length ≤ 63
theorem draw_any {d : D} {many : Int} (hb : IsBag d) (h : 0 < many) (h2 : many.natAbs.log2 < 9000) : ∃ (r : Int) (d' : D), drawF [d, .int many] = .ok (.int r) [some d', none] ∧ 0 ≤ r ∧ r < many ∧ IsBag d' := by
  obtain ⟨ns, k, z, rfl, hl⟩ := hb
  exact ⟨_, _, drawF_eq h h2, drawR_nonneg h, drawR_lt h, _, _, _, rfl, by rw [drawN_len]; exact hl⟩
def dAddI : D → D → Option D
  | .int i, .int j => some (.int (i + j))
  | _, _ => none
theorem od_addI : OpD (rI0 fun i j => .int (i + j)) dAddI := od_i0 (r := fun i j => .int (i + j)) (fun _ _ _ => .int _) (fun _ _ => rfl) (by intro d e z h; cases d <;> cases e <;> first | exact ⟨_, _, rfl, rfl⟩ | cases h)
section
variable {X : Cx} {n : Nat} {G : Gr n} {W : WX} {Γ : List Ty} {rt : Ty}
theorem ms_lcF {st : Stmt} {i : Nat} {mi : MA} {g : MG} {c : MB} {e : M} {vs js : List Nat} (h : PS X st (tAsg (tLc (tI X.K G W Γ mi) (tG G Γ js g) (tMB X.K G W0 Γ c) (tM X.K G W0 Γ .fr e) vs) (gName i))) (ht : Γ[i]? = some .fr) (hjs : ∀ j ∈ js, j ∈ vs := by decide) (hvs : ∀ v ∈ vs, Γ[v]? = some .fr := by decide) :
    MSt X G W Γ rt st (sSet i (mComp mi g c e vs)) := ms_set (asgI h fun _ _ _ q => comp_read hjs hvs (fix_read q)) ht
theorem ms_lcO {st : Stmt} {i : Nat} {mi : MA} {g : MG} {c : MB} {e : M} {vs js : List Nat} (h : PS X st (tAsg (tLc (tI X.K G W Γ mi) (tG G Γ js g) (tMB X.K G W0 Γ c) (tM X.K G W0 Γ .fr e) vs) (gName i))) (ht : Γ[i]? = some .ol) (hn : n ≤ i) (hjs : ∀ j ∈ js, j ∈ vs := by decide) (hvs : ∀ v ∈ vs, Γ[v]? = some .fr := by decide) :
    MSt X G W Γ rt st (sSet i (mComp mi g c e vs)) := ms_setO (asgI h fun _ _ _ q => comp_read hjs hvs q) ht hn
theorem ms_lc2F {st : Stmt} {i : Nat} {mi mi1 : MA} {g g1 : MG} {c c1 : MB} {e : M} {vs vs1 js js1 : List Nat} (h : PS X st (tAsg (tLc2 (tI X.K G W Γ mi) (tG G Γ js g) (tMB X.K G W0 Γ c) (tI X.K G W0 Γ mi1) (tG G Γ js1 g1) (tMB X.K G W0 Γ c1) (tM X.K G W0 Γ .fr e) vs vs1) (gName i))) (ht : Γ[i]? = some .fr) (hjs : ∀ j ∈ js, j ∈ vs := by decide) (hvs : ∀ v ∈ vs, Γ[v]? = some .fr := by decide) (hjs1 : ∀ j ∈ js1, j ∈ vs1 := by decide) (h1 : ∀ v ∈ vs1, v ∈ vs := by decide) :
    MSt X G W Γ rt st (sSet i (mComp2 mi g c mi1 g1 c1 e vs vs1)) := ms_set (asgI h fun _ _ _ q => comp2_read hjs hvs hjs1 h1 (fix_read q)) ht
/-- a def of which nothing is said -/
theorem fn_stuck {P : Program} {w : World} {K : PySem.W.Frag} {mg : Str → Option Value} {base : Heap} {k : Nat} {a : Addr} {fd : FuncData} {ps : List Str} {ts : List Ty} {t : Ty} : FnOk P w K mg base (L2.CX P w) k a fd ps (spM K ts t fun _ => .stuck) :=
  ⟨fun vs H Q E ⟨_, _, _, _, _, h⟩ => h.elim, fun A outer s H args us vs Q E _ _ _ _ ⟨_, _, _, _, _, h⟩ => h.elim⟩
/-- what the top has written -/
structure Ctx (fa : List He.Fa) (fn : List He.DefD) (K : PySem.W.Frag) (mg : Str → Option Value) : Prop where
  h : ∃ h : Heap, K.In h ∧ h.Ns mainGlobals mg
  c : He.SaysD fa fn K
theorem Ctx.glo {fa : List He.Fa} {fn : List He.DefD} {K : PySem.W.Frag} {mg : Str → Option Value} (c : Ctx fa fn K mg) (i : Nat) {x : Str} (h : fa[i]? = some (.glo x) := by rfl) : mg x = some (.ref (He.ga K x)) := by
  obtain ⟨hp, X, Gm⟩ := c.h
  exact He.glo_ok X Gm (c.c.fact i h)
theorem Ctx.free {fa : List He.Fa} {fn : List He.DefD} {K : PySem.W.Frag} {mg : Str → Option Value} (c : Ctx fa fn K mg) (i : Nat) {x : Str} (h : fa[i]? = some (.free x) := by rfl) : mg x = none := by
  obtain ⟨hp, X, Gm⟩ := c.h
  exact He.free_ok X Gm (c.c.fact i h)
theorem Ctx.int {fa : List He.Fa} {fn : List He.DefD} {K : PySem.W.Frag} {mg : Str → Option Value} (c : Ctx fa fn K mg) (i : Nat) {x : Str} {z : Int} (h : fa[i]? = some (.int x z) := by rfl) : ∃ t, mg x = some (.int z t) := by
  obtain ⟨hp, X, Gm⟩ := c.h
  exact He.int_ok X Gm (c.c.fact i h)
abbrev G0 : Gr 0 := ⟨[], fun _ => none, fun _ => [], fun _ => none, L0, L0⟩
/-- what a law's body behind its bag does -/
theorem law_rest {K : PySem.W.Frag} {k : Nat} {m : MS} {ns : List Int} {H : Hp} {b c : Addr} {a : V} {Q : VK} (hb : H b = some (.lst [.ref c, .int 0, .int 7])) (hc : H c = some (.lst (ns.map V.int))) (hbc : b ≠ c) (hl : ns.length ≤ 63) (hΓl : Γ.length = k + 2) (hΓ : Γ[1]? = some .bag)
    (hm : ∃ s', m (none :: some (bagD ns 0 7) :: List.replicate k none) = .rt (.bl true) s') (hQ : ∀ H', Q (.bl true) H') (htb : LamX.Tabs Cls.tabs H) :
    tS K G0 W0 Γ .fr m { nx := fun _ H' => Q .non H', rt := Q } (some a :: some (.ref b) :: List.replicate k none) H := by
  refine ⟨none :: some (bagD ns 0 7) :: List.replicate k none, fun _ => none, fun i => if i = 1 then [b, c] else [], ?_, ?_⟩
  · refine ⟨by simp; omega, by simp; omega, fun i t d ht hs => ?_, fun i j x hi hj => ?_, fun _ _ _ => rfl, fun i x h => ?_, fun x o e => (by cases e), fun x ob e => (by cases e), ⟨fun _ _ e => (by cases e), fun _ _ e => (by cases e), fun _ _ _ => .inr rfl, fun _ _ _ _ => rfl, fun _ h => absurd rfl h, fun _ h => absurd rfl h.ne, fun _ => ⟨htb, fun _ _ => rfl⟩⟩, fun i h => absurd h (Nat.not_lt_zero i), fun _ _ _ => .inl rfl, ⟨htb, fun _ _ => rfl⟩⟩
    · match i, hs with
      | 0, hs => simp at hs
      | 1, hs =>
        rw [hΓ] at ht
        cases ht
        simp at hs
        subst hs
        exact ⟨.ref b, rfl, b, c, ns, 0, 7, rfl, rfl, hb, hc, hl, if_pos rfl⟩
      | i + 2, hs =>
        have hs : (List.replicate k (none : Option D))[i]? = some (some d) := by simpa using hs
        rw [List.getElem?_replicate] at hs
        split at hs <;> cases hs
    · have hi : x ∈ (if i = 1 then [b, c] else []) := hi
      have hj : x ∈ (if j = 1 then [b, c] else []) := hj
      by_cases z1 : i = 1
      · by_cases z2 : j = 1
        · rw [z1, z2]
        · rw [if_neg z2] at hj; cases hj
      · rw [if_neg z1] at hi; cases hi
    · have h : x ∈ (if i = 1 then [b, c] else []) := h
      by_cases z1 : i = 1
      · rw [if_pos z1] at h
        rcases List.mem_cons.mp h with q | q
        · rw [q]; exact ⟨_, hb, rfl⟩
        · rw [List.mem_singleton.mp q]; exact ⟨_, hc, rfl⟩
      · rw [if_neg z1] at h; cases h
  · obtain ⟨s', e⟩ := hm
    rw [e]
    rintro v σ' F' fp' H' R x ⟨B, ⟨r, _⟩, _⟩
    cases r
    exact hQ H'
end
end Bk

set_option Elab.async false
set_option linter.all false
set_option maxRecDepth 100000
set_option maxHeartbeats 4000000
namespace Bk
open PySem PySem.Spec PyProof.Rows L2
variable [Cls]
theorem draw_pre {K : PySem.W.Frag} {vs : List V} {H : Hp} {Q : VK} {E : XK} (h : spM K [.bag, .fr] .fr drawF vs H Q E) :
    ∃ (b c : Addr) (ns : List Int) (k z many : Int), vs = [.ref b, .int many] ∧ b ≠ c ∧ H b = some (.lst [.ref c, .int k, .int z]) ∧ H c = some (.lst (ns.map V.int)) ∧ 0 < many ∧ many.natAbs.log2 < 9000 ∧ ns.length ≤ 63 ∧
      ∀ H' : Hp, H' b = some (.lst [.ref c, .int (drawK ns k), .int (drawZ ns k z)]) → H' c = some (.lst ((drawN ns k z many).map V.int)) → (∀ a, a ≠ b → a ≠ c → H' a = H a) → Q (.int (drawR ns k z many)) H' := by
  obtain ⟨ds, F, fp, L, p, q⟩ := h
  match ds, p.ld, vs, p.lv with
  | [d, e], _, [v, w], _ =>
    have a0 := p.slot 0 _ _ _ rfl rfl rfl
    have a1 := p.slot 1 _ _ _ rfl rfl rfl
    obtain ⟨b, c, ns, k, z, rfl, rfl, hb, hc, hl, hB⟩ := a0
    obtain ⟨r1, _⟩ := a1
    cases r1 with
    | int many =>
      have q : PostF K L [.bag, .fr] .fr [.ref b, .int many] F fp H Q E (drawF [bagD ns k z, .int many]) := q
      by_cases hm : 0 < many ∧ many.natAbs.log2 < 9000
      · rw [drawF_eq hm.1 hm.2] at q
        have hbc : b ≠ c := fun e => by
          rw [e, hc] at hb
          cases ns with
          | nil => cases hb
          | cons i r => cases hb
        refine ⟨b, c, ns, k, z, many, rfl, hbc, hb, hc, hm.1, hm.2, hl, fun H' h1 h2 h3 => ?_⟩
        have hnb : b ∈ fp 0 := by rw [hB]; simp
        have hnc : c ∈ fp 0 := by rw [hB]; simp
        have th : ∀ a, H a ≠ none → H' a ≠ none := fun a ha => by
          by_cases z1 : a = b
          · rw [z1, h1]; exact Option.some_ne_none _
          · by_cases z2 : a = c
            · rw [z2, h2]; exact Option.some_ne_none _
            · rw [h3 a z1 z2]; exact ha
        have tn : ∀ a, Nt H a → Nt H' a := fun a ha => by
          by_cases z1 : a = b
          · rw [z1]; exact ⟨_, h1, rfl⟩
          · by_cases z2 : a = c
            · rw [z2]; exact ⟨_, h2, rfl⟩
            · obtain ⟨o, e1, e2⟩ := ha
              exact ⟨o, by rw [h3 a z1 z2]; exact e1, e2⟩
        refine q (.int _) F (fpCut 2 fp) H' [] ⟨fun i t d v ht he hv => ?_, fun i j a hi hj => p.dis i j a (fpCut_mem hi).2 (fpCut_mem hj).2, fun i a h => p.nF i a (fpCut_mem h).2, fun i a h => tn a (p.oh i a (fpCut_mem h).2), fun a o ea => ?_, fun i a h => .inl (fpCut_mem h).2, fun i a h => (fpCut_mem h).1, ⟨Same.refl F, fun a o ea _ hn => ?_, fun i a h => .inl ⟨i, (fpCut_mem h).2⟩, fun _ _ e _ => e, th, tn, fun t => t.chg fun a o ea q => by
          rw [h3 a (fun z => by rw [z, hb] at ea; cases ea; cases q) (fun z => by rw [z, hc] at ea; cases ea; cases q)]
          exact ea⟩⟩ ⟨.int _, rfl⟩ fun _ h => by cases h
        · match i, ht, he, hv with
          | 0, ht, he, hv =>
            cases ht
            cases he
            cases hv
            exact ⟨b, c, _, _, _, rfl, rfl, h1, h2, by rw [drawN_len]; exact hl, hB⟩
          | 1, ht, he, hv => cases he
          | i + 2, ht, he, hv => simp at ht
        · rw [h3 a (fun z => by rw [z, p.nF 0 b hnb] at ea; cases ea) (fun z => by rw [z, p.nF 0 c hnc] at ea; cases ea)]
          exact p.ext a o ea
        · rw [h3 a (fun z => hn 0 (by rw [z]; exact hnb)) (fun z => hn 0 (by rw [z]; exact hnc))]
          exact ea
      · unfold drawF bagD at q
        simp only [unint_map] at q
        rw [if_neg hm] at q
        exact q.elim
    | _ => exact q.elim
theorem ix_mod {ns : List Int} {k : Int} {j : Nat} (ej : k % (ns.length : Int) = (j : Int)) (hj : j < ns.length) : ixN (ns.map V.int).length (k % ((ns.map V.int).length : Int)) = some j := by
  have hl : (ns.map V.int).length = ns.length := List.length_map ..
  rw [hl, ej]
  unfold ixN
  rw [if_pos (by omega), if_pos (by omega)]
  rfl
theorem vq {Q : V → Hp → Prop} {x y : V} {H : Hp} (e : x = y) (h : Q y H) : Q x H := e ▸ h
theorem len_ints (ns : List Int) : (ns.map V.int).length = ns.length := List.length_map ..
theorem mod_ix {ns : List Int} {k : Int} (h : 0 < ns.length) : ∃ j : Nat, k % (ns.length : Int) = (j : Int) ∧ j < ns.length ∧ (k % (ns.length : Int)).toNat = j := by
  have h0 : (0 : Int) ≤ k % (ns.length : Int) := Int.emod_nonneg _ (by omega)
  have h1 : k % (ns.length : Int) < ns.length := Int.emod_lt_of_pos _ (by omega)
  exact ⟨(k % (ns.length : Int)).toNat, by omega, by omega, rfl⟩
theorem at_ints {ns : List Int} {j : Nat} {z : Int} (e : z = (j : Int)) (h : j < ns.length) : atI (ns.map V.int) z = some (.int (ns.getD j 0)) := by
  refine at_of e ?_
  rw [List.getElem?_map, List.getElem?_eq_getElem h]
  show some (V.int ns[j]) = _
  rw [List.getD_eq_getElem?_getD, List.getElem?_eq_getElem h]
  rfl
theorem cell_pos {ns : List Int} {k : Int} (h : 0 < ns.length) (h2 : ns.getD (k % ns.length).toNat 0 < 0) : cellI ns k = 1 - ns.getD (k % ns.length).toNat 0 := by unfold cellI; rw [if_pos h, if_pos h2]
theorem cell_nn {ns : List Int} {k : Int} (h : 0 < ns.length) (h2 : ¬ ns.getD (k % ns.length).toNat 0 < 0) : cellI ns k = ns.getD (k % ns.length).toNat 0 := by unfold cellI; rw [if_pos h, if_neg h2]
theorem cell_no {ns : List Int} {k : Int} (h : ¬ 0 < ns.length) : cellI ns k = 0 := by unfold cellI; rw [if_neg h]
/-- the bag's promise -/
def spBag (K : PySem.W.Frag) : Sp := fun vs H Q _ => ∃ (a : Addr) (ns : List Int), vs = [.ref a] ∧ SqL K H a (ns.map V.int) ∧ ns.length ≤ 63 ∧
  ∀ b c H', H' b = some (.lst [.ref c, .int 0, .int 7]) → H' c = some (.lst (ns.map V.int)) → b ≠ c → (∀ a o, H a = some o → H' a = some o) → Q (.ref b) H'
def spLaw (K : PySem.W.Frag) : Sp := fun vs H Q _ => ∃ (a : Addr) (ns : List Int), vs = [.ref a] ∧ SqL K H a (ns.map V.int) ∧ ns.length ≤ 63 ∧ LamX.Tabs Cls.tabs H ∧ ∀ H', Q (.bl true) H'
theorem cut_all (xs : List V) (h : xs.length ≤ 63) : cutV xs none (some 63) = xs := by
  unfold cutV
  have e1 : HT.sIx xs.length 0 none = 0 := rfl
  have e2 : HT.sIx xs.length xs.length (some 63) = xs.length := (HT.sIx_nat xs.length xs.length 63).trans (by omega)
  rw [e1, e2, List.drop_zero, Nat.sub_zero, List.take_length]
end Bk

set_option Elab.async false
set_option linter.all false
set_option maxRecDepth 100000
set_option maxHeartbeats 4000000
/-! own exceptions over any built-in base, whose __init__ stores its arguments -/
namespace Bx
open PySem PySem.W PySem.Calls PyProof.Rows PySem.HandSPX
section
open Builtin Builtin.ObjectAttr
variable {prog : Program} {w : World} {A : Around} {R : Result → Shared → Prop} {hq : Heap} {gs : Array GenState} {dr : Drawn} {tc : Nat} {os : OsState}
theorem put_first {B : String} {bmB : List Value} {K : W.Frag} {name : Str} {tk : Tok} {v : Value} {x C : Addr} {fv : Array Value} {cd : ClassData} (SF : StoreFacts B bmB "object.__setattr__" "object")
    (X : K.In hq) (hx : hq.get? x = some { cls := .ref C, data := .fields fv }) (over : W.excOver K C bmB = true) (tak : W.takerIn K C name = some none) (hcd : W.clsIn K C = some cd) (hh : cd.hasDict = true)
    (k : ∀ h' tk' dx, (∀ b o, b ≠ x → hq.get? b = some o → h'.get? b = some o) → hq.objs.size ≤ dx → dx ≠ x → h'.get? x = some { cls := .ref C, dict := some dx, data := .fields fv } →
      h'.Ns1 dx (fun y => if y = name then some v else none) → R (.ok (.ret .none)) ⟨h', gs, dr, tk', os⟩) :
    codeAny (model prog w) A (.call (.builtin "object.__setattr__") ⟨[.ref x, .str name tk, v], []⟩) R ⟨hq, gs, dr, tc, os⟩ := by
  refine osa_openX (od := none) (s := ⟨hq, gs, dr, tc, os⟩) SF X ⟨hx, rfl, rfl, trivial⟩ over tak fun b => ?_
  have xs : x ≠ hq.objs.size := Nat.ne_of_lt (Heap.lt_size hx)
  have lcls : W.Looks (model prog w) hq (classData C) cd := W.looks_clsIn X hcd
  show wpAny _ _ (storeInOwnDict (.ref x) (.ref C) (.str name tk) name v b) _ _ _
  obtain ⟨nm, bs, mro, ns, qn, hd, sn, sb, ab, col, del⟩ := cd
  have hh : hd = true := hh
  subst hh
  unfold storeInOwnDict ownDictForStores
  repeat (first
    | with_reducible refine store_in_new ?_ ?_
    | with_reducible refine wpAny_loadPart_at hx ?_
    | with_reducible refine lcls.at ?_
    | wp_step)
  · exact ⟨_, #[], _, (Heap.get?_update_ne _ _ _ _ xs.symm).trans (Heap.get?_push_at rfl rfl), rfl, fun e he => absurd he (by simp), fun _ => rfl⟩
  · intro h' tk' hn' hs
    have hx1 : (hq.push { cls := .type "dict", data := .dict #[] }).get? x = some { cls := .ref C, data := .fields fv } := Heap.get?_push_of_some _ hx
    refine k h' tk' hq.objs.size (fun b o hb ho => ?_) (Nat.le_refl _) xs.symm ?_ hn'
    · have y := Nat.ne_of_lt (Heap.lt_size ho)
      exact (hs.2 b y).trans ((Heap.get?_update_ne _ _ _ _ hb).trans (Heap.get?_push_of_some _ ho))
    · exact (hs.2 x xs).trans
        (Heap.get?_update_self _ hx1 rfl)
theorem put_more {B : String} {bmB : List Value} {K : W.Frag} {name : Str} {tk : Tok} {v : Value} {x C dx : Addr} {fv : Array Value} {cd : ClassData} {m0 : Str → Option Value} {nl : List Str} (SF : StoreFacts B bmB "object.__setattr__" "object")
    (X : K.In hq) (hx : hq.get? x = some { cls := .ref C, dict := some dx, data := .fields fv }) (hns : hq.Ns1 dx m0) (hw : Within m0 nl) (hz : nl.length ≤ 1000) (over : W.excOver K C bmB = true) (tak : W.takerIn K C name = some none) (hcd : W.clsIn K C = some cd) (hh : cd.hasDict = true)
    (k : ∀ h' tk', (∀ b o, b ≠ dx → hq.get? b = some o → h'.get? b = some o) → h'.Ns1 dx (fun y => if y = name then some v else m0 y) → R (.ok (.ret .none)) ⟨h', gs, dr, tk', os⟩) :
    codeAny (model prog w) A (.call (.builtin "object.__setattr__") ⟨[.ref x, .str name tk, v], []⟩) R ⟨hq, gs, dr, tc, os⟩ := by
  obtain ⟨oD, esD, epD, hoD, hdD, _⟩ := hns.count hw
  refine osa_openX (od := some oD) (s := ⟨hq, gs, dr, tc, os⟩) SF X ⟨hx, rfl, rfl, hoD⟩ over tak fun b => ?_
  have lcls : W.Looks (model prog w) hq (classData C) cd := W.looks_clsIn X hcd
  show wpAny _ _ (storeInOwnDict (.ref x) (.ref C) (.str name tk) name v b) _ _ _
  obtain ⟨nm, bs, mro, ns, qn, hd, sn, sb, ab, col, del⟩ := cd
  have hh : hd = true := hh
  subst hh
  unfold storeInOwnDict ownDictForStores
  repeat (first
    | with_reducible refine PySem.OEX.store_in_old hns hw hz ?_
    | with_reducible refine wpAny_loadPart_at hx ?_
    | with_reducible refine lcls.at ?_
    | wp_step)
  intro h' tk' hn' hs
  exact k h' tk' (fun b o hb ho => (hs.2 b hb).trans ho) hn'
end
end Bx
namespace Bk
open PySem PySem.Spec PyProof.Rows L2
variable [Cls]
/-- an own exception class at C whose instances take fields -/
structure XCls (K : PySem.W.Frag) (C : Addr) : Prop where
  cls : ∃ (B newId initId : String) (bmB : List Value), ExcBaseFacts B newId initId bmB ∧ StoreFacts B bmB "object.__setattr__" "object" ∧ PySem.W.excInitIn K C bmB newId = true ∧ PySem.W.excOver K C bmB = true
  dct : PySem.W.hasDictIn K C = true
  sa : PySem.W.findIn K (.ref C) "__setattr__" = some (some (.builtin "object.__setattr__"))
  exC : PySem.W.subIn K (.ref C) (.type "BaseException") = some true
  tyC : PySem.W.typeIn K (.ref C) = some (.type "type")
  kC : PySem.W.keepIn K (.ref C) = true
section
variable {X : Cx} {pins : List (Addr × Obj)} {σ : L2.St} {H : Hp} {s : Shared} {a C dx : Addr} {f : Str} {y : V} {u : Value} {fs : List (Str × V)} {Q : Unit → Shared → Prop} {E : Value → Shared → Prop} {A : Around}
theorem taker_no {K : PySem.W.Frag} (h : PySem.W.findIn K (.ref C) f = some none) : PySem.W.takerIn K C f = some none := NoAttr.taker h
theorem dict_cls {K : PySem.W.Frag} (h : PySem.W.hasDictIn K C = true) : ∃ cd, PySem.W.clsIn K C = some cd ∧ cd.hasDict = true := PySem.W.any_some h
/-- self.f = y, the first field -/
theorem x_first (T : XCls X.K C) (I : Inv X pins σ H s) (e : H a = some (exo a C none)) (no : PySem.W.findIn X.K (.ref C) f = some none) (ry : RelV y u)
    (k : ∀ dx s', H dx = none → dx ≠ a → Inv X pins σ (upd (upd H dx (exd dx [(f, y)])) a (exo a C (some dx))) s' → Q () s') : wpAny (model X.prog X.w) A (setAttr (.ref a) f u) Q E s := by
  obtain ⟨B, newId, initId, bmB, _, SF, _, over⟩ := T.cls
  obtain ⟨cd, hcd, hdd⟩ := dict_cls T.dct
  obtain ⟨t1, ho⟩ := exo_at I.hok e
  obtain ⟨hq, gs, dr, tc, os⟩ := s
  refine PySem.W.set_plain I.kIn (ox := { cls := .ref C, dict := none, data := .fields #[.ref t1, .none, .none, .none, .bool false, .none] }) (od := none) ⟨ho, rfl, rfl, trivial⟩ T.sa ?_
  refine Bx.put_first SF I.kIn ho over (taker_no no) hcd hdd fun h' tk' dx kp dn dne hx hn => ?_
  have free : H dx = none := I.hok.fresh dn
  have low : ∀ {b : Addr} {o : Obj}, hq.get? b = some o → b ≠ dx := fun {b o} z => Nat.ne_of_lt (Nat.lt_of_lt_of_le (Heap.lt_size z) dn)
  have off : ∀ {b : Addr}, H b = none → b ≠ a := fun {b} z w => by
    rw [w, e] at z
    cases z
  have step : Un X.fs [] H (upd (upd H dx (exd dx [(f, y)])) a (exo a C (some dx))) hq h' := by
    refine ⟨fun b o z z2 _ _ => kp b o (off z2) z, fun b o z z2 _ _ => ⟨o.slots, kp b o (off z2) z⟩, fun b o z z2 _ => ?_, fun b o z _ => ?_, fun b xs z => ?_, fun b o v z => ?_, fun b ps z => ⟨#[], ?_⟩⟩
    · rw [upd_ne (off z2), upd_ne (low z)]
      exact z2
    · by_cases hb : b = a
      · exact ⟨_, by rw [hb]; exact hx⟩
      · exact ⟨o, kp b o hb z⟩
    · rw [upd_ne (at_ne e z exo_tup), upd_ne (ne_of_none z free)]
      exact z
    · rw [upd_ne (at_ne e z exo_frz), upd_ne (ne_of_none z free)]
      exact z
    · rw [upd_ne (at_ne e z exo_tbl), upd_ne (ne_of_none z free), z]
      simp
  refine k dx _ free dne (I.un (t' := tk') step fun b o z => ?_)
  by_cases hb : b = a
  · rw [hb, upd_same] at z
    cases z
    rw [hb]
    exact exo_ok hx
  · rw [upd_ne hb] at z
    by_cases hd : b = dx
    · rw [hd, upd_same] at z
      cases z
      rw [hd]
      exact exd_ok hn (relO_put (fs := []) ry fun _ => trivial)
    · rw [upd_ne hd] at z
      refine (I.hok b o z).stay (fun c v hc z2 => kp c v ?_ z2) (fun c hc => ?_) (fun c xs hc => ?_)
      · rcases hc with hc | hc
        · rw [hc]
          exact hb
        · exact at_ne e hc exo_own
      · rw [upd_ne (at_ne e hc exo_own), upd_ne (ne_of_none hc free)]
        exact hc
      · rw [upd_ne (at_ne e hc exo_tup), upd_ne (ne_of_none hc free)]
        exact hc
/-- self.f = y, a further field -/
theorem x_more (T : XCls X.K C) (I : Inv X pins σ H s) (e : H a = some (exo a C (some dx))) (ed : H dx = some (exd dx fs)) (hl : fs.length ≤ 900) (no : PySem.W.findIn X.K (.ref C) f = some none) (ry : RelV y u)
    (k : ∀ s', Inv X pins σ (upd H dx (exd dx ((f, y) :: fs))) s' → Q () s') : wpAny (model X.prog X.w) A (setAttr (.ref a) f u) Q E s := by
  obtain ⟨B, newId, initId, bmB, _, SF, _, over⟩ := T.cls
  obtain ⟨cd, hcd, hdd⟩ := dict_cls T.dct
  obtain ⟨t1, ho⟩ := exo_at I.hok e
  obtain ⟨mA, hns, rel⟩ := exd_at I.hok ed
  have hw := within_of rel
  obtain ⟨hq, gs, dr, tc, os⟩ := s
  obtain ⟨oD, _, _, hoD, _, _⟩ := hns.count hw
  refine PySem.W.set_plain I.kIn (ox := { cls := .ref C, dict := some dx, data := .fields #[.ref t1, .none, .none, .none, .bool false, .none] }) (od := some oD) ⟨ho, rfl, rfl, hoD⟩ T.sa ?_
  refine Bx.put_more SF I.kIn ho hns hw (by rw [List.length_map]; omega) over (taker_no no) hcd hdd fun h' tk' kp hn => ?_
  have there : ∃ o, h'.get? dx = some o := by
    obtain ⟨o, _, _, z, _⟩ := hn
    exact ⟨o, z⟩
  have J := I.write (t' := tk') (x := dx) (e := dx) (o := exd dx ((f, y) :: fs)) (by rw [ed]; trivial) (.inl rfl) kp there (exd_ok hn (relO_put ry rel))
  exact k _ J
end
/-- self.f = e -/
def tXst (K : PySem.W.Frag) (f : Str) (to te : TE) : TS := fun Dn σ H => te σ H fun y H1 => to σ H1 fun x H2 => ∃ a C : Addr, x = .ref a ∧ XCls K C ∧ PySem.W.findIn K (.ref C) f = some none ∧
  ((H2 a = some (exo a C none) ∧ ∀ dx, H2 dx = none → dx ≠ a → Dn.nx σ (upd (upd H2 dx (exd dx [(f, y)])) a (exo a C (some dx)))) ∨
    ∃ (dx : Addr) (fs : List (Str × V)), H2 a = some (exo a C (some dx)) ∧ H2 dx = some (exd dx fs) ∧ fs.length ≤ 900 ∧ Dn.nx σ (upd H2 dx (exd dx ((f, y) :: fs))))
theorem ps_xst {X : Cx} {o e : Expr} {to te : TE} {f : Str} {p' pos : Pos} (ho : PE X o to) (he : PE X e te) (hs : swapsWith e (some (.Attribute o f p')) pos.line X.env = pure false := by rfl) : PS X (.Assign [.Attribute o f p'] e pos) (tXst X.K f to te) := by
  refine ⟨fun pins s σ H Dn I h => plainObj_wpAny_Assign_Attribute ?_ hs⟩
  refine thn (he.run pins s σ H _ I h) fun v s1 ⟨y, H1, I1, r1, q1⟩ => ?_
  refine thn (ho.run pins s1 σ H1 _ I1 q1) fun u s2 ⟨x, H2, I2, r2, a, C, ex, T, no, q⟩ => ?_
  subst ex
  obtain rfl : u = Value.ref a := r2
  rcases q with ⟨ea, q⟩ | ⟨dx, fs, ea, ed, hl, q⟩
  · exact x_first T I2 ea no r1 fun dx s' z ne J => ⟨σ, _, J, q dx z ne⟩
  · exact x_more T I2 ea ed hl no r1 fun s' J => ⟨σ, _, J, q⟩
/-- the promise of such an __init__: fields ns, the last one first -/
def spI (C : Addr) (ns : List Str) : Sp := fun vs H Q _ => ∃ (a : Addr) (ws : List V), vs = .ref a :: ws ∧ ws.length = ns.length ∧ H a = some (exo a C none) ∧
  ∀ d H', H d = none → d ≠ a → H' a = some (exo a C (some d)) → H' d = some (exd d (ns.zip ws).reverse) → (∀ b, b ≠ a → b ≠ d → H' b = H b) → Q .non H'
theorem spI_one {K : PySem.W.Frag} {C : Addr} {f : Str} {vs : List V} {H : Hp} {Q : VK} {E : XK} {N : List Str} (T : XCls K C) (no : PySem.W.findIn K (.ref C) f = some none) (h : spI C [f] vs H Q E) :
    tXst K f (tVar 0) (tVar 1) { nx := fun _ H' => Q .non H', rt := Q } (L2.start N vs) H := by
  obtain ⟨a, ws, rfl, hl, ha, k⟩ := h
  match ws, hl with
  | [y], _ =>
    exact ⟨y, rfl, _, rfl, a, C, rfl, T, no, .inl ⟨ha, fun dx hd ne => k dx _ hd ne upd_same (by rw [upd_ne ne, upd_same]; rfl) fun b h1 h2 => by rw [upd_ne h1, upd_ne h2]⟩⟩
theorem spI_two {K : PySem.W.Frag} {C : Addr} {f g : Str} {vs : List V} {H : Hp} {Q : VK} {E : XK} {N : List Str} (T : XCls K C) (no : PySem.W.findIn K (.ref C) f = some none) (no2 : PySem.W.findIn K (.ref C) g = some none) (h : spI C [f, g] vs H Q E) :
    tSeq (tXst K f (tVar 0) (tVar 1)) (tXst K g (tVar 0) (tVar 2)) { nx := fun _ H' => Q .non H', rt := Q } (L2.start N vs) H := by
  obtain ⟨a, ws, rfl, hl, ha, k⟩ := h
  match ws, hl with
  | [y, z], _ =>
    refine ⟨y, rfl, _, rfl, a, C, rfl, T, no, .inl ⟨ha, fun dx hd ne => ?_⟩⟩
    refine ⟨z, rfl, _, rfl, a, C, rfl, T, no2, .inr ⟨dx, [(f, y)], upd_same, by rw [upd_ne ne, upd_same], by show 1 ≤ 900; decide, ?_⟩⟩
    exact k dx _ hd ne (by rw [upd_ne ne.symm, upd_same]) (by rw [upd_same]; rfl) fun b h1 h2 => by rw [upd_ne h2, upd_ne h1, upd_ne h2]
/-- C(e, ..) -/
def tMkX (C : Addr) (ns : List Str) (ta : TA) : L2.St → Hp → XK → Prop := fun σ H Q => ta σ H fun vs H1 => vs.length = ns.length ∧ ns.length ≤ 900 ∧ ∀ d, H1 d = none → Q (.ref C) (some d) (upd H1 d (.xd (ns.zip vs).reverse))
theorem pmk_x {X : Cx} {e : Expr} {es : List Expr} {ta : TA} {p pos : Pos} {CX : CXT} {x : Str} {C fI : Addr} {k : Nat} {fd : FuncData} {ps ns : List Str} (T : XCls X.K C) (iC : PySem.W.findIn X.K (.ref C) "__init__" = some (some (.ref fI))) (tI : PySem.W.typeIn X.K (.ref fI) = some (.type "function"))
    (F1 : FnOk X.prog X.w X.K X.mg X.base CX k fI fd ps (spI C ns)) (hr : Room (k + 1) X.A) (hb : Binds X.K fd ps []) (hx : Passes CX X (fun _ _ _ => False)) (hg : Gl X x) (hm : X.mg x = some (.ref C)) (ha : PA X (e :: es) ta)
    (hdb : (x == ("__debug__" : Str)) = false := by decide) (he : starEach (e :: es) X.env = (false, eval e X.env) :: starEach es X.env := by rfl) (hpl : (backTo pos (starEach es X.env)).any (·.1) = false := by rfl) :
    PMk X (.Call (.Name x p) (e :: es) [] pos) (tMkX C ns ta) := by
  intro pins s σ H Q I h
  obtain ⟨B, newId, initId, bmB, FB, SF, ini, over⟩ := T.cls
  refine wpAny_Call_Name_kw (ld_glob I hg hm ?_ hdb)
  refine PySem.W.callWith_K (h₀ := X.base) I.ok.mod.kin T.kC (thn (ha.run pos pins s σ H _ I h) fun us s1 ⟨vs, H1, I1, r1, hz, hz2, q1⟩ => ⟨I1.kIn, ?_⟩) he hpl
  show wpAny _ _ (call (.ref C) us) _ _ _
  obtain ⟨hp, gs, dr, tk, os⟩ := s1
  obtain ⟨nm, N', qn, bs, bm, hdct, sn, sub, ab, col, dd, k0, k1, k2, k3, k5, hC, hT⟩ := PySem.W.excInit_of I1.kIn ini
  have up1 : hp.objs.size ≤ hp.objs.size + 1 := Nat.le_succ _
  have hn : H1 (hp.objs.size + 1) = none := I1.hok.fresh up1
  have kk : ∀ b o, hp.get? b = some o → ((hp.push (PySem.W.kdv_tup us)).push (PySem.HandSPX.excO C hp.objs.size)).get? b = some o := fun b o z => Heap.get?_push_of_some _ (Heap.get?_push_of_some _ z)
  have new : ((hp.push (PySem.W.kdv_tup us)).push (PySem.HandSPX.excO C hp.objs.size)).get? (hp.objs.size + 1) = some (PySem.HandSPX.excO C hp.objs.size) := by heap_get
  have I2 : Inv X pins σ (upd H1 (hp.objs.size + 1) (exo (hp.objs.size + 1) C none)) ⟨(hp.push (PySem.W.kdv_tup us)).push (PySem.HandSPX.excO C hp.objs.size), gs, dr, tk, os⟩ :=
    I1.laid (t' := tk) (a := hp.objs.size + 1) (o := exo (hp.objs.size + 1) C none)
      (h' := (hp.push (PySem.W.kdv_tup us)).push (PySem.HandSPX.excO C hp.objs.size)) kk up1 (exo_ok new)
  have r2 : Vals (V.ref (hp.objs.size + 1) :: (vs ++ [])) (Value.ref (hp.objs.size + 1) :: (us ++ [])) := .cons rfl (r1.append .nil)
  have hsp : spI C ns (V.ref (hp.objs.size + 1) :: (vs ++ [])) (upd H1 (hp.objs.size + 1) (exo (hp.objs.size + 1) C none))
      (fun v H2 => v = .non ∧ ∃ (d : Addr) (fs : List (Str × V)), H2 (hp.objs.size + 1) = some (exo (hp.objs.size + 1) C (some d)) ∧ H2 d = some (exd d fs) ∧ H1 d = none ∧ Q (.ref C) (some d) (upd (del H2 (hp.objs.size + 1)) d (.xd fs))) (fun _ _ _ => False) := by
    refine ⟨_, vs ++ [], rfl, by rw [List.append_nil]; exact hz, upd_same, fun d H' hd ne h1 h2 h3 => ⟨rfl, d, _, h1, h2, ?_, ?_⟩⟩
    · rw [upd_ne ne] at hd
      exact hd
    · rw [upd_ne ne] at hd
      have e : upd (del H' (hp.objs.size + 1)) d (.xd (ns.zip (vs ++ [])).reverse) = upd H1 d (.xd (ns.zip vs).reverse) := by
        rw [List.append_nil]
        funext b
        by_cases z : b = d
        · rw [z, upd_same, upd_same]
        · rw [upd_ne z, upd_ne z]
          by_cases z2 : b = hp.objs.size + 1
          · rw [z2, del_same, hn]
          · rw [del_ne z2, h3 b z2 z, upd_ne z2]
      rw [e]
      exact q1 d hd
  have hl : (Value.ref (hp.objs.size + 1) :: us ++ []).length = ps.length := by
    have z := r2.length
    rw [F1.len _ _ _ _ hsp] at z
    exact z.symm
  have hus : us.length ≤ sizeLine := by
    rw [← Paired.length r1, hz, sizeLine_eq]
    omega
  refine wpAny_call ?_
  refine PySem.HandSPX.call_own FB hT hC (PySem.W.looks_findIn I1.kIn iC) (fun self => PySem.W.bind_fn I1.kIn self tI) hus ?_
  have hbb := hb _ (Value.ref (hp.objs.size + 1) :: us) I2.kIn hl
  rw [List.cons_append] at hbb
  have run := F1.run _ X.stack _ _ ⟨Value.ref (hp.objs.size + 1) :: us, []⟩ (Value.ref (hp.objs.size + 1) :: (us ++ [])) _ _ (fun _ _ _ => False) (hr.make C us []) (I2.env0.make C us []) hbb r2 hsp
  refine codeAny_mono run fun r s' z => ?_
  cases r with
  | error er => exact hx pins σ _ _ er s' I2 z
  | ok fl =>
    cases fl with
    | ret u =>
      obtain ⟨v, H2, os2, bare2, un2, hok2, rv, ev, d, fs, ea, ed, hd1, q2⟩ := z
      subst ev
      obtain ⟨h2, g2, d2, t2, os'⟩ := s'
      exact ⟨rv, mk_end (raises_own T.exC T.tyC) I1 up1 kk un2 hok2 os2 bare2 ea ed hd1 q2⟩
    | next => exact z.elim
    | brk => exact z.elim
    | cont => exact z.elim
/-- raise C(e, ..) -/
def sRaise (c : Str) (ns : List Str) (ms : MA) : MS := fun s => (ms s).so fun ds s1 => .err ⟨c, ns.reverse, ds.reverse⟩ s1
/-- raise C('..') of a class without fields -/
def sRaise0 (c : Str) : MS := fun s => .err ⟨c, [], []⟩ s
theorem Reps.rev {F : Hp} : ∀ {ds : List D} {vs : List V}, Reps F ds vs → Reps F ds.reverse vs.reverse
  | _, _, .nil => .nil
  | _, _, .cons r t => by
    rw [List.reverse_cons, List.reverse_cons]
    exact (Reps.rev t).app (.cons r .nil)
theorem zip_rev {α β : Type} : ∀ {xs : List α} {ys : List β}, xs.length = ys.length → (xs.zip ys).reverse = xs.reverse.zip ys.reverse
  | [], [], _ => rfl
  | x :: xs, y :: ys, h => by
    have h' : xs.length = ys.length := Nat.succ.inj h
    rw [List.zip_cons_cons, List.reverse_cons, List.reverse_cons, List.reverse_cons, List.zip_append (by rw [List.length_reverse, List.length_reverse]; exact h'), zip_rev h']
    rfl
section
variable {X : Cx} {n : Nat} {G : Gr n} {W : WX} {Γ : List Ty} {rt : Ty}
theorem ms_raise {e : Expr} {pos : Pos} {c : Str} {ns : List Str} {k : Nat} {ms : MA} (hc : X.calm = true) (tk : Takes X W) (h : PMk X e (tMkX (He.ga X.K c) ns (tMA X.K G W Γ ms))) (hl : LenOk ms k) (hk : ns.length = k) (hn : ns ≠ []) (h9 : k ≤ 900) : MSt X G W Γ rt (.Raise (some e) none pos) (sRaise c ns ms) :=
  psI (ps_raise hc tk h) fun Dn σ H ⟨s, F, fp, R, q⟩ => ⟨s, F, fp, R, by
    unfold sRaise at q
    cases em : ms s with
    | ok ds s1 =>
      rw [em] at q
      intro vs F1 fp1 H1 R1 x (a : Reps F1 ds vs)
      have el : ds.length = ns.length := by rw [hl _ _ _ em, hk]
      refine ⟨by rw [← a.len, el], by rw [hk]; exact h9, fun d hd => ?_⟩
      obtain ⟨R2, x2⟩ := R1.fix (o := .xd (ns.zip vs).reverse) hd
      refine q _ _ σ _ _ _ R2 (x.trans x2) ⟨rfl, .inr ⟨d, vs.reverse, ?_, rfl, ?_, ?_, (a.mono x2.f).rev⟩⟩
      · simpa using hn
      · rw [upd_same, zip_rev (by rw [← a.len, el])]
      · rw [List.length_reverse, List.length_reverse, ← a.len, el]
    | err er s1 => rw [em] at q; exact fun cls od F' fp' H' R y z => q cls od σ F' fp' H' R y z
    | stuck => rw [em] at q; exact q⟩
theorem ms_raise0 {e : Expr} {pos : Pos} {c : Str} (hc : X.calm = true) (tk : Takes X W) (h : PMk X e (fun _ H Q => Q (.ref (He.ga X.K c)) none H)) : MSt X G W Γ rt (.Raise (some e) none pos) (sRaise0 c) :=
  psI (ps_raise hc tk h) fun Dn σ H ⟨s, F, fp, R, q⟩ => q _ _ σ F fp H R (Stp.refl F fp H) ⟨rfl, .inl ⟨rfl, rfl⟩⟩
end
end Bk

set_option Elab.async false
set_option linter.all false
set_option maxRecDepth 100000
set_option maxHeartbeats 4000000
namespace Bk
open PySem PySem.Spec PyProof.Rows L2
/-! ### what the head observes: facts, own facts, defs -/
abbrev Ft : Type := PySem.W.Frag → Bool
abbrev AlX : Type := Bool × List He.FnW
def obsX (fa : List He.Fa) (xs : List Ft) (fn : List He.DefD) (K : PySem.W.Frag) : AlX := ((fa.all fun f => f.ok K) && ((xs.all fun f => f K) && fn.all fun d => d.ok K), fn.map fun d => He.fnW K d.at_)
def valX (fn : List He.DefD) : AlX := (true, fn.map He.DefD.val)
def SaysX (fa : List He.Fa) (xs : List Ft) (fn : List He.DefD) (K : PySem.W.Frag) : Prop := obsX fa xs fn K = valX fn
def obsXG (n : Nat) (fa : List He.Fa) (xs : List Ft) (fn : List He.DefD) (g : Addr → Option Obj) : AlX := obsX fa xs fn (He.frG g (He.asD g n))
def hookX (n : Nat) (fa : List He.Fa) (xs : List Ft) (fn : List He.DefD) : PySem.W.Hook where
  α := AlX
  obs := fun s => obsXG n fa xs fn s.heap.get?
  val := fun _ => valX fn
  says := fun _ h => ∃ K : PySem.W.Frag, K.In h ∧ SaysX fa xs fn K
  of := fun _ _ e => ⟨_, He.frG_in, e⟩
  keeps := fun _ _ _ ⟨K, hK, c⟩ k => ⟨K, PySem.W.Frag.In.keeps hK k, c⟩
theorem obsXG_eq {n : Nat} {fa : List He.Fa} {xs : List Ft} {fn : List He.DefD} {g : Addr → Option Obj} {s : Shared} (h : ∀ a, g a = s.heap.get? a) : obsXG n fa xs fn g = (hookX n fa xs fn).obs s := by
  have e : g = s.heap.get? := funext h
  rw [e]
  rfl
theorem SaysX.parts {fa : List He.Fa} {xs : List Ft} {fn : List He.DefD} {K : PySem.W.Frag} (c : SaysX fa xs fn K) : (∀ f ∈ fa, f.ok K = true) ∧ (∀ f ∈ xs, f K = true) ∧ He.SaysD fa fn K := by
  have c1 : ((fa.all fun f => f.ok K) && ((xs.all fun f => f K) && fn.all fun d => d.ok K)) = true := congrArg (fun z : AlX => z.1) c
  have c2 : fn.map (fun d => He.fnW K d.at_) = fn.map He.DefD.val := congrArg (fun z : AlX => z.2) c
  obtain ⟨h1, h⟩ := Bool.and_eq_true_iff.mp c1
  obtain ⟨h2, h3⟩ := Bool.and_eq_true_iff.mp h
  refine ⟨List.all_eq_true.mp h1, List.all_eq_true.mp h2, ?_⟩
  show (((fa.all fun f => f.ok K) && fn.all fun d => d.ok K), fn.map fun d => He.fnW K d.at_) = (true, fn.map He.DefD.val)
  rw [h1, h3, c2]
  rfl
/-- what the top has written -/
structure Cty (fa : List He.Fa) (xs : List Ft) (fn : List He.DefD) (K : PySem.W.Frag) (mg : Str → Option Value) : Prop where
  h : ∃ h : Heap, K.In h ∧ h.Ns mainGlobals mg
  c : SaysX fa xs fn K
section
variable {fa : List He.Fa} {xs : List Ft} {fn : List He.DefD} {K : PySem.W.Frag} {mg : Str → Option Value}
theorem Cty.fact (c : Cty fa xs fn K mg) (i : Nat) {f : He.Fa} (h : fa[i]? = some f := by rfl) : f.ok K = true := c.c.parts.1 f (List.mem_of_getElem? h)
theorem Cty.own (c : Cty fa xs fn K mg) (i : Nat) {f : Ft} (h : xs[i]? = some f := by rfl) : f K = true := c.c.parts.2.1 f (List.mem_of_getElem? h)
theorem Cty.def_ (c : Cty fa xs fn K mg) (i : Nat) {d : He.DefD} (h : fn[i]? = some d := by rfl) : ∃ fd, FunD K d.name d.qual d.params d.body d.scope (d.dvs K) (d.kws K) (He.fAd K d.at_) fd := c.c.parts.2.2.def_ i h
theorem Cty.glo (c : Cty fa xs fn K mg) (i : Nat) {x : Str} (h : fa[i]? = some (.glo x) := by rfl) : mg x = some (.ref (He.ga K x)) := by
  obtain ⟨hp, X, Gm⟩ := c.h
  exact He.glo_ok X Gm (c.fact i h)
theorem Cty.free (c : Cty fa xs fn K mg) (i : Nat) {x : Str} (h : fa[i]? = some (.free x) := by rfl) : mg x = none := by
  obtain ⟨hp, X, Gm⟩ := c.h
  exact He.free_ok X Gm (c.fact i h)
theorem Cty.int (c : Cty fa xs fn K mg) (i : Nat) {x : Str} {z : Int} (h : fa[i]? = some (.int x z) := by rfl) : ∃ t, mg x = some (.int z t) := by
  obtain ⟨hp, X, Gm⟩ := c.h
  exact He.int_ok X Gm (c.fact i h)
end
/-! ### own exception classes -/
/-- a built-in base by its name -/
structure BaseOk (newId : String) (bmB : List Value) : Prop where
  ex : ∃ B initId : String, ExcBaseFacts B newId initId bmB ∧ StoreFacts B bmB "object.__setattr__" "object"
def tailL (b : String) : List Value := [.type b, .type "Exception", .type "BaseException", .type "object"]
theorem base_Value : BaseOk "ValueError.__new__" [.type "ValueError", .type "Exception", .type "BaseException", .type "object"] := ⟨_, _, F.excBase_ValueError, F.store_ValueError⟩
theorem base_Lookup : BaseOk "LookupError.__new__" [.type "LookupError", .type "Exception", .type "BaseException", .type "object"] := ⟨_, _, F.excBase_LookupError, F.store_LookupError⟩
theorem base_Index : BaseOk "IndexError.__new__" [.type "IndexError", .type "LookupError", .type "Exception", .type "BaseException", .type "object"] := ⟨_, _, F.excBase_IndexError, F.store_IndexError⟩
theorem base_Zero : BaseOk "ZeroDivisionError.__new__" [.type "ZeroDivisionError", .type "ArithmeticError", .type "Exception", .type "BaseException", .type "object"] := ⟨_, _, F.excBase_ZeroDivisionError, F.store_ZeroDivisionError⟩
/-- a class with fields -/
def xclsB (newId : String) (bmB : List Value) (x : Str) (fs : List Str) : Ft := fun K =>
  PySem.W.excInitIn K (He.ga K x) bmB newId && (PySem.W.excOver K (He.ga K x) bmB && (PySem.W.hasDictIn K (He.ga K x) && (He.eqO (PySem.W.findIn K (.ref (He.ga K x)) "__setattr__") (some (some (.builtin "object.__setattr__"))) &&
    (decide (PySem.W.subIn K (.ref (He.ga K x)) (.type "BaseException") = some true) && (decide (PySem.W.typeIn K (.ref (He.ga K x)) = some (.type "type")) && (PySem.W.keepIn K (.ref (He.ga K x)) &&
      ((fs.all fun f => He.eqO (PySem.W.findIn K (.ref (He.ga K x)) f) (some none)) && (He.eqO (PySem.W.findIn K (.ref (He.ga K x)) "__init__") (some (some (.ref (He.ma K (He.ga K x) "__init__")))) &&
        (decide (PySem.W.typeIn K (.ref (He.ma K (He.ga K x) "__init__")) = some (.type "function")) && xfB K (He.ga K x))))))))))
structure XOk (K : PySem.W.Frag) (x : Str) (fs : List Str) : Prop where
  cls : XCls K (He.ga K x)
  no : ∀ f ∈ fs, PySem.W.findIn K (.ref (He.ga K x)) f = some none
  init : PySem.W.findIn K (.ref (He.ga K x)) "__init__" = some (some (.ref (He.ma K (He.ga K x) "__init__")))
  tI : PySem.W.typeIn K (.ref (He.ma K (He.ga K x) "__init__")) = some (.type "function")
  xf : XfC K (He.ga K x)
theorem xcls_ok {newId : String} {bmB : List Value} (b : BaseOk newId bmB) {K : PySem.W.Frag} {x : Str} {fs : List Str} (h : xclsB newId bmB x fs K = true) : XOk K x fs := by
  unfold xclsB at h
  obtain ⟨h1, h⟩ := Bool.and_eq_true_iff.mp h
  obtain ⟨h2, h⟩ := Bool.and_eq_true_iff.mp h
  obtain ⟨h3, h⟩ := Bool.and_eq_true_iff.mp h
  obtain ⟨h4, h⟩ := Bool.and_eq_true_iff.mp h
  obtain ⟨h5, h⟩ := Bool.and_eq_true_iff.mp h
  obtain ⟨h6, h⟩ := Bool.and_eq_true_iff.mp h
  obtain ⟨h7, h⟩ := Bool.and_eq_true_iff.mp h
  obtain ⟨h8, h⟩ := Bool.and_eq_true_iff.mp h
  obtain ⟨h9, h⟩ := Bool.and_eq_true_iff.mp h
  obtain ⟨h10, h11⟩ := Bool.and_eq_true_iff.mp h
  obtain ⟨B, initId, FB, SF⟩ := b.ex
  exact ⟨⟨⟨B, newId, initId, bmB, FB, SF, h1, h2⟩, h3, He.eqO_ok h4, of_decide_eq_true h5, of_decide_eq_true h6, h7⟩, fun f hf => He.eqO_ok (List.all_eq_true.mp h8 f hf), He.eqO_ok h9, of_decide_eq_true h10, xfB_ok h11⟩
/-- a class without fields -/
def xcls0B (newId : String) (bmB : List Value) (x : Str) : Ft := fun K => PySem.W.excIn K (He.ga K x) bmB newId && (PySem.W.keepIn K (.ref (He.ga K x)) && (decide (PySem.W.subIn K (.ref (He.ga K x)) (.type "BaseException") = some true) && decide (PySem.W.typeIn K (.ref (He.ga K x)) = some (.type "type"))))
structure X0Ok (K : PySem.W.Frag) (x : Str) : Prop where
  ex : ∃ (B newId initId : String) (bmB : List Value), ExcBaseFacts B newId initId bmB ∧ PySem.W.excIn K (He.ga K x) bmB newId = true
  kC : PySem.W.keepIn K (.ref (He.ga K x)) = true
  exC : PySem.W.subIn K (.ref (He.ga K x)) (.type "BaseException") = some true
  tyC : PySem.W.typeIn K (.ref (He.ga K x)) = some (.type "type")
theorem xcls0_ok {newId : String} {bmB : List Value} (b : BaseOk newId bmB) {K : PySem.W.Frag} {x : Str} (h : xcls0B newId bmB x K = true) : X0Ok K x := by
  unfold xcls0B at h
  obtain ⟨h1, h⟩ := Bool.and_eq_true_iff.mp h
  obtain ⟨h2, h⟩ := Bool.and_eq_true_iff.mp h
  obtain ⟨h3, h4⟩ := Bool.and_eq_true_iff.mp h
  obtain ⟨B, initId, FB, _⟩ := b.ex
  exact ⟨⟨B, newId, initId, bmB, FB, h1⟩, h2, of_decide_eq_true h3, of_decide_eq_true h4⟩
theorem pmk_0 {X : Cx} {x m : Str} {j : Nat} {p p2 pos : Pos} (T : X0Ok X.K x) (gC : X.mg x = some (.ref (He.ga X.K x))) (hg : Gl X x) (hdb : (x == ("__debug__" : Str)) = false := by decide) :
    PMk X (.Call (.Name x p) [.Constant (.str m) j p2] [] pos) (fun _ H Q => Q (.ref (He.ga X.K x)) none H) := by
  obtain ⟨B, newId, initId, bmB, FB, h⟩ := T.ex
  exact pmk_own FB h gC T.kC (raises_own T.exC T.tyC) hg hdb
/-- an own class by its name, its __init__ walked -/
structure XCal (P : Program) (w : World) (K : PySem.W.Frag) (mg : Str → Option Value) (base : Heap) (x : Str) (ns : List Str) : Prop where
  ok : XOk K x ns
  gl : mg x = some (.ref (He.ga K x))
  fn : ∃ (fd : FuncData) (ps : List Str), FnOk P w K mg base (L2.CX P w) 1 (He.ma K (He.ga K x) "__init__") fd ps (spI (He.ga K x) ns) ∧ Binds K fd ps []
section
variable {X : Cx} {n : Nat} {G : Gr n} {W : WX} {Γ : List Ty} {rt : Ty}
variable [Cls]
theorem ms_raiseC {k k2 : Nat} {x : Str} {e : Expr} {es : List Expr} {p pos pos2 : Pos} {ns : List Str} {ms : MA} (C : XCal X.prog X.w X.K X.mg X.base x ns) (hr : Room k X.A) (hk : 2 ≤ k) (hc : X.calm = true) (tk : Takes X W) (hg : Gl X x) (ha : MAs X G W Γ (e :: es) ms) (hl : LenOk ms k2) (hns : ns.length = k2 := by rfl) (hne : ns ≠ [] := by simp) (h9 : k2 ≤ 900 := by decide)
    (hdb : (x == ("__debug__" : Str)) = false := by decide) (he : starEach (e :: es) X.env = (false, eval e X.env) :: starEach es X.env := by rfl) (hpl : (backTo pos (starEach es X.env)).any (·.1) = false := by rfl) :
    MSt X G W Γ rt (.Raise (some (.Call (.Name x p) (e :: es) [] pos)) none pos2) (sRaise x ns ms) := by
  obtain ⟨fd, ps, F1, hb⟩ := C.fn
  exact ms_raise hc tk (pmk_x C.ok.cls C.ok.init C.ok.tI F1 (hr.mono hk) hb passL hg C.gl ha hdb he hpl) hl hns hne h9
theorem ms_raise0C {x m : Str} {j : Nat} {p p2 pos pos2 : Pos} (T : X0Ok X.K x) (gC : X.mg x = some (.ref (He.ga X.K x))) (hc : X.calm = true) (tk : Takes X W) (hg : Gl X x) (hdb : (x == ("__debug__" : Str)) = false := by decide) :
    MSt X G W Γ rt (.Raise (some (.Call (.Name x p) [.Constant (.str m) j p2] [] pos)) none pos2) (sRaise0 x) := ms_raise0 hc tk (pmk_0 T gC hg hdb)
end
theorem xcal_one [Cls] {P : Program} {w : World} {K : PySem.W.Frag} {mg : Str → Option Value} {base : Heap} {x qual : Str} {f : Str} {params : Arguments} {body : List Stmt} {scope : Scope} {fd : FuncData} {N ps : List Str} (T : XOk K x [f]) (gl : mg x = some (.ref (He.ga K x))) (hps : ps.length = 2)
    (FD : FunD K "__init__" qual params body scope [] [] (He.ma K (He.ga K x) "__init__") fd) (S : FnScope N ps scope) (hb : Binds K fd ps [])
    (h : ∀ (cdv : Value) (A : Around) (outer : List PySem.Env) (s : Shared) (H : Hp) (E : XK), PSs (cxOf (L2.CX P w) P w K mg base N qual scope (He.ma K (He.ga K x) "__init__") cdv A outer s H E) body (tXst K f (tVar 0) (tVar 1))) : XCal P w K mg base x [f] :=
  ⟨T, gl, fd, ps, FD.ok (k := 0) S (fun vs H Q E ⟨a, ws, e, hl, _⟩ => by rw [e, List.length_cons, hl, hps]; rfl) fun cdv A outer s H vs Q E hr hs => ⟨_, h cdv A outer s H E, spI_one T.cls (T.no f (by simp)) hs⟩, hb⟩
theorem xcal_two [Cls] {P : Program} {w : World} {K : PySem.W.Frag} {mg : Str → Option Value} {base : Heap} {x qual : Str} {f g : Str} {params : Arguments} {body : List Stmt} {scope : Scope} {fd : FuncData} {N ps : List Str} (T : XOk K x [f, g]) (gl : mg x = some (.ref (He.ga K x))) (hps : ps.length = 3)
    (FD : FunD K "__init__" qual params body scope [] [] (He.ma K (He.ga K x) "__init__") fd) (S : FnScope N ps scope) (hb : Binds K fd ps [])
    (h : ∀ (cdv : Value) (A : Around) (outer : List PySem.Env) (s : Shared) (H : Hp) (E : XK), PSs (cxOf (L2.CX P w) P w K mg base N qual scope (He.ma K (He.ga K x) "__init__") cdv A outer s H E) body (tSeq (tXst K f (tVar 0) (tVar 1)) (tXst K g (tVar 0) (tVar 2)))) : XCal P w K mg base x [f, g] :=
  ⟨T, gl, fd, ps, FD.ok (k := 0) S (fun vs H Q E ⟨a, ws, e, hl, _⟩ => by rw [e, List.length_cons, hl, hps]; rfl) fun cdv A outer s H vs Q E hr hs => ⟨_, h cdv A outer s H E, spI_two T.cls (T.no f (by simp)) (T.no g (by simp)) hs⟩, hb⟩
end Bk

set_option Elab.async false
set_option linter.all false
set_option maxRecDepth 100000
set_option maxHeartbeats 4000000
namespace Bk
open PySem PySem.Spec PyProof.Rows L2
/-- a statement of which nothing is said -/
def sStuck : MS := fun _ => .stuck
theorem ms_stuck [Cls] {X : Cx} {n : Nat} {G : Gr n} {W : WX} {Γ : List Ty} {rt : Ty} {st : Stmt} : MSt X G W Γ rt st sStuck :=
  ⟨fun pins s σ H Dn I h => by
    obtain ⟨_, _, _, _, h⟩ := h
    exact h.elim⟩
/-- the end of a law of a script: F gives the written part, the law's function and what it promises -/
theorem walk_bk {law : PySem.W.OpenLaw} {top lv : Nat} {qp : Program} {free : List Str} {XP : (Str → Option Value) → Heap → Prop} {YP : World → Heap → Prop} {dr : DefRec} {p : Str}
    (hmost : law.most = some top) (htop : top ≤ sizeLine) (hdef : dr.params.defaults = []) (hroom : Room lv callerA)
    (F : ∀ (w : World) (mg : Str → Option Value) (at_ : Addr) (hp : Heap), YP w hp → hp.Ns mainGlobals mg → mg dr.name = some (.ref at_) →
      ∃ (K : PySem.W.Frag) (fd : FuncData) (sp : Sp), K.In hp ∧ (∀ (sh : Shared) (u : Value), BindsTo sh fd ⟨[u], []⟩ [(p, u)]) ∧
        (∀ (H : Hp) (at2 : Addr) (ns : List Int), ns.length ≤ top → SqL K H at2 (ns.map V.int) → sp [.ref at2] H (fun v _ => v = .bl true) fun _ _ _ => False) ∧
        ∀ b : Heap, K.In b → b.Ns mainGlobals mg → FnOk law.prog w K mg b (L2.CX law.prog w) lv at_ fd [p] sp) :
    PySem.W.WalkO qp free XP YP law.row.toRowW dr [] (fun f vs => PySem.call f vs) := by
  refine Att.attach_call hmost hdef fun w sA sB mg mb at_ ob pm cd dc at2 vs ns Gd Yw h1 h2 h3 hmg h4 h5 h6 h7 => ?_
  obtain ⟨K, fd, sp, KX, hb, hsp, hF⟩ := F w mg at_ sB.heap Yw Gd.T.g hmg
  refine law_call KX Gd.T.g Gd.T.b Gd.T.builtins Gd.T.nolimit h7 h4 h5 (Nat.le_trans h6 htop) hroom hF hb (fun H _ hS => hsp H at2 ns h6 hS) fun H e s' z => ?_
  obtain ⟨_, _, _, _, _, _, _, _, _, _, _, _, _, z⟩ := z
end Bk

set_option Elab.async false
set_option linter.all false
set_option maxRecDepth 100000
set_option maxHeartbeats 4000000
namespace Bk
open PySem L2
variable [Cls]
/-! ### reckoning with mirrors -/
theorem mulOk_l {i j : Int} (h1 : -18446744073709551616 < i) (h2 : i < 18446744073709551616) : mulOk i j = true := by
  unfold mulOk
  rw [Bool.or_eq_true]
  exact .inl (decide_eq_true ⟨by omega, by omega⟩)
theorem dMul_l {i j : Int} (h1 : -18446744073709551616 < i) (h2 : i < 18446744073709551616) : dMul (.int i) (.int j) = some (.int (i * j)) := if_pos (mulOk_l h1 h2)
theorem dMod_p {i j : Int} (h : 0 < j) : dMod (.int i) (.int j) = some (.int (i % j)) := if_pos h
theorem dDiv_p {i j : Int} (h : 0 < j) (h2 : j < 18446744073709551616) : dDiv (.int i) (.int j) = some (.int (i / j)) := if_pos ⟨h, by
  rcases Nat.eq_zero_or_pos j.natAbs with z | z
  · rw [z]; decide
  · exact Nat.lt_trans ((Nat.log2_lt (by omega)).mpr (show j.natAbs < 2 ^ 64 by omega)) (by decide)⟩
theorem log_sm {j : Int} (h : 0 < j) (h2 : j < 18446744073709551616) : j.natAbs.log2 < 9000 := by
  exact Nat.lt_trans ((Nat.log2_lt (by omega)).mpr (show j.natAbs < 2 ^ 64 by omega)) (by decide)
theorem dEq_int (a b : Int) : dEq (.int a) (.int b) = some (a == b) := by
  unfold dEq
  rw [if_pos (by simp [D.flat])]
  simp [D.eq]
theorem dEq_bl (a b : Bool) : dEq (.bl a) (.bl b) = some (a == b) := by
  unfold dEq
  rw [if_pos (by simp [D.flat])]
  simp [D.eq]
def andK (b : M) : D → Env → R D
  | .bl p, s => if p = true then b s else .ok (.bl false) s
  | _, _ => .stuck
def orK (b : M) : D → Env → R D
  | .bl p, s => if p = true then .ok (.bl true) s else b s
  | _, _ => .stuck
def tstK : D → Env → R Bool
  | .bl p, s => .ok p s
  | _, _ => .stuck
def notK : D → Env → R D
  | .bl p, s => .ok (.bl (!p)) s
  | _, _ => .stuck
def chK (f' : D → D → Option D) (mc : M) (e : D) : Option D → Env → R D
  | some (.bl p), s => if p = true then (mc s).bind fun z s3 => R.opt (f' e z) s3 else .ok (.bl false) s
  | _, _ => .stuck
theorem mAndV_e (a b : M) (s : Env) : mAndV a b s = (a s).bind (andK b) := by
  unfold mAndV
  congr 1
  funext d s1
  cases d with
  | bl p => cases p <;> rfl
  | _ => rfl
theorem mOrV_e (a b : M) (s : Env) : mOrV a b s = (a s).bind (orK b) := by
  unfold mOrV
  congr 1
  funext d s1
  cases d with
  | bl p => cases p <;> rfl
  | _ => rfl
theorem mNotV_e (a : M) (s : Env) : mNotV a s = (a s).bind notK := by
  unfold mNotV
  congr 1
  funext d s1
  cases d <;> rfl
theorem mTst_e (a : M) (s : Env) : mTst a s = (a s).bind tstK := by
  unfold mTst
  congr 1
  funext d s1
  cases d <;> rfl
theorem mChain_e (f f' : D → D → Option D) (ma mb mc : M) (s : Env) : mChain f f' ma mb mc s = (ma s).bind fun d s1 => (mb s1).bind fun e s2 => chK f' mc e (f d e) s2 := by
  unfold mChain
  congr 1
  funext d s1
  congr 1
  funext e s2
  cases f d e with
  | none => rfl
  | some d =>
    cases d with
    | bl p => cases p <;> rfl
    | _ => rfl
theorem ix2_0 {a b : D} : dIx (.tup [a, b]) (.int 0) = some a := rfl
theorem ix2_1 {a b : D} : dIx (.tup [a, b]) (.int 1) = some b := rfl
theorem ix3_0 {a b c : D} : dIx (.tup [a, b, c]) (.int 0) = some a := rfl
theorem ix3_1 {a b c : D} : dIx (.tup [a, b, c]) (.int 1) = some b := rfl
theorem ix3_2 {a b c : D} : dIx (.tup [a, b, c]) (.int 2) = some c := rfl
theorem rng_z {j : Int} (h : rg 0 j = true) : bRng1 [.int j] = some (rng 0 j.toNat) := if_pos h
theorem rng_y {i j : Int} (h : rg i j = true) : bRng2 [.int i, .int j] = some (rng i (j - i).toNat) := if_pos h
/-- the turns of a comprehension -/
theorem compM_ev {g : MG} {c : MB} {e : M} {vs : List Nat} {s0 : Env} {p : D → Bool} {f : D → D} : ∀ {ds acc : List D}, (∀ d ∈ ds, ∃ s1 s2, g d s0 = some s1 ∧ c s1 = .ok (p d) s2 ∧ (p d = false → swipe s2 vs = s0) ∧ (p d = true → ∃ s3, e s2 = .ok (f d) s3 ∧ swipe s3 vs = s0)) → acc.length + ds.length < 16000000 →
    compM g c e vs ds s0 acc = .ok (acc ++ (ds.filter p).map f) s0
  | [], acc, _, _ => by simp [compM]
  | d :: ds, acc, h, hl => by
    obtain ⟨s1, s2, h1, h2, h3, h4⟩ := h d List.mem_cons_self
    have hl : acc.length + (ds.length + 1) < 16000000 := hl
    have ht := fun x hx => h x (List.mem_cons_of_mem _ hx)
    cases hp : p d with
    | false =>
      have ih := compM_ev (acc := acc) ht (by omega)
      simp only [compM, h1, h2, R.bind_ok, hp, Bool.false_eq_true, if_false, h3 hp, ih, List.filter_cons_of_neg, not_false_eq_true]
    | true =>
      obtain ⟨s3, h5, h6⟩ := h4 hp
      have ih := compM_ev (acc := acc ++ [f d]) ht (by rw [List.length_append]; simp; omega)
      have hl2 : acc.length < 16000000 := by omega
      simp only [compM, h1, h2, R.bind_ok, hp, if_true, h5, hl2, h6, ih, List.filter_cons_of_pos, List.map_cons, List.append_assoc, List.singleton_append]
theorem mComp_ev {mi : MA} {g : MG} {c : MB} {e : M} {vs : List Nat} {s s1 : Env} {ds : List D} (p : D → Bool) (f : D → D) (hi : mi s = .ok ds s1)
    (h : ∀ d ∈ ds, ∃ s2 s3, g d (swipe s1 vs) = some s2 ∧ c s2 = .ok (p d) s3 ∧ (p d = false → swipe s3 vs = swipe s1 vs) ∧ (p d = true → ∃ s4, e s3 = .ok (f d) s4 ∧ swipe s4 vs = swipe s1 vs)) (hl : ds.length < 16000000) :
    mComp mi g c e vs s = .ok (.lst ((ds.filter p).map f)) (srest s1 (swipe s1 vs) vs) := by
  have k := compM_ev (acc := []) h (by simpa using hl)
  simp only [mComp, hi, R.bind_ok, k, R.noerr_ok, List.nil_append]
/-- the turns of two clauses, no test -/
theorem compM2_ev {g g1 : MG} {mi1 : MA} {e : M} {vs vs1 : List Nat} {s0 : Env} {l : D → List D} {f : D → D → D} {n : Nat} : ∀ {ds acc : List D},
    (∀ d ∈ ds, ∃ s1 s2, g d s0 = some s1 ∧ mi1 s1 = .ok (l d) s2 ∧ (l d).length ≤ n ∧ swipe (swipe s2 vs1) vs = s0 ∧ ∀ x ∈ l d, ∃ s3 s4, g1 x (swipe s2 vs1) = some s3 ∧ e s3 = .ok (f d x) s4 ∧ swipe s4 vs1 = swipe s2 vs1) → acc.length + ds.length * n < 16000000 →
    compM2 g mYes mi1 g1 mYes e vs vs1 ds s0 acc = .ok (acc ++ ds.flatMap fun d => (l d).map (f d)) s0
  | [], acc, _, _ => by simp [compM2]
  | d :: ds, acc, h, hl => by
    obtain ⟨s1, s2, h1, h2, h3, h4, h5⟩ := h d List.mem_cons_self
    have hl : acc.length + (ds.length + 1) * n < 16000000 := hl
    rw [Nat.add_mul, Nat.one_mul] at hl
    have ht := fun x hx => h x (List.mem_cons_of_mem _ hx)
    have k := compM_ev (g := g1) (c := mYes) (e := e) (vs := vs1) (s0 := swipe s2 vs1) (p := fun _ => true) (f := f d) (ds := l d) (acc := acc) (fun x hx => by
      obtain ⟨s3, s4, z1, z2, z3⟩ := h5 x hx
      exact ⟨s3, s3, z1, rfl, fun z => Bool.noConfusion z, fun _ => ⟨s4, z2, z3⟩⟩) (by omega)
    have ih := compM2_ev (acc := acc ++ (l d).map (f d)) ht (by rw [List.length_append, List.length_map]; omega)
    have e1 : (l d).filter (fun _ => true) = l d := List.filter_eq_self.mpr fun _ _ => rfl
    rw [e1] at k
    simp only [compM2, h1, h2, R.bind_ok, mYes, if_true]
    rw [k]
    simp only [R.bind_ok, h4, ih, List.append_assoc, List.flatMap_cons]
theorem mComp2_ev {mi mi1 : MA} {g g1 : MG} {e : M} {vs vs1 : List Nat} {s s1 : Env} {ds : List D} (l : D → List D) (f : D → D → D) (n : Nat) (hi : mi s = .ok ds s1)
    (h : ∀ d ∈ ds, ∃ s2 s3, g d (swipe s1 vs) = some s2 ∧ mi1 s2 = .ok (l d) s3 ∧ (l d).length ≤ n ∧ swipe (swipe s3 vs1) vs = swipe s1 vs ∧ ∀ x ∈ l d, ∃ s4 s5, g1 x (swipe s3 vs1) = some s4 ∧ e s4 = .ok (f d x) s5 ∧ swipe s5 vs1 = swipe s3 vs1) (hl : ds.length * n < 16000000) :
    mComp2 mi g mYes mi1 g1 mYes e vs vs1 s = .ok (.lst (ds.flatMap fun d => (l d).map (f d))) (srest s1 (swipe s1 vs) vs) := by
  have k := compM2_ev (acc := []) h (by simpa using hl)
  simp only [mComp2, hi, R.bind_ok, k, R.noerr_ok, List.nil_append]
/-- the turns of a loop -/
theorem forM_ev {g : MG} {b : MS} {st : D → Env → Env} {I : List D → Env → Prop} : ∀ {ds : List D} {s : Env}, I ds s → (∀ d r s, I (d :: r) s → ∃ s1, g d s = some s1 ∧ ((b s1 = .nx (st d s)) ∨ b s1 = .ct (st d s)) ∧ I r (st d s)) → forM g b ds s = .nx (ds.foldl (fun s d => st d s) s) ∧ I [] (ds.foldl (fun s d => st d s) s)
  | [], s, h, _ => ⟨rfl, h⟩
  | d :: ds, s, h, hs => by
    obtain ⟨s1, h1, h2, h3⟩ := hs d ds s h
    have ih := forM_ev h3 hs
    refine ⟨?_, ih.2⟩
    show (match g d s with | none => SO.stuck | some s1 => _) = _
    rw [h1]
    rcases h2 with h2 | h2
    · show (match b s1 with | .nx s2 => forM g b ds s2 | .ct s2 => forM g b ds s2 | .bk s2 => .nx s2 | .rt d s2 => .rt d s2 | .err e s2 => .err e s2 | .stuck => .stuck) = _
      rw [h2]
      exact ih.1
    · show (match b s1 with | .nx s2 => forM g b ds s2 | .ct s2 => forM g b ds s2 | .bk s2 => .nx s2 | .rt d s2 => .rt d s2 | .err e s2 => .err e s2 | .stuck => .stuck) = _
      rw [h2]
      exact ih.1
/-- .. with any state that keeps what is asked -/
theorem forM_inv {g : MG} {b : MS} {I : List D → Env → Prop} : ∀ {ds : List D} {s : Env}, I ds s → (∀ d r s, I (d :: r) s → ∃ s1 s2, g d s = some s1 ∧ b s1 = .nx s2 ∧ I r s2) → ∃ s', forM g b ds s = .nx s' ∧ I [] s'
  | [], s, h, _ => ⟨s, rfl, h⟩
  | d :: ds, s, h, hs => by
    obtain ⟨s1, s2, h1, h2, h3⟩ := hs d ds s h
    obtain ⟨s', e, i⟩ := forM_inv h3 hs
    refine ⟨s', ?_, i⟩
    show (match g d s with | none => SO.stuck | some s1 => _) = _
    rw [h1]
    show (match b s1 with | .nx s2 => forM g b ds s2 | .ct s2 => forM g b ds s2 | .bk s2 => .nx s2 | .rt d s2 => .rt d s2 | .err e s2 => .err e s2 | .stuck => .stuck) = _
    rw [h2]
    exact e
end Bk

set_option Elab.async false
set_option linter.all false
set_option maxRecDepth 100000
set_option maxHeartbeats 4000000
namespace Bk
open PySem L2
variable [Cls]
/-! ### reckoning by the kernel -/
mutual
def D.beq : D → D → Bool
  | .non, .non => true
  | .bl a, .bl b => a == b
  | .int i, .int j => i == j
  | .str x, .str y => x == y
  | .lst xs, .lst ys => D.beqs xs ys
  | .tup xs, .tup ys => D.beqs xs ys
  | _, _ => false
def D.beqs : List D → List D → Bool
  | [], [] => true
  | x :: xs, y :: ys => D.beq x y && D.beqs xs ys
  | _, _ => false
end
mutual
theorem D.beq_eq : ∀ d e : D, D.beq d e = true → d = e
  | .non, e, h => by cases e <;> first | rfl | cases h
  | .bl a, e, h => by
    cases e with
    | bl b => rw [eq_of_beq (show (a == b) = true from h)]
    | _ => cases h
  | .int a, e, h => by
    cases e with
    | int b => rw [eq_of_beq (show (a == b) = true from h)]
    | _ => cases h
  | .str a, e, h => by
    cases e with
    | str b => rw [eq_of_beq (show (a == b) = true from h)]
    | _ => cases h
  | .lst xs, e, h => by
    cases e with
    | lst ys => rw [D.beqs_eq xs ys h]
    | _ => cases h
  | .tup xs, e, h => by
    cases e with
    | tup ys => rw [D.beqs_eq xs ys h]
    | _ => cases h
  | .dct ks vs, e, h => by cases e <;> cases h
  | .obj _ _ _, e, h => by cases e <;> cases h
theorem D.beqs_eq : ∀ ds es : List D, D.beqs ds es = true → ds = es
  | [], [], _ => rfl
  | [], _ :: _, h => by cases h
  | _ :: _, [], h => by cases h
  | x :: xs, y :: ys, h => by
    have h : (D.beq x y && D.beqs xs ys) = true := h
    obtain ⟨h1, h2⟩ := Bool.and_eq_true_iff.mp h
    rw [D.beq_eq x y h1, D.beqs_eq xs ys h2]
end
def nones : Nat → Env → Bool
  | 0, [] => true
  | n + 1, none :: s => nones n s
  | _, _ => false
theorem nones_eq : ∀ {n : Nat} {s : Env}, nones n s = true → s = List.replicate n none
  | 0, [], _ => rfl
  | 0, _ :: _, h => by cases h
  | n + 1, [], h => by cases h
  | n + 1, some _ :: _, h => by cases h
  | n + 1, none :: s, h => by rw [nones_eq (n := n) (s := s) h]; rfl
def okV (n : Nat) : R D → Option D
  | .ok d s => if nones n s = true then some d else none
  | _ => none
theorem okV_eq {n : Nat} {r : R D} {d : D} (h : okV n r = some d) : r = .ok d (List.replicate n none) := by
  cases r with
  | ok e s =>
    have h : (if nones n s = true then some e else none) = some d := h
    by_cases hn : nones n s = true
    · rw [if_pos hn] at h
      cases h
      rw [nones_eq hn]
    · rw [if_neg hn] at h
      cases h
  | _ => cases h
/-- both give the same -/
def same2 (n1 n2 : Nat) (r1 r2 : R D) : Bool := match okV n1 r1, okV n2 r2 with
  | some d, some e => D.beq d e
  | _, _ => false
theorem same2_eq {n1 n2 : Nat} {r1 r2 : R D} (h : same2 n1 n2 r1 r2 = true) : ∃ d, r1 = .ok d (List.replicate n1 none) ∧ r2 = .ok d (List.replicate n2 none) := by
  unfold same2 at h
  cases h1 : okV n1 r1 with
  | none => rw [h1] at h; cases h
  | some d =>
    cases h2 : okV n2 r2 with
    | none => rw [h1, h2] at h; cases h
    | some e =>
      rw [h1, h2] at h
      have h : D.beq d e = true := h
      rw [← D.beq_eq d e h] at h2
      exact ⟨d, okV_eq h1, okV_eq h2⟩
/-- fuel from a number's size -/
def fuI (i : Nat) : Env → Nat := fun s => match s[i]? with
  | some (some (.int z)) => z.natAbs + 1
  | _ => 0
end Bk

set_option Elab.async false
set_option linter.all false
set_option maxRecDepth 100000
set_option maxHeartbeats 4000000
namespace Bk
open PySem PySem.Spec PyProof.Rows L2
variable [Cls]
/-! ### x in a list or a tuple -/
section
variable {X : Cx}
def rInB (K : PySem.W.Frag) (g : Bool → Bool) : R2 := fun x y H Q => ∃ (d c : PyData) (ds : List PyData), Dp K H x d ∧ Dp K H y c ∧ (c = .list ds ∨ c = .tuple ds) ∧ SeqAt.shaped d = true ∧ SeqAt.shaped c = true ∧ Q (.bl (g (ds.any fun z => PyData.eqv z d))) H
theorem op_inB (hu : X.A.units + 65 < cLine) : OpR X (compareOp .In) (rInB X.K fun k => k) := by
  intro pins s σ H x y v u Q I rx ry h
  obtain ⟨d, c, ds, hd, he, hc, sd, se, q⟩ := h
  obtain ⟨as, r1⟩ := Dp.reads I d x v hd rx
  obtain ⟨bs, r2⟩ := Dp.reads I c y u he ry
  rcases hc with rfl | rfl
  · exact SeqAt.in_list_reads r2 r1 (SeqAt.canLay_of_shaped se) (SeqAt.canLay_of_shaped sd) (room_in_shaped sd hu) ⟨.bl _, H, I, rfl, q⟩
  · exact SeqAt.in_tuple_reads r2 r1 (SeqAt.canLay_of_shaped se) (SeqAt.canLay_of_shaped sd) (room_in_shaped sd hu) ⟨.bl _, H, I, rfl, q⟩
theorem op_notInB (hu : X.A.units + 65 < cLine) : OpR X (compareOp .NotIn) (rInB X.K fun k => !k) := by
  intro pins s σ H x y v u Q I rx ry h
  obtain ⟨d, c, ds, hd, he, hc, sd, se, q⟩ := h
  obtain ⟨as, r1⟩ := Dp.reads I d x v hd rx
  obtain ⟨bs, r2⟩ := Dp.reads I c y u he ry
  rcases hc with rfl | rfl
  · exact SeqAt.notIn_list_reads r2 r1 (SeqAt.canLay_of_shaped se) (SeqAt.canLay_of_shaped sd) (room_in_shaped sd hu) ⟨.bl _, H, I, rfl, q⟩
  · exact SeqAt.notIn_tuple_reads r2 r1 (SeqAt.canLay_of_shaped se) (SeqAt.canLay_of_shaped sd) (room_in_shaped sd hu) ⟨.bl _, H, I, rfl, q⟩
end
theorem pys_any (d : D) : ∀ es : List D, ((D.pys es).any fun z => PyData.eqv z d.py) = es.any fun z => D.eq z d
  | [] => rfl
  | e :: es => by
    show (PyData.eqv e.py d.py || (D.pys es).any fun z => PyData.eqv z d.py) = (D.eq e d || es.any fun z => D.eq z d)
    rw [pys_any d es, D.eq_py]
def D.its : D → Option (List D)
  | .lst es => some es
  | .tup es => some es
  | _ => none
def dIn (d e : D) : Option Bool := match e.its with
  | some es => if (D.flat 60 d && D.flat 60 e) = true then some (es.any fun z => D.eq z d) else none
  | none => none
def mInB (g : Bool → Bool) (ma mb : M) : M := fun s => (ma s).bind fun d s1 => (mb s1).bind fun e s2 => R.opt ((dIn d e).map fun k => D.bl (g k)) s2
abbrev mIn := mInB fun k => k
abbrev mNotIn := mInB fun k => !k
section
variable {X : Cx} {n : Nat} {G : Gr n} {W : WX} {Γ : List Ty} {a b : Expr} {ma mb : M} {pos : Pos}
theorem units65 {A : Around} {k : Nat} (r : Room k A) : A.units + 65 < cLine := by have := r.un; omega
theorem two_in {K : PySem.W.Frag} {σ : Sl} {H : Hp} {Q : VK} {g : Bool → Bool} (h : tM K G W Γ .fr (mInB g ma mb) σ H Q) :
    tM K G W Γ .fr ma σ H fun x H1 => tM K G W Γ .fr mb σ H1 fun y H2 => rInB K g x y H2 Q := by
  obtain ⟨s, F, fp, R, q⟩ := h
  refine ⟨s, F, fp, R, pbind q fun d s1 x F1 fp1 H1 R1 st1 a1 q1 => ⟨s1, F1, fp1, R1, pbind q1 fun e s2 y F2 fp2 H2 R2 st2 a2 q2 => ?_⟩⟩
  obtain ⟨z, ez, q3⟩ := opt_post q2
  obtain ⟨k, ek, rfl⟩ := Option.map_eq_some_iff.mp ez
  unfold dIn at ek
  cases ei : e.its with
  | none => rw [ei] at ek; cases ek
  | some es =>
    rw [ei] at ek
    obtain ⟨hc, rfl⟩ := if_some ek
    rw [Bool.and_eq_true] at hc
    refine ⟨d.py, e.py, D.pys es, R2.dp hc.1 (a1.rep.mono st2.f), R2.dp hc.2 a2.rep, ?_, D.shaped hc.1, D.shaped hc.2, ?_⟩
    · cases e with
      | lst xs => cases ei; exact .inl rfl
      | tup xs => cases ei; exact .inr rfl
      | _ => cases ei
    · rw [pys_any]
      exact pok q3 R2 (AE.fr (.bl _))
theorem me_in {k : Nat} (hr : Room k X.A) (ha : ME X G W Γ a .fr ma) (hb : ME X G W Γ b .fr mb) (hm : behindInMarks .In b = false := by with_unfolding_all rfl) : ME X G W Γ (.Compare a [.In] [b] pos) .fr (mIn ma mb) :=
  peI (pe_cmpR (op_inB (units65 hr)) ha hb hm) fun σ H Q h => two_in h
theorem me_notin {k : Nat} (hr : Room k X.A) (ha : ME X G W Γ a .fr ma) (hb : ME X G W Γ b .fr mb) (hm : behindInMarks .NotIn b = false := by with_unfolding_all rfl) : ME X G W Γ (.Compare a [.NotIn] [b] pos) .fr (mNotIn ma mb) :=
  peI (pe_cmpR (op_notInB (units65 hr)) ha hb hm) fun σ H Q h => two_in h
theorem mt_in {k : Nat} (hr : Room k X.A) (ha : ME X G W Γ a .fr ma) (hb : ME X G W Γ b .fr mb) (hm : behindInMarks .In b = false := by with_unfolding_all rfl) : MT X G W Γ (.Compare a [.In] [b] pos) (mTst (mIn ma mb)) :=
  ptI (pt_cmpR (op_inB (units65 hr)) ha hb hm) fun σ H Q h => two_in (tst h)
theorem mt_notin {k : Nat} (hr : Room k X.A) (ha : ME X G W Γ a .fr ma) (hb : ME X G W Γ b .fr mb) (hm : behindInMarks .NotIn b = false := by with_unfolding_all rfl) : MT X G W Γ (.Compare a [.NotIn] [b] pos) (mTst (mNotIn ma mb)) :=
  ptI (pt_cmpR (op_notInB (units65 hr)) ha hb hm) fun σ H Q h => two_in (tst h)
end
end Bk

set_option Elab.async false
set_option linter.all false
set_option maxRecDepth 100000
set_option maxHeartbeats 4000000
namespace Bk
open PySem PySem.Spec PyProof.Rows L2
variable [Cls]
/-! ### list comprehensions of any number of clauses: the program's side -/
abbrev No : Value → Shared → Prop := fun _ _ => False
/-- what the rest of a turn (behind a clause's tests) is: by what it must reach -/
abbrev RW := (Shared → Prop) → Shared → Prop
/-- .. readings of it -/
abbrev TR := Sl → Hp → (Hp → Prop) → Prop
def tApp (te : TE) (D : Addr) : TR := fun σ H Nx => te σ H fun y H7 => ∃ acc, H7 D = some (.lst acc) ∧ acc.length < sizeLine ∧ Nx (upd H7 D (.lst (acc ++ [y])))
/-- a clause over J from H on: Qd behind it -/
def tLoop (g : TG) (tt : TT) (vs : List Nat) (tr : TR) (J : It) (σ : Sl) (H : Hp) (Qd : Hp → Prop) : Prop := ∃ V : Nat → Nat → Hp → Prop, (∃ m, V 0 m H) ∧ ∀ j k H, V j k H →
  (J.stop j H ∧ Qd H) ∨ (J.go j H ∧ ∃ Nx : Hp → Prop, (∀ H', Nx H' → ∃ k', k' < k ∧ V (j + 1) k' H') ∧ ∀ x H', J.yld j H x H' → g x (L2.wipe σ vs) H' fun σ2 H2 => L2.wipe σ2 vs = L2.wipe σ vs ∧ tt σ2 H2 fun b H3 => if b = true then tr σ2 H3 Nx else Nx H3)
def tNest (wi : TI) (g : TG) (tt : TT) (vs : List Nat) (tr : TR) : TR := fun σ H Nx => wi σ H fun J H1 => tLoop g tt vs tr J σ H1 Nx
def tLcN (wi : TI) (g : TG) (tt : TT) (vs : List Nat) (tr : Addr → TR) : TE := fun σ H Q => wi σ H fun J H1 => ∀ D, H1 D = none → tLoop g tt vs (tr D) J σ (upd H1 D (.lst [])) fun H' => Q (.ref D) H'
def Kn (wv : List Nat) (σ σ' : Sl) : Prop := σ.length = σ'.length ∧ ∀ (j : Nat) v, (L2.wipe σ wv)[j]? = some (some v) → σ'[j]? = some (some v)
structure PRest (B : Cx) (rw_ : RW) (wv : List Nat) (t : TR) : Prop where
  run : ∀ (pins : List (Addr × Obj)) (s : Shared) (σ : Sl) (H : Hp) (Nx : Hp → Prop) (P : Shared → Prop), Inv B pins σ H s → t σ H Nx → (∀ σ' H' s', Inv B pins σ' H' s' → Kn wv σ σ' → Nx H' → P s') → rw_ P s
def wpApp (B : Cx) (elt : Expr) (D : Addr) : RW := fun P s => wpAny (model B.prog B.w) B.A (eval elt B.env) (fun x s4 => wpAny (model B.prog B.w) B.A (call (.builtin "list.append") [.ref D, x]) (fun _ s5 => P s5) No s4) No s
def wpNest (B : Cx) (E : Expr) (k : Nat) (it_ : Expr) (D : Addr) : RW := fun P s => wpAny (model B.prog B.w) B.A (eval it_ B.env) (fun x s4 => wpAny (model B.prog B.w) B.A (pyIter x) (fun i1 s5 =>
  codeAny (model B.prog B.w) B.A (.compStart E k i1 (.ref D) B.env) (fun r s' => match r with
    | .ok _ => P s'
    | .error _ => False) s5) No s4) No s
/-- a turn's steps lead round -/
structure LoopR (B : Cx) (E : Expr) (k : Nat) (tg : Expr) (ifs : List Expr) (rw_ : RW) (D : Addr) : Prop where
  run : ∀ (it : Value) (I : Nat → Shared → Prop) (R : Result → Shared → Prop), (∀ n s, I n s → wpAny (model B.prog B.w) B.A (pyNext it) (fun r s1 => match r with
      | none => R (.ok .next) s1
      | some v => wpAny (model B.prog B.w) B.A (letOwnedTupleGo tg it v) (fun _ s2 => wpAny (model B.prog B.w) B.A (assign tg B.env v) (fun _ s3 =>
          wpAny (model B.prog B.w) B.A (forIn ifs true fun c r => if r = true then do let ok ← isTrue c B.env (eval c B.env); pure (ForInStep.yield ok) else pure (ForInStep.yield r)) (fun ok s4 =>
            if ok = true then rw_ (fun s' => ∃ m, m < n ∧ I m s') s4 else ∃ m, m < n ∧ I m s4) No s3) No s2) No s1) No s) →
    ∀ n s, I n s → codeAny (model B.prog B.w) B.A (.compLoop E k it (.ref D) B.env) R s
theorem wno {α : Type} {M : Model} {A : Around} {t : Sem α} {Q : α → Shared → Prop} {E : Value → Shared → Prop} {s : Shared} (h : wpAny M A t Q No s) : wpAny M A t Q E s := wpAny_mono h (fun _ _ x => x) fun _ _ z => z.elim
section
variable {B : Cx}
/-- one clause's loop -/
theorem clause_run {E : Expr} {k : Nat} {tg : Expr} {ifs : List Expr} {rw_ : RW} {D : Addr} {g : TG} {tt : TT} {vs wv : List Nat} {tr : TR} (hc : B.calm = true) (hxe : B.xe = fun _ _ => False) (LR : LoopR B E k tg ifs rw_ D) (pg : PG B tg g) (pt : PTs B ifs tt) (pr : PRest B rw_ wv tr) (hwv : ∀ i ∈ wv, i ∈ vs)
    {pins : List (Addr × Obj)} {σ : Sl} {H : Hp} {s : Shared} {J : It} {fp : List Addr} {it : Addr} {tn : Nat → Heap → Prop} {Qd : Hp → Prop} {R : Result → Shared → Prop} (I : Inv B pins (L2.wipe σ vs) H s) (T : Turn B.prog B.w B.K tg J fp it tn) (st : tn 0 s.heap)
    (fF : ∀ (σ' : Sl) (H' : Hp) (s' : Shared), Inv B pins σ' H' s' → (∀ b ∈ fp, H' b = none) → ∀ b ∈ fp, FpOk B pins H' b) (nF : ∀ b ∈ fp, H b = none) (h : tLoop g tt vs tr J σ H Qd) (hR : ∀ (H' : Hp) (s' : Shared), Inv B pins (L2.wipe σ vs) H' s' → Qd H' → R (.ok .next) s') :
    codeAny (model B.prog B.w) B.A (.compLoop E k (.ref it) (.ref D) B.env) R s := by
  obtain ⟨V, ⟨m0, v0⟩, turn⟩ := h
  refine LR.run (.ref it) (fun n s' => ∃ i H', Inv B pins (L2.wipe σ vs) H' s' ∧ tn i s'.heap ∧ (∀ b ∈ fp, H' b = none) ∧ V i n H') R ?_ m0 s ⟨0, H, I, st, nF, v0⟩
  rintro n sA ⟨i, HA, IA, stA, nA, vA⟩
  rcases turn i n HA vA with ⟨stop, qd⟩ | ⟨go, Nx, hN, step⟩
  · refine thnF (T.done B rfl rfl rfl hc i pins sA (L2.wipe σ vs) HA (fun _ _ => False) IA (fF _ HA sA IA nA) stA stop) fun r sB ⟨hr, IB⟩ => ?_
    subst hr
    exact hR HA sB IB qd
  · refine thnF (T.item B rfl rfl rfl hc i pins sA (L2.wipe σ vs) HA (fun _ _ => False) IA (fF _ HA sA IA nA) stA go) fun r sB ⟨u, hr, hB⟩ => ?_
    subst hr
    refine thnF hB fun _ sC ⟨x, HC, IC, rC, yC, stC, nC⟩ => ?_
    have IP := IC.pinned (fF _ HC sC IC nC) (T.obj _ _ stC)
    have pgr := pg.run _ sC (L2.wipe σ vs) HC x u _ IP rC (step x HC yC)
    rw [hxe] at pgr
    refine thnF pgr fun _ sD ⟨σD, HD, ID, eD, qD⟩ => ?_
    have ptr := pt.run _ sD σD HD _ ID qD
    rw [hxe] at ptr
    refine thnF ptr fun b sE ⟨HE, IE, qE⟩ => ?_
    -- the turn's end
    have fin : ∀ (σF : Sl) (HF : Hp) (sF : Shared), Inv B (pins ++ pinsAt fp sC.heap) σF HF sF → Kn wv σD σF → Nx HF → ∃ m, m < n ∧ ∃ i H', Inv B pins (L2.wipe σ vs) H' sF ∧ tn i sF.heap ∧ (∀ b ∈ fp, H' b = none) ∧ V i m H' := fun σF HF sF IF kn nx => by
      obtain ⟨m', hm, v'⟩ := hN HF nx
      have keep : ∀ b ∈ fp, ∀ o, sC.heap.get? b = some o → sF.heap.get? b = some o ∧ HF b = none := fun b hb o e => by
        have z := IF.pin (b, o) (List.mem_append_right _ (List.mem_append_right _ (mem_pinsAt hb e)))
        exact ⟨z.1, z.2.1⟩
      have hl : (L2.wipe σ vs).length = σF.length := by rw [← eD, wipe_length, kn.1]
      refine ⟨m', hm, i + 1, HF, (IF.unpinned (pins := pins)).weak hl (fun j v e => ?_), T.keep _ _ _ stC fun b hb o e => (keep b hb o e).1, fun b hb => ?_, v'⟩
      · rw [← eD] at e
        obtain ⟨e1, e2⟩ := wipe_some e
        exact kn.2 j v (by rw [wipe_out fun z => e2 (hwv j z)]; exact e1)
      · obtain ⟨o, e, _⟩ := T.obj _ _ stC b hb
        exact (keep b hb o e).2
    cases b with
    | false =>
      rw [if_neg Bool.false_ne_true] at qE ⊢
      exact fin σD HE sE IE ⟨rfl, fun j v e => (wipe_some e).1⟩ qE
    | true =>
      rw [if_pos rfl] at qE ⊢
      exact pr.run _ sE σD HE Nx _ IE qE fun σF HF sF IF kn nx => fin σF HF sF IF kn nx
theorem rest_app {elt : Expr} {te : TE} {D : Addr} {wv : List Nat} (hxe : B.xe = fun _ _ => False) (pe : PE B elt te) : PRest B (wpApp B elt D) wv (tApp te D) := by
  refine ⟨fun pins s σ H Nx P I q hP => ?_⟩
  have r := pe.run pins s σ H _ I q
  rw [hxe] at r
  refine thnF r fun z s1 ⟨y, H1, I1, r1, acc, hD, hz, nx⟩ => ?_
  exact app_ok I1 hD hz r1 fun s2 I2 => hP σ _ s2 I2 ⟨rfl, fun j v e => (wipe_some e).1⟩ nx
/-- a clause's start leads to its loop -/
structure StartR (B : Cx) (E : Expr) (k : Nat) (D : Addr) : Prop where
  run : ∀ (it : Value) (R : Result → Shared → Prop) (s : Shared), codeAny (model B.prog B.w) B.A (.compLoop E k it (.ref D) B.env) R s →
    wpAny (model B.prog B.w) B.A (pyIter it) (fun i2 s2 => codeAny (model B.prog B.w) B.A (.compLoop E k i2 (.ref D) B.env) R s2) (notedBy (model B.prog B.w) B.A B.env fun x s2 => R (.error x) s2) s →
    codeAny (model B.prog B.w) B.A (.compStart E k it (.ref D) B.env) R s
theorem rest_nest {E : Expr} {k : Nat} {tg it_ : Expr} {ifs : List Expr} {rw_ : RW} {D : Addr} {wi : TI} {g : TG} {tt : TT} {vs wv : List Nat} {tr : TR} (hc : B.calm = true) (hxe : B.xe = fun _ _ => False) (pi : PI B tg it_ wi) (SR : StartR B E k D) (LR : LoopR B E k tg ifs rw_ D) (pg : PG B tg g) (pt : PTs B ifs tt) (pr : PRest B rw_ wv tr) (hwv : ∀ i ∈ wv, i ∈ vs) :
    PRest B (wpNest B E k it_ D) vs (tNest wi g tt vs tr) := by
  refine ⟨fun pins s σ H Nx P I q hP => ?_⟩
  have r := pi.run pins s σ H _ I q
  rw [hxe] at r
  refine thnF r fun xv s1 hx => thnF hx fun itv s2 ⟨it, fp, tn, J, H2, e, I2, T, st, f2, lp⟩ => ?_
  subst e
  have go : codeAny (model B.prog B.w) B.A (.compLoop E k (.ref it) (.ref D) B.env) (fun r s' => match r with
      | .ok _ => P s'
      | .error _ => False) s2 :=
    clause_run hc hxe LR pg pt pr hwv (I2.weak (wipe_length _ _) fun j v e => (wipe_some e).1) T st (fun _ H' _ _ hn b hb => ⟨hn b hb, (f2 b hb).2⟩) (fun b hb => (f2 b hb).1) lp fun H' s' I' nx => hP _ H' s' I' ⟨(wipe_length σ vs).symm, fun j v e => e⟩ nx
  exact SR.run (.ref it) _ s2 go (T.self B.A 0 _ _ _ st go)
end
end Bk

set_option Elab.async false
set_option linter.all false
set_option maxRecDepth 100000
set_option maxHeartbeats 4000000
namespace Bk
open PySem PySem.Spec PyProof.Rows L2
variable [Cls]
section
variable {B : Cx}
/-- a clause behind whose tests another one starts -/
theorem loop_nest {E : Expr} {k k1 : Nat} {tg i1 : Expr} {ifs : List Expr} {D : Addr} {p0 : Pos} (hs : ∀ x, foldedSetIterable i1 B.env x = pure x)
    (hq : ∀ it, (Code.compLoop E k it (.ref D) B.env).quiet = true)
    (hd : ∀ it, (model B.prog B.w).den (.compLoop E k it (.ref D) B.env) = (compTurn E k it (.ref D) B.env).onRaise (fun x => do noteFrame x B.env; theTreesLotGoes x))
    (hu : ∀ it, B.A.under (.compLoop E k it (.ref D) B.env) = B.A)
    (hT : ∀ it, compTurn E k it (.ref D) B.env = (do
      standAt p0
      match ← pyNext it with
      | none => pure (.done .next)
      | some v =>
        letOwnedTupleGo tg it v
        assign tg B.env v
        let mut go := true
        for c in ifs do
          if go then go ← isTrue c B.env (eval c B.env)
        if go then
          let x ← eval i1 B.env
          standAt i1.pos
          let x ← foldedSetIterable i1 B.env x
          let _ ← runOwn (.compStart E k1 (← holding [x] (pyIter x)) (.ref D) B.env) B.env
        again (.compLoop E k it (.ref D) B.env))) : LoopR B E k tg ifs (wpNest B E k1 i1 D) D := by
  refine ⟨fun it I R turn n s h => ?_⟩
  refine codeAny_loop (hq it) I (fun n s hI => ?_) n h
  rw [hd it, hu it]
  refine wpAny_noted ?_
  rw [hT it]
  refine wpAny_bind (wpAny_standAt (wpAny_bind (thnF (turn n s hI) fun r s1 h1 => ?_)))
  cases r with
  | none => exact wpAny_pure h1
  | some v =>
    refine wpAny_bind (thnF h1 fun _ s2 h2 => wpAny_bind (thnF h2 fun _ s3 h3 => wpAny_bind (thnF h3 fun go s4 h4 => ?_)))
    cases go with
    | false => exact wpAny_pure ⟨rfl, h4⟩
    | true =>
      have h4 : wpNest B E k1 i1 D (fun s' => ∃ m, m < n ∧ I m s') s4 := h4
      refine wpAny_bind (thnF h4 fun x s5 h5 => ?_)
      refine wpAny_bind (wpAny_standAt (wpAny_bind (wpAny_of_eq (hs x) (wpAny_bind (wpAny_holding (thnF h5 fun i2 s6 h6 => ?_))))))
      refine wpAny_bind (wpAny_runOwn ?_)
      rw [Around.mark_none]
      refine codeAny_mono h6 fun r s' hr => ?_
      cases r with
      | ok f =>
        first
          | exact wpAny_pure ⟨rfl, hr⟩
          | exact wpAny_bind (wpAny_pure (wpAny_pure ⟨rfl, hr⟩))
      | error e => exact hr.elim
/-- the last clause -/
theorem loop_last {E elt : Expr} {k : Nat} {tg : Expr} {ifs : List Expr} {D : Addr} {p0 : Pos}
    (hq : ∀ it, (Code.compLoop E k it (.ref D) B.env).quiet = true)
    (hd : ∀ it, (model B.prog B.w).den (.compLoop E k it (.ref D) B.env) = (compTurn E k it (.ref D) B.env).onRaise (fun x => do noteFrame x B.env; theTreesLotGoes x))
    (hu : ∀ it, B.A.under (.compLoop E k it (.ref D) B.env) = B.A)
    (hT : ∀ it, compTurn E k it (.ref D) B.env = (do
      standAt p0
      match ← pyNext it with
      | none => pure (.done .next)
      | some v =>
        letOwnedTupleGo tg it v
        assign tg B.env v
        let mut go := true
        for c in ifs do
          if go then go ← isTrue c B.env (eval c B.env)
        if go then
          (do let _ ← call (.builtin "list.append") [.ref D, ← eval elt B.env])
        again (.compLoop E k it (.ref D) B.env))) : LoopR B E k tg ifs (wpApp B elt D) D := by
  refine ⟨fun it I R turn n s h => ?_⟩
  refine codeAny_loop (hq it) I (fun n s hI => ?_) n h
  rw [hd it, hu it]
  refine wpAny_noted ?_
  rw [hT it]
  refine wpAny_bind (wpAny_standAt (wpAny_bind (thnF (turn n s hI) fun r s1 h1 => ?_)))
  cases r with
  | none => exact wpAny_pure h1
  | some v =>
    refine wpAny_bind (thnF h1 fun _ s2 h2 => wpAny_bind (thnF h2 fun _ s3 h3 => wpAny_bind (thnF h3 fun go s4 h4 => ?_)))
    cases go with
    | false => exact wpAny_pure ⟨rfl, h4⟩
    | true =>
      have h4 : wpApp B elt D (fun s' => ∃ m, m < n ∧ I m s') s4 := h4
      exact wpAny_bind (wpAny_bind (thnF h4 fun x s5 h5 => wpAny_bind (thnF h5 fun _ s6 h6 => wpAny_pure (wpAny_pure ⟨rfl, h6⟩))))
/-- a further clause's start -/
theorem start1 {elt t0 i0 t1 i1 t2 i2 : Expr} {f0 f1 f2 : List Expr} {scope : Scope} {pos : Pos} {D : Addr} : StartR B (.ListComp elt [⟨t0, i0, f0, 0⟩, ⟨t1, i1, f1, 0⟩, ⟨t2, i2, f2, 0⟩] scope pos) 1 D := by
  refine ⟨fun it R s h0 h => codeAny_of_tree ?_⟩
  show wpAny _ _ ((compStart (.ListComp elt [⟨t0, i0, f0, 0⟩, ⟨t1, i1, f1, 0⟩, ⟨t2, i2, f2, 0⟩] scope pos) 1 it (.ref D) B.env).onRaise (fun x => do noteFrame x B.env; standAt theWindowsPlace)) _ _ s
  refine wpAny_notedAt ?_
  unfold compStart
  show wpAny _ _ (ask >>= _) _ _ s
  refine wpAny_bind (wpAny_askSetting (wpAny_ite ?_))
  split
  · first
      | exact wpAny_bind (wpAny_pure (wpAny_pure (And.intro rfl h0)))
      | exact wpAny_pure (And.intro rfl h0)
  · first
      | exact wpAny_bind (wpAny_rule (wpAny_bind (wpAny_standAt (wpAny_bind (wpAny_mono h (fun i2 u q => wpAny_pure (And.intro rfl q)) fun _ _ z => z)))))
      | (refine wpAny_bind (wpAny_rule ?_); show wpAny _ _ (standAt _ >>= _) _ _ s; exact wpAny_bind (wpAny_standAt (wpAny_bind (wpAny_mono h (fun i2 u q => wpAny_pure (And.intro rfl q)) fun _ _ z => z))))
theorem start2 {elt t0 i0 t1 i1 t2 i2 : Expr} {f0 f1 f2 : List Expr} {scope : Scope} {pos : Pos} {D : Addr} : StartR B (.ListComp elt [⟨t0, i0, f0, 0⟩, ⟨t1, i1, f1, 0⟩, ⟨t2, i2, f2, 0⟩] scope pos) 2 D := by
  refine ⟨fun it R s h0 h => codeAny_of_tree ?_⟩
  show wpAny _ _ ((compStart (.ListComp elt [⟨t0, i0, f0, 0⟩, ⟨t1, i1, f1, 0⟩, ⟨t2, i2, f2, 0⟩] scope pos) 2 it (.ref D) B.env).onRaise (fun x => do noteFrame x B.env; standAt theWindowsPlace)) _ _ s
  refine wpAny_notedAt ?_
  unfold compStart
  show wpAny _ _ (ask >>= _) _ _ s
  refine wpAny_bind (wpAny_askSetting (wpAny_ite ?_))
  split
  · first
      | exact wpAny_bind (wpAny_pure (wpAny_pure (And.intro rfl h0)))
      | exact wpAny_pure (And.intro rfl h0)
  · first
      | exact wpAny_bind (wpAny_rule (wpAny_bind (wpAny_standAt (wpAny_bind (wpAny_mono h (fun i2 u q => wpAny_pure (And.intro rfl q)) fun _ _ z => z)))))
      | (refine wpAny_bind (wpAny_rule ?_); show wpAny _ _ (standAt _ >>= _) _ _ s; exact wpAny_bind (wpAny_standAt (wpAny_bind (wpAny_mono h (fun i2 u q => wpAny_pure (And.intro rfl q)) fun _ _ z => z))))
/-! the loops of three clauses -/
section
variable {elt t0 i0 t1 i1 t2 i2 : Expr} {f0 f1 f2 : List Expr} {scope : Scope} {pos : Pos} {D : Addr}
theorem loop3_0 (hs : ∀ x, foldedSetIterable i1 B.env x = pure x) : LoopR B (.ListComp elt [⟨t0, i0, f0, 0⟩, ⟨t1, i1, f1, 0⟩, ⟨t2, i2, f2, 0⟩] scope pos) 0 t0 f0 (wpNest B (.ListComp elt [⟨t0, i0, f0, 0⟩, ⟨t1, i1, f1, 0⟩, ⟨t2, i2, f2, 0⟩] scope pos) 1 i1 D) D :=
  loop_nest (p0 := i0.pos) hs (fun _ => rfl) (fun _ => rfl) (fun _ => rfl) fun _ => rfl
theorem loop3_1 (hs : ∀ x, foldedSetIterable i2 B.env x = pure x) : LoopR B (.ListComp elt [⟨t0, i0, f0, 0⟩, ⟨t1, i1, f1, 0⟩, ⟨t2, i2, f2, 0⟩] scope pos) 1 t1 f1 (wpNest B (.ListComp elt [⟨t0, i0, f0, 0⟩, ⟨t1, i1, f1, 0⟩, ⟨t2, i2, f2, 0⟩] scope pos) 2 i2 D) D :=
  loop_nest (p0 := i1.pos) hs (fun _ => rfl) (fun _ => rfl) (fun _ => rfl) fun _ => rfl
theorem loop3_2 : LoopR B (.ListComp elt [⟨t0, i0, f0, 0⟩, ⟨t1, i1, f1, 0⟩, ⟨t2, i2, f2, 0⟩] scope pos) 2 t2 f2 (wpApp B elt D) D :=
  loop_last (p0 := i2.pos) (fun _ => rfl) (fun _ => rfl) (fun _ => rfl) fun _ => rfl
end
end
/-! a list comprehension of any clauses, as a value -/
section
variable {X : Cx}
theorem pe_lcN {elt t0 i0 : Expr} {f0 : List Expr} {rest : List Comprehension} {scope : Scope} {own : List (Str × Nat)} {pos : Pos} {wi : TI} {g : TG} {tt : TT} {wv : List Nat} {tr : Addr → TR} (hc : X.calm = true) (hN : X.N.Nodup) (hi : PI X t0 i0 wi) (ok : BlkOk X.N X.env.scope scope own) (hwv : ∀ i ∈ wv, i ∈ own.map (·.2))
    (hB : ∀ (s : Shared) (H : Hp) (C : Addr) (cl : List (Str × Addr)) (fp : List Addr), PG (X.blk s H scope (compEnvC scope cl C X.env) fp) t0 g ∧ PTs (X.blk s H scope (compEnvC scope cl C X.env) fp) f0 tt ∧
      ∀ D, ∃ rw_, LoopR (X.blk s H scope (compEnvC scope cl C X.env) fp) (.ListComp elt (⟨t0, i0, f0, 0⟩ :: rest) scope pos) 0 t0 f0 rw_ D ∧ PRest (X.blk s H scope (compEnvC scope cl C X.env) fp) rw_ wv (tr D))
    (hs : ∀ x, foldedSetIterable i0 X.env x = pure x := by intro _; rfl) : PE X (.ListComp elt (⟨t0, i0, f0, 0⟩ :: rest) scope pos) (tLcN wi g tt (own.map (·.2)) tr) := by
  refine ⟨fun pins s σ H Q I h => ?_⟩
  rw [eval_ListComp]
  have hfree : ∀ y ∈ scope.names, y.2 = .free → ∃ c, X.env.cells.lookup y.1 = some c := fun y hy e => I.ok.has _ (ok.free y hy e)
  refine wpAny_comprehension_free rfl hs (closure_ok hfree) ok.kind (fun y hy e => (ok.uniq y hy).trans (congrArg some e)) (thn (hi.run pins s σ H _ I h) fun xv s1 hx => thn hx fun itv s2 h2 => ?_)
  obtain ⟨it, fp, tn, J, H2, e, I2, T, st2, f2, q⟩ := h2
  subst e
  refine wpAny_newObj_type (newEnv_comp ?_) (by show 0 ≤ sizeLine; decide)
  generalize eD : s2.heap.objs.size = D
  have nD : H2 D = none := I2.hok.fresh (Nat.le_of_eq eD)
  have lp := q D nD
  generalize eA : ({ s2 with heap := s2.heap.push { cls := .type "list", data := .seq ([] : List Value).toArray } } : Shared) = sA
  have hA : sA.heap = s2.heap.push { cls := .type "list", data := .seq ([] : List Value).toArray } := by rw [← eA]
  have IA : Inv X pins σ (upd H2 D (.lst [])) sA := by
    subst eA
    refine I2.laid (t' := s2.toks) (fun b o z => Heap.get?_push_of_some _ z) (Nat.le_of_eq eD) ⟨Nat.zero_le _, [], 0, .nil, ?_⟩
    subst eD
    exact Heap.get?_push_size _ rfl
  have fA : ∀ b ∈ fp, FpOk X pins (upd H2 D (.lst [])) b ∧ b < sA.heap.objs.size := fun b hb => by
    obtain ⟨o, z, _⟩ := T.obj _ _ st2 b hb
    have hlt := Heap.lt_size z
    refine ⟨⟨by rw [upd_ne (by rw [← eD]; exact Nat.ne_of_lt hlt)]; exact (f2 b hb).1, (f2 b hb).2⟩, ?_⟩
    rw [hA, Heap.size_push]
    exact Nat.lt_succ_of_lt hlt
  have stA : tn 0 sA.heap := T.keep _ _ _ st2 fun b _ o z => by rw [hA]; exact Heap.get?_push_of_some _ z
  have IB := block_start IA ok hN fA
  obtain ⟨pg, pt, hD⟩ := hB sA (upd H2 D (.lst [])) sA.heap.objs.size (cellsFrom (sA.heap.objs.size + 1) scope.names (cloFrom X.env.cells scope.names [])) fp
  obtain ⟨rw_, LR, pr⟩ := hD D
  generalize eB : ({ sA with heap := pushCells (sA.heap.push { cls := .type "dict", data := .dict #[] }) scope.names } : Shared) = sB at IB
  have stB : tn 0 sB.heap := T.keep _ _ _ stA fun b _ o z => by rw [← eB]; exact pushCells_keeps _ _ _ _ (Heap.get?_push_of_some _ z)
  have loop := clause_run (B := X.blk sA (upd H2 D (.lst [])) scope (compEnvC scope (cellsFrom (sA.heap.objs.size + 1) scope.names (cloFrom X.env.cells scope.names [])) sA.heap.objs.size X.env) fp) (pins := []) (R := compPost (model X.prog X.w) X.A X.xe none (EP X pins σ Q) (.ref D) sA.heap.objs.size) hc rfl LR pg pt pr hwv IB T stB (fun σ' H' s' I' hn b hb => ⟨hn b hb, (I'.ok.exf b hb).1, I'.ok.exfs b hb, .inl hb, fun x c z => (I'.ok.exf b hb).2 x c z, fun p hp => absurd (show p ∈ ([] : List (Addr × Obj)) ++ [] from hp) (by simp)⟩) (fun b hb => (fA b hb).1.1) lp fun H' s' I' qq => by
    have I7 : Inv X pins σ H' s' := IA.call' (ch := fp) I'.os I'.base I'.hok I'.bare fun b hb => ⟨(fA b hb).1.2.2.2.1, (fA b hb).1.2.1, (fA b hb).1.2.2.2.2.1, (fA b hb).1.2.2.2.2.2⟩
    have nC : H' sA.heap.objs.size = none := I'.free
    obtain ⟨m, hn, _⟩ := I'.loc
    have hn : s'.heap.Ns sA.heap.objs.size m := hn
    obtain ⟨z0, z1, z2, z3, z4, z5⟩ := IA.fpOk (H' := H') (Nat.le_refl _) nC
    exact ⟨m, hn, fun h'' sb => ⟨.ref D, H', I7.turned (t' := s'.toks) (fun b o hb z => (sb.2 b hb).trans z) z0 z1 z3 z4 z5, rfl, qq⟩⟩
  subst eB
  exact codeAny_compStart_list loop (T.self X.A 0 _ _ _ stB loop)
end
end Bk

set_option Elab.async false
set_option linter.all false
set_option maxRecDepth 100000
set_option maxHeartbeats 4000000
namespace Bk
open PySem PySem.Spec PyProof.Rows L2
variable [Cls]
/-! ### list comprehensions of any number of clauses: mirrors -/
abbrev MRs := Env → List D → R (List D)
def rApp (e : M) : MRs := fun s acc => (e s).bind fun z s3 => if acc.length < 16000000 then .ok (acc ++ [z]) s3 else .stuck
def loopM (g : MG) (c : MB) (r : MRs) (vs : List Nat) : List D → Env → List D → R (List D)
  | [], s, acc => .ok acc s
  | d :: ds, s, acc => match g d s with
    | none => .stuck
    | some s1 => (c s1).bind fun b s2 => if b = true then (r s2 acc).bind fun acc' s3 => loopM g c r vs ds (swipe s3 vs) acc' else loopM g c r vs ds (swipe s2 vs) acc
def rNest (mi : MA) (g : MG) (c : MB) (vs : List Nat) (r : MRs) : MRs := fun s acc => (mi s).bind fun ds s3 => loopM g c r vs ds (swipe s3 vs) acc
def mCompN (mi : MA) (g : MG) (c : MB) (vs : List Nat) (r : MRs) : M := fun s => (mi s).bind fun ds s1 => (loopM g c r vs ds (swipe s1 vs) []).noerr.bind fun zs s2 => .ok (.lst zs) (srest s1 s2 vs)
section
variable {X : Cx} {n : Nat} {G : Gr n} {W : WX} {Γ : List Ty}
/-- what is wanted behind a turn's rest; from the base Fb, fpb, Hb (ahead of the new list), F the heap at the rest's start -/
def PostR (G : Gr n) (Γ : List Ty) (σ : Sl) (F : Hp) (Fb : Hp) (fpb : Fp) (Hb : Hp) (p : Addr) (wv : List Nat) (Nx : Hp → Prop) : R (List D) → Prop
  | .ok zs s' => ∀ σ' F' fp' H' ws, Rel G Γ s' σ' F' fp' H' → L2.wipe σ' wv = L2.wipe σ wv → Same F F' → Stp L0 Fb fpb Hb F' fp' H' → H' p = some (.lst ws) → Reps F' zs ws → F' p = none → (∀ i, p ∉ fp' i) → Nx H'
  | _ => False
/-- a rest's reading, from its mirror -/
structure RS (G : Gr n) (Γ : List Ty) (p : Addr) (wv : List Nat) (r : MRs) (tr : TR) : Prop where
  run : ∀ (s : Env) (σ : Sl) (F : Hp) (fp : Fp) (H : Hp) (Fb : Hp) (fpb : Fp) (Hb : Hp) (acc : List D) (av : List V) (Nx : Hp → Prop), Hb p = none → Stp L0 Fb fpb Hb F fp H → Rel G Γ s σ F fp H → H p = some (.lst av) → Reps F acc av → F p = none → (∀ i, p ∉ fp i) → G.H p = none → PostR G Γ σ F Fb fpb Hb p wv Nx (r s acc) → tr σ H Nx
theorem wipe_sub {σ σ' : Sl} {wv vs : List Nat} (h : L2.wipe σ' wv = L2.wipe σ wv) (hs : ∀ i ∈ wv, i ∈ vs) : L2.wipe σ' vs = L2.wipe σ vs := by
  have hl : σ'.length = σ.length := by rw [← wipe_length σ' wv, h, wipe_length]
  refine wipe_eq hl fun j hj => ?_
  rw [← wipe_get σ' wv j fun z => hj (hs j z), h, wipe_get σ wv j fun z => hj (hs j z)]
/-- behind a loop -/
def PostL (G : Gr n) (Γ : List Ty) (σ : Sl) (F : Hp) (Fb : Hp) (fpb : Fp) (Hb : Hp) (p : Addr) (vs : List Nat) (Qd : Hp → Prop) : R (List D) → Prop
  | .ok zs s' => ∀ F' fp' H' ws, Rel G Γ s' (L2.wipe σ vs) F' fp' H' → Same F F' → Stp L0 Fb fpb Hb F' fp' H' → H' p = some (.lst ws) → Reps F' zs ws → F' p = none → (∀ i, p ∉ fp' i) → Qd H'
  | _ => False
theorem loop_read {K : PySem.W.Frag} {g : MG} {c : MB} {r : MRs} {vs wv js : List Nat} {tr : TR} {ds : List D} {J : It} {σ : Sl} {F H Fb Hb : Hp} {fp fpb : Fp} {s0 : Env} {p : Addr} {Qd : Hp → Prop} {acc0 : List D} {av0 : List V} (hjs : ∀ j ∈ js, j ∈ vs) (hvs : ∀ v ∈ vs, Γ[v]? = some .fr) (hwv : ∀ i ∈ wv, i ∈ vs) (rs : RS G Γ p wv r tr) (hσl : σ.length = Γ.length)
    (wk : Wk G Γ J F ds) (hb : Hb p = none) (x0 : Stp L0 Fb fpb Hb F fp H) (hG : G.H p = none) (R0 : Rel G Γ s0 (L2.wipe σ vs) F fp H) (hp0 : H p = some (.lst av0)) (ra0 : Reps F acc0 av0) (hF0 : F p = none) (hf0 : ∀ i, p ∉ fp i)
    (q : PostL G Γ σ F Fb fpb Hb p vs Qd (loopM g c r vs ds s0 acc0)) : tLoop (tG G Γ js g) (tMB K G W0 Γ c) vs tr J σ H Qd := by
  have hw : ∀ v ∈ vs, n ≤ v ∨ Γ[v]? = some .fr := fun v hv => .inr (hvs v hv)
  let St (i : Nat) (H1 : Hp) : Prop := i ≤ ds.length ∧ ∃ s' F' fp' acc accv, Rel G Γ s' (L2.wipe σ vs) F' fp' H1 ∧ Same F F' ∧ Stp L0 Fb fpb Hb F' fp' H1 ∧ H1 p = some (.lst accv) ∧ Reps F' acc accv ∧ F' p = none ∧ (∀ i, p ∉ fp' i) ∧ PostL G Γ σ F Fb fpb Hb p vs Qd (loopM g c r vs (ds.drop i) s' acc)
  refine ⟨fun i m H1 => m = ds.length - i ∧ St i H1, ⟨ds.length, by simp, Nat.zero_le _, s0, F, fp, acc0, av0, R0, Same.refl F, x0, hp0, ra0, hF0, hf0, q⟩, ?_⟩
  rintro i m H1 ⟨rfl, hi, s', F', fp', acc, accv, R', sm, x', hpl, ra, hF, hf, q'⟩
  obtain ⟨w1, w2⟩ := wk i s' _ F' fp' H1 R' sm
  by_cases hlt : i < ds.length
  · have hd : ds[i]? = some ds[i] := by simp [hlt]
    have hdrop : ds.drop i = ds[i] :: ds.drop (i + 1) := List.drop_eq_getElem_cons hlt
    rw [hdrop] at q'
    obtain ⟨go, hy⟩ := w1 _ hd
    refine .inr ⟨go, St (i + 1), fun H' n' => ⟨ds.length - (i + 1), by omega, rfl, n'⟩, fun y H2 yv => ?_⟩
    obtain ⟨F2, R2, x2, r2⟩ := hy y H2 yv
    unfold loopM at q'
    cases eg : g ds[i] s' with
    | none => rw [eg] at q'; exact q'.elim
    | some s2 =>
      rw [eg] at q'
      simp only [] at q'
      refine ⟨ds[i], s', F2, fp', R2, r2, s2, eg, fun σ3 fp3 R3 x3 k3 => ?_⟩
      have hσ : L2.wipe σ3 vs = L2.wipe σ vs := by
        rw [← wipe_wipe σ vs]
        exact wipe_eq (by rw [wipe_length, R3.lσ, ← hσl]) fun j hj => k3 j fun z => hj (hjs j z)
      refine ⟨hσ, s2, F2, fp3, R3, ?_⟩
      obtain ⟨p2, f2, g2⟩ := keepP hpl hF hf (x2.trans x3) R'.tb
      have xx := x'.trans (x2.trans x3)
      cases ec : c s2 with
      | err _ _ => rw [ec] at q'; exact q'.elim
      | stuck => rw [ec] at q'; exact q'.elim
      | ok b s3 =>
        rw [ec, Bk.R.bind_ok] at q'
        intro b' F4 fp4 H4 R4 x4 eb
        cases eb
        obtain ⟨p4, f4, g4⟩ := keepP p2 f2 g2 x4 R3.tb
        have s4 : Same F' F4 := x2.f.trans (x3.f.trans x4.f)
        have ra4 : Reps F4 acc accv := ra.mono s4
        cases b with
        | false =>
          rw [if_neg Bool.false_ne_true]
          rw [if_neg Bool.false_ne_true] at q'
          refine ⟨hlt, swipe s3 vs, F4, fp4, acc, accv, ?_, sm.trans s4, xx.trans x4, p4, ra4, f4, g4, q'⟩
          have := R4.wipe hw
          rw [hσ] at this
          exact this
        | true =>
          rw [if_pos rfl]
          rw [if_pos rfl] at q'
          refine rs.run s3 σ3 F4 fp4 H4 Fb fpb Hb acc accv (St (i + 1)) hb (xx.trans x4) R4 p4 ra4 f4 g4 hG ?_
          cases er : r s3 acc with
          | err _ _ => rw [er] at q'; exact q'.elim
          | stuck => rw [er] at q'; exact q'.elim
          | ok acc' s5 =>
            rw [er, Bk.R.bind_ok] at q'
            intro σ5 F5 fp5 H5 ws R5 e5 m5 x5 p5 ra5 f5 g5
            refine ⟨hlt, swipe s5 vs, F5, fp5, acc', ws, ?_, sm.trans (s4.trans m5), x5, p5, ra5, f5, g5, q'⟩
            have := R5.wipe hw
            rw [wipe_sub e5 hwv, hσ] at this
            exact this
  · have e : i = ds.length := by omega
    subst e
    rw [List.drop_length] at q'
    exact .inl ⟨w2 (Nat.le_refl _), q' F' fp' H1 accv R' sm x' hpl ra hF hf⟩
theorem rs_nest {K : PySem.W.Frag} {mi : MA} {g : MG} {c : MB} {r : MRs} {vs wv js : List Nat} {tr : TR} {p : Addr} (hjs : ∀ j ∈ js, j ∈ vs) (hvs : ∀ v ∈ vs, Γ[v]? = some .fr) (hwv : ∀ i ∈ wv, i ∈ vs) (rs : RS G Γ p wv r tr) :
    RS G Γ p vs (rNest mi g c vs r) (tNest (tI K G W0 Γ mi) (tG G Γ js g) (tMB K G W0 Γ c) vs tr) := by
  refine ⟨fun s σ F fp H Fb fpb Hb acc av Nx hb x0 R1 hp ra hF hf hG q => ⟨s, F, fp, R1, ?_⟩⟩
  unfold rNest at q
  cases em : mi s with
  | err _ _ => rw [em] at q; exact q.elim
  | stuck => rw [em] at q; exact q.elim
  | ok ds s3 =>
    rw [em, Bk.R.bind_ok] at q
    intro J F2 fp2 H2 R2 x2 wk
    obtain ⟨p2, f2, g2⟩ := keepP hp hF hf x2 R1.tb
    refine loop_read (K := K) hjs hvs hwv rs R2.lσ wk hb (x0.trans x2) hG (R2.wipe fun v hv => .inr (hvs v hv)) p2 (ra.mono x2.f) f2 g2 ?_
    cases el : loopM g c r vs ds (swipe s3 vs) acc with
    | err _ _ => rw [el] at q; exact q.elim
    | stuck => rw [el] at q; exact q.elim
    | ok zs s4 =>
      rw [el] at q
      intro F4 fp4 H4 ws R4 m4 x4 p4 ra4 f4 g4
      exact q _ F4 fp4 H4 ws R4 (wipe_wipe σ vs) (x2.f.trans m4) x4 p4 ra4 f4 g4
theorem rs_app {K : PySem.W.Frag} {e : M} {wv : List Nat} {p : Addr} : RS G Γ p wv (rApp e) (tApp (tM K G W0 Γ .fr e) p) := by
  refine ⟨fun s σ F fp H Fb fpb Hb acc av Nx hb x0 R1 hp ra hF hf hG q => ⟨s, F, fp, R1, ?_⟩⟩
  unfold rApp at q
  cases ee : e s with
  | err _ _ => rw [ee] at q; exact q.elim
  | stuck => rw [ee] at q; exact q.elim
  | ok z s3 =>
    rw [ee, Bk.R.bind_ok] at q
    intro y F4 fp4 H4 R4 x4 ay
    obtain ⟨p4, f4, g4⟩ := keepP hp hF hf x4 R1.tb
    by_cases hl : acc.length < 16000000
    · rw [if_pos hl] at q
      have hra : Reps F4 acc av := ra.mono x4.f
      exact ⟨av, p4, by rw [← ra.len]; exact sixteen hl, q σ F4 fp4 _ (av ++ [y]) (R4.tmp f4 g4 hG p4) rfl x4.f ((x0.trans x4).tmp hb ⟨_, p4, rfl⟩) upd_same (hra.app (.cons ay.rep .nil)) f4 g4⟩
    · rw [if_neg hl] at q; exact q.elim
theorem compN_read {K : PySem.W.Frag} {mi : MA} {g : MG} {c : MB} {r : MRs} {vs wv js : List Nat} {tr : Addr → TR} {σ : Sl} {H : Hp} {Q : VK} (hjs : ∀ j ∈ js, j ∈ vs) (hvs : ∀ v ∈ vs, Γ[v]? = some .fr) (hwv : ∀ i ∈ wv, i ∈ vs) (rs : ∀ p, RS G Γ p wv r (tr p)) (h : tM K G W Γ .ol (mCompN mi g c vs r) σ H Q) :
    tLcN (tI K G W Γ mi) (tG G Γ js g) (tMB K G W0 Γ c) vs tr σ H Q := by
  obtain ⟨s, F, fp, R, q⟩ := h
  refine ⟨s, F, fp, R, pbind q fun ds s1 J F1 fp1 H1 R1 st1 (wk : Wk G Γ J F1 ds) q1 => fun p hp => ?_⟩
  obtain ⟨a, b⟩ := (R1.wipe (vs := vs) fun v hv => .inr (hvs v hv)).lay (o := .lst []) hp
  refine loop_read (K := K) (F := F1) (fp := fp1) (Fb := F1) (fpb := fp1) (Hb := H1) hjs hvs hwv (rs p) R1.lσ wk hp b (R1.newG hp) a upd_same .nil (R1.nowF hp) (R1.newFp hp) ?_
  have z := comp_end (K := K) (W := W) (g := g) (c := c) (e := mVar 0) (ds := ds) hvs R1 hp (Classical.byContradiction fun z => st1.there p z hp) q1
  cases el : loopM g c r vs ds (swipe s1 vs) [] with
  | err _ _ => rw [el] at z; exact z.elim
  | stuck => rw [el] at z; exact z.elim
  | ok zs s2 =>
    rw [el] at z
    exact fun F' fp' H' ws R' _ x' hpl ra hF hf => z F' fp' H' ws R' x' hpl ra hF hf
end
section
variable {X : Cx} {n : Nat} {G : Gr n} {W : WX} {Γ : List Ty}
/-- three clauses -/
theorem me_comp3 {elt t0 i0 t1 i1 t2 i2 : Expr} {f0 f1 f2 : List Expr} {scope : Scope} {own : List (Str × Nat)} {pos : Pos} {mi mi1 mi2 : MA} {g g1 g2 : MG} {c c1 c2 : MB} {e : M} {js vs1 js1 vs2 js2 : List Nat} (hc : X.calm = true) (hN : X.N.Nodup) (hi : MI X G W Γ t0 i0 mi) (ok : BlkOk X.N X.env.scope scope own)
    (hB : ∀ (s : Shared) (H : Hp) (C : Addr) (cl : List (Str × Addr)) (fp : List Addr), MGt (X.blk s H scope (compEnvC scope cl C X.env) fp) G Γ js t0 g ∧ PTs (X.blk s H scope (compEnvC scope cl C X.env) fp) f0 (tMB X.K G W0 Γ c) ∧
      MI (X.blk s H scope (compEnvC scope cl C X.env) fp) G W0 Γ t1 i1 mi1 ∧ MGt (X.blk s H scope (compEnvC scope cl C X.env) fp) G Γ js1 t1 g1 ∧ PTs (X.blk s H scope (compEnvC scope cl C X.env) fp) f1 (tMB X.K G W0 Γ c1) ∧
      MI (X.blk s H scope (compEnvC scope cl C X.env) fp) G W0 Γ t2 i2 mi2 ∧ MGt (X.blk s H scope (compEnvC scope cl C X.env) fp) G Γ js2 t2 g2 ∧ PTs (X.blk s H scope (compEnvC scope cl C X.env) fp) f2 (tMB X.K G W0 Γ c2) ∧
      ME (X.blk s H scope (compEnvC scope cl C X.env) fp) G W0 Γ elt .fr e)
    (h1 : ∀ v ∈ vs1, v ∈ own.map (·.2) := by decide) (h2 : ∀ v ∈ vs2, v ∈ vs1 := by decide) (hjs : ∀ j ∈ js, j ∈ own.map (·.2) := by decide) (hjs1 : ∀ j ∈ js1, j ∈ vs1 := by decide) (hjs2 : ∀ j ∈ js2, j ∈ vs2 := by decide) (hvs : ∀ v ∈ own.map (·.2), Γ[v]? = some .fr := by decide)
    (hs : ∀ x, foldedSetIterable i0 X.env x = pure x := by intro _; rfl) (hs1 : ∀ env x, foldedSetIterable i1 env x = pure x := by intro _ _; rfl) (hs2 : ∀ env x, foldedSetIterable i2 env x = pure x := by intro _ _; rfl) :
    ME X G W Γ (.ListComp elt [⟨t0, i0, f0, 0⟩, ⟨t1, i1, f1, 0⟩, ⟨t2, i2, f2, 0⟩] scope pos) .ol (mCompN mi g c (own.map (·.2)) (rNest mi1 g1 c1 vs1 (rNest mi2 g2 c2 vs2 (rApp e)))) := by
  have hv1 : ∀ v ∈ vs1, Γ[v]? = some .fr := fun v hv => hvs v (h1 v hv)
  have hv2 : ∀ v ∈ vs2, Γ[v]? = some .fr := fun v hv => hv1 v (h2 v hv)
  refine peI (pe_lcN (wi := tI X.K G W Γ mi) (g := tG G Γ js g) (tt := tMB X.K G W0 Γ c) (wv := vs1) (tr := fun p => tNest (tI X.K G W0 Γ mi1) (tG G Γ js1 g1) (tMB X.K G W0 Γ c1) vs1 (tNest (tI X.K G W0 Γ mi2) (tG G Γ js2 g2) (tMB X.K G W0 Γ c2) vs2 (tApp (tM X.K G W0 Γ .fr e) p))) hc hN hi ok h1 (fun s H C cl fp => ?_) hs) fun σ H Q h => compN_read hjs hvs h1 (fun p => rs_nest hjs1 hv1 h2 (rs_nest (wv := []) hjs2 hv2 (fun _ z => by cases z) rs_app)) h
  obtain ⟨b1, b2, b3, b4, b5, b6, b7, b8, b9⟩ := hB s H C cl fp
  refine ⟨b1, b2, fun D => ⟨_, loop3_0 (hs1 _), ?_⟩⟩
  exact rest_nest hc rfl b3 start1 (loop3_1 (hs2 _)) b4 b5 (rest_nest hc rfl b6 start2 loop3_2 b7 b8 (rest_app (wv := []) rfl b9) fun _ z => by cases z) h2
end
end Bk

set_option Elab.async false
set_option linter.all false
set_option maxRecDepth 100000
set_option maxHeartbeats 4000000
namespace Bk
open PySem PySem.Spec PyProof.Rows L2
variable [Cls]
/-! ### lists turned round, shortened, made longer -/
theorem Reps.turn {F : Hp} : ∀ {ds : List D} {vs : List V}, Reps F ds vs → Reps F ds.reverse vs.reverse
  | _, _, .nil => .nil
  | _, _, .cons r t => by
    rw [List.reverse_cons, List.reverse_cons]
    exact (Reps.turn t).app (.cons r .nil)
theorem Reps.dropLast {F : Hp} : ∀ {ds : List D} {vs : List V}, Reps F ds vs → Reps F ds.dropLast vs.dropLast
  | _, _, .nil => .nil
  | _, _, .cons r .nil => .nil
  | _, _, .cons r (.cons r2 t) => .cons r (Reps.dropLast (.cons r2 t))
def mRev (m : M) : M := fun s => (m s).bind fun d s1 => match d with
  | .lst ds => .ok (.lst ds.reverse) s1
  | _ => .stuck
def mPop (i : Nat) : M := fun s => match s[i]? with
  | some (some (.lst ds)) => match ds[ds.length - 1]? with
    | some d => .ok d (s.set i (some (.lst ds.dropLast)))
    | none => .stuck
  | _ => .stuck
def sExt (i : Nat) (m : M) : MS := fun s => match s[i]? with
  | some (some _) => (m s).so fun d s1 => match s1[i]?, d with
    | some (some (.lst ds)), .lst es => if ds.length + es.length < 16000000 then .nx (s1.set i (some (.lst (ds ++ es)))) else .stuck
    | _, _ => .stuck
  | _ => .stuck
def mLenO (i : Nat) : M := fun s => match s[i]? with
  | some (some (.lst ds)) => .ok (.int ds.length) s
  | _ => .stuck
section
variable {X : Cx} {n : Nat} {G : Gr n} {W : WX} {Γ : List Ty} {rt : Ty}
theorem me_lenO {e : Expr} {i : Nat} (h : PE X e (tCB (fun xs H Q => ∃ x k, xs = [x] ∧ LenV X.K x H k ∧ Q (.int k) H) (tCons (tVar i) tNil))) (ht : Γ[i]? = some .ol) : ME X G W Γ e .fr (mLenO i) :=
  peI h fun σ H Q ⟨s, F, fp, R, q⟩ => by
    unfold mLenO at q
    split at q
    · rename_i ds e0
      obtain ⟨v, hv, a0⟩ := R.slot i _ _ ht e0
      obtain ⟨p, ds0, vs0, z1, rfl, e3, z4, z5⟩ := id a0
      cases z1
      exact ⟨.ref p, hv, .ref p, ds.length, rfl, .inl ⟨vs0, .of e3, z4.len⟩, pok q R (AE.fr (.int _))⟩
    · exact q.elim
theorem me_rev {e : Expr} {m : M} {k : Nat} {p1 p2 p3 pos : Pos} (h : ME X G W Γ e .fr m) : ME X G W Γ (.Subscript e (.Slice none none (some (.UnaryOp .USub (.Constant (.int 1) k p1) p2)) p3) pos) .ol (mRev m) :=
  peI (pe_revL h) fun σ H Q ⟨s, F, fp, R, q⟩ => ⟨s, F, fp, R, pbind q fun d s1 v F1 fp1 H1 R1 st1 a1 q1 => by
    have r := a1.rep
    cases r with
    | @lst ds vs a ea rs =>
      refine ⟨a, vs, rfl, R1.sqL ea, fun p hp => ?_⟩
      obtain ⟨R2, st2⟩ := R1.lay (o := .lst vs.reverse) hp
      refine q1 _ _ _ _ R2 st2 ⟨[p], ⟨p, ds.reverse, vs.reverse, rfl, rfl, upd_same, rs.turn, rfl⟩, fun b hb => ?_⟩
      rw [List.mem_singleton.mp hb]
      exact ⟨R1.nowF hp, R1.newFp hp, R1.newG hp, .inr (Classical.byContradiction fun z => st1.there p z hp)⟩
    | _ => exact q1.elim⟩
theorem me_pop {e : Expr} {i : Nat} (h : PE X e (tBM0 X.K "list" rPop (tVar i))) (ht : Γ[i]? = some .ol) : ME X G W Γ e .fr (mPop i) :=
  peI h fun σ H Q ⟨s, F, fp, R, q⟩ => by
    unfold mPop at q
    split at q
    · rename_i ds e0
      cases el : ds[ds.length - 1]? with
      | none => rw [el] at q; exact q.elim
      | some d =>
        rw [el] at q
        obtain ⟨v, hv, a0⟩ := R.slot i _ _ ht e0
        obtain ⟨p, ds0, vs0, z1, rfl, e3, z4, z5⟩ := id a0
        cases z1
        obtain ⟨y, hy, ry⟩ := z4.get el
        refine ⟨.ref p, hv, .inl ⟨rfl, vs0, .of e3⟩, p, vs0, y, rfl, rfl, e3, by rw [← z4.len]; exact hy, ?_⟩
        have hp : p ∈ fp i := by rw [z5]; exact List.mem_singleton.mpr rfl
        obtain ⟨R2, x2⟩ := R.own (o := .lst vs0.dropLast) (d := .lst ds.dropLast) ht hp (.ref p) hv ⟨p, ds.dropLast, vs0.dropLast, rfl, rfl, upd_same, z4.dropLast, z5⟩
        exact q _ _ _ _ R2 x2 (AE.fr ry)
    · exact q.elim
theorem ms_ext {e : Expr} {pos : Pos} {i : Nat} {m : M} (h : PE X e (tBM X.K "list" rExtend (tVar i) (tCons (tM X.K G W Γ .fr m) tNil))) (ht : Γ[i]? = some .ol) (hs : swapsWith e none pos.line X.env = pure false := by rfl) : MSt X G W Γ rt (.Expr e pos) (sExt i m) :=
  psI (ps_expr h hs) fun Dn σ H ⟨s, F, fp, R, q⟩ => by
    unfold sExt at q
    split at q
    · rename_i d0 e0
      obtain ⟨v, hv, a0⟩ := R.slot i _ _ ht e0
      obtain ⟨p, ds0, vs0, _, rfl, e3, _, e4⟩ := id a0
      refine ⟨.ref p, hv, .inl ⟨rfl, vs0, .of e3⟩, s, F, fp, R, sbind q fun d s1 w F1 fp1 H1 R1 x b q1 => ?_⟩
      split at q1
      · rename_i ds es e1
        by_cases hl : ds.length + es.length < 16000000
        · rw [if_pos hl] at q1
          obtain ⟨v', hv', p', ds', vs', z1, z2, z3, z4, z5⟩ := R1.slot i _ _ ht e1
          rw [hv] at hv'
          cases hv'
          cases z1
          cases z2
          have r := b.rep
          cases r with
          | @lst _ ws a ea rs =>
            refine ⟨p, a, vs', ws, rfl, rfl, z3, R1.at ea rfl, by rw [← z4.len, ← rs.len]; exact Nat.le_of_lt (sixteen hl), ?_⟩
            have hp : p ∈ fp1 i := by rw [z5]; exact List.mem_singleton.mpr rfl
            obtain ⟨R2, x2⟩ := R1.own (o := .lst (vs' ++ ws)) (d := .lst (ds ++ es)) ht hp (.ref p) hv ⟨p, ds ++ es, vs' ++ ws, rfl, rfl, upd_same, z4.app rs, z5⟩
            exact q1 _ _ _ _ R2 x2
        · rw [if_neg hl] at q1; exact q1.elim
      · exact q1.elim
    · exact q.elim
end
end Bk

set_option Elab.async false
set_option linter.all false
set_option maxRecDepth 100000
set_option maxHeartbeats 4000000
namespace Bk
open PySem PySem.Spec PyProof.Rows L2
variable [Cls]
/-! ### try: .. except C as e: x = (..) -/
theorem ErrAt.mono {K : PySem.W.Frag} {F F' : Hp} {e : Err} {cls : Value} {od : Option Addr} (h : ErrAt K F e cls od) (s : Same F F') : ErrAt K F' e cls od := by
  obtain ⟨h1, h2⟩ := h
  refine ⟨h1, ?_⟩
  rcases h2 with h2 | ⟨d, ws, a1, a2, a3, a4, a5⟩
  · exact .inl h2
  · exact .inr ⟨d, ws, a1, a2, s d _ a3, a4, a5.mono s⟩
section
variable {X : Cx} {n : Nat} {G : Gr n} {Γ : List Ty}
/-- what a clause's suite knows: slot i holds the caught a, of class cls, its dict od -/
def EK (K : PySem.W.Frag) (G : Gr n) (Γ : List Ty) (i : Nat) (a : Addr) (er : Err) (cls : Value) (od : Option Addr) (s : Env) (σ : Sl) (F : Hp) (fp : Fp) (H : Hp) : Prop :=
  Rel G Γ s σ F fp H ∧ σ[i]? = some (some (.ref a)) ∧ ErrAt K F er cls od
/-- an item of such a suite: its value by the error -/
def tEI (K : PySem.W.Frag) (G : Gr n) (Γ : List Ty) (i : Nat) (a : Addr) (cls : Value) (od : Option Addr) (val : Err → Option D) : TE := fun σ H Q => ∃ s F fp er d, EK K G Γ i a er cls od s σ F fp H ∧ val er = some d ∧
  ∀ v F' H', Rep F' d v → Rel G Γ s σ F' fp H' → Stp L0 F fp H F' fp H' → Q v H'
def tEIs (K : PySem.W.Frag) (G : Gr n) (Γ : List Ty) (i : Nat) (a : Addr) (cls : Value) (od : Option Addr) (val : Err → Option (List D)) : TA := fun σ H Q => ∃ s F fp er ds, EK K G Γ i a er cls od s σ F fp H ∧ val er = some ds ∧
  ∀ vs F' H', Reps F' ds vs → Rel G Γ s σ F' fp H' → Stp L0 F fp H F' fp H' → Q vs H'
def eNil : Err → Option (List D) := fun _ => some []
def eCons (v : Err → Option D) (vs : Err → Option (List D)) : Err → Option (List D) := fun er => match v er, vs er with
  | some d, some ds => some (d :: ds)
  | _, _ => none
variable {i : Nat} {a : Addr} {cls : Value} {od : Option Addr} {oe : Obj} {pn : List (Addr × Obj)}
theorem ei_nil : PA (X.suite a ((a, oe) :: pn)) [] (tEIs X.K G Γ i a cls od eNil) := paI pa_nil fun σ H Q ⟨s, F, fp, er, ds, ⟨R, _, _⟩, e, k⟩ => by
  cases e
  exact k [] F H .nil R (Stp.refl F fp H)
theorem ei_cons {e : Expr} {es : List Expr} {v : Err → Option D} {vs : Err → Option (List D)} (h : PE (X.suite a ((a, oe) :: pn)) e (tEI X.K G Γ i a cls od v)) (hs : PA (X.suite a ((a, oe) :: pn)) es (tEIs X.K G Γ i a cls od vs))
    (hst : starEach (e :: es) X.env = (false, eval e X.env) :: starEach es X.env := by rfl) : PA (X.suite a ((a, oe) :: pn)) (e :: es) (tEIs X.K G Γ i a cls od (eCons v vs)) :=
  paI (pa_cons h hs hst) fun σ H Q ⟨s, F, fp, er, ds, ⟨R, hi, he⟩, e, k⟩ => by
    unfold eCons at e
    split at e
    · rename_i d ds' e1 e2
      cases e
      refine ⟨s, F, fp, er, d, ⟨R, hi, he⟩, e1, fun v1 F1 H1 r1 R1 x1 => ⟨s, F1, fp, er, ds', ⟨R1, hi, he.mono x1.f⟩, e2, fun vs1 F2 H2 r2 R2 x2 => ?_⟩⟩
      exact k (v1 :: vs1) F2 H2 (.cons (r1.mono x2.f) r2) R2 (x1.trans x2)
    · cases e
theorem ei_str {x : Str} {j : Nat} {pos : Pos} : PE (X.suite a ((a, oe) :: pn)) (.Constant (.str x) j pos) (tEI X.K G Γ i a cls od fun _ => some (.str x)) :=
  peI pe_str fun σ H Q ⟨s, F, fp, er, d, ⟨R, _, _⟩, e, k⟩ => by
    cases e
    exact k _ F H (.str x) R (Stp.refl F fp H)
/-- e.f -/
def eFld (tb : Str → Bool) (f : Str) : Err → Option D := fun er => if tb er.c = true then (er.ns.zip er.vs).lookup f else none
theorem zip_look {F : Hp} {f : Str} {d : D} : ∀ {ns : List Str} {ds : List D} {ws : List V}, ns.length = ws.length → Reps F ds ws → (ns.zip ds).lookup f = some d → ∃ w, (ns.zip ws).lookup f = some w ∧ Rep F d w
  | [], _, _, _, _, h => by simp at h
  | n :: ns, _, [], hl, _, _ => by simp at hl
  | n :: ns, _, w :: ws, hl, .cons r t, h => by
    rw [List.zip_cons_cons] at h ⊢
    rw [List.lookup_cons] at h ⊢
    cases q : f == n with
    | true =>
      rw [q] at h
      cases h
      exact ⟨w, rfl, r⟩
    | false =>
      rw [q] at h
      exact zip_look (by simpa using hl) t h
theorem ei_fld {e : Expr} {pos : Pos} {tb : Str → Bool} {f : Str} (hz : Zc cls od oe) (hf : ∃ vs, oe.data = .fields vs) (hv : PE (X.suite a ((a, oe) :: pn)) e (tVar i)) (T : ∀ c, tb c = true → XfC X.K (He.ga X.K c) ∧ PySem.W.findIn X.K (.ref (He.ga X.K c)) f = some none)
    (hb : attributeBase e f X.env (eval e X.env) = eval e X.env := by rfl) : PE (X.suite a ((a, oe) :: pn)) (.Attribute e f pos) (tEI X.K G Γ i a cls od (eFld tb f)) := by
  refine ⟨fun pins s σ H Q I ⟨s1, F, fp, er, d, ⟨R, hi, he⟩, ev, k⟩ => ?_⟩
  unfold eFld at ev
  split at ev
  · rename_i ht
    obtain ⟨T1, T2⟩ := T er.c ht
    obtain ⟨hc, hd⟩ := he
    rcases hd with ⟨h1, _⟩ | ⟨dd, ws, a1, a2, a3, a4, a5⟩
    · rw [h1] at ev; cases ev
    · obtain ⟨w, hw, rw_⟩ := zip_look a4 a5 ev
      exact (pe_xf T1 T2 hz hf hv hb).run pins s σ H Q I ⟨.ref a, hi, rfl, hc, dd, _, w, a2, R.at a3 rfl, hw, k w F H rw_ R (Stp.refl F fp H)⟩
  · cases ev
/-- isinstance(e, C) -/
structure IsC (K : PySem.W.Frag) (D : Addr) : Prop where
  cl : (PySem.W.clsIn K D).isSome = true
  ga : PySem.W.findIn K (.ref D) "__getattribute__" = some (some (.builtin "BaseException.__getattribute__"))
  gg : PySem.W.findIn K (.ref D) "__getattr__" = some none
  sb : PySem.W.subIn K (.ref D) (.type "BaseException") = some true
  cc : PySem.W.findIn K (.ref D) "__class__" = some (some (.builtin "object.__class__"))
  gt : PySem.W.specialIn K (.builtin "object.__class__") "__get__" = some (some (.builtin "getset_descriptor.__get__"))
  tk : PySem.W.takesIn K (.builtin "object.__class__") = some true
  mo : PySem.W.mroIn K D (.type "object") = some true
theorem isC_inst {K : PySem.W.Frag} {P : Program} {w : World} {er : Err} {F H : Hp} {h : Heap} (hok : HOk P w H h) (hx : ∀ dd fs, F dd = some (.xd fs) → H dd = some (.xd fs)) (he : ErrAt K F er cls od) (hz : Zc cls od oe) (hf : ∃ vs, oe.data = .fields vs) (hget : h.get? a = some oe) : ∃ ob, PySem.W.InstAt h a oe (He.ga K er.c) ob := by
  obtain ⟨vs, hv⟩ := hf
  obtain ⟨hc, hd⟩ := he
  rcases hd with ⟨_, h1⟩ | ⟨dd, ws, a1, a2, a3, a4, a5⟩
  · exact ⟨none, hget, hz.1.trans hc, by unfold PySem.W.notCls; rw [hv] <;> rfl, by rw [hz.2, h1]; trivial⟩
  · have q := hok dd _ (hx dd _ a3)
    obtain ⟨mA, hns, hr⟩ := q
    obtain ⟨ob, ho, hl⟩ := lookIn_ns hns
    exact ⟨some ob, hget, hz.1.trans hc, by unfold PySem.W.notCls; rw [hv] <;> rfl, by rw [hz.2, a2]; exact ho⟩
/-- a class as a value -/
structure Cv (c : V) (cv : Value) : Prop where
  u : ∀ u, RelV c u → u = cv
def rIsX (K : PySem.W.Frag) (er : Err) (a : Addr) (F H0 : Hp) : List V → Hp → VK → Prop := fun xs H Q => ∃ (c : V) (cv : Value) (b : Bool), xs = [.ref a, c] ∧ Cv c cv ∧ PySem.W.kitOne K (.ref (He.ga K er.c)) cv = some b ∧ IsC K (He.ga K er.c) ∧ ErrAt K F er cls od ∧ (∀ dd fs, F dd = some (.xd fs) → H dd = some (.xd fs)) ∧ Q (.bl b) H
theorem call_isX {H0 : Hp} (hz : Zc cls od oe) (hf : ∃ vs, oe.data = .fields vs) : CallR (X.suite a ((a, oe) :: pn)) (.builtin "isinstance") (fun xs H Q => ∃ er F, rIsX (cls := cls) (od := od) X.K er a F H0 xs H Q) := by
  intro pins s σ H xs us Q I r h
  obtain ⟨er, F, c, cv, b, rfl, hcv, e, C, he, hx, q⟩ := h
  cases r with
  | cons rx rr =>
    cases rr with
    | cons rt rr =>
      cases rr
      cases rx
      have ec := hcv.u _ rt
      subst ec
      obtain ⟨hget, _⟩ := I.pin (a, oe) (List.mem_append.mpr (.inl List.mem_cons_self))
      obtain ⟨ob, J⟩ := isC_inst I.hok hx he hz hf hget
      exact PySem.W.kia_one (PySem.W.kitx_exc C.cl C.ga C.gg C.sb C.cc C.gt C.tk C.mo) I.kIn J e (fun z => nomatch z) fun tk => ⟨.bl b, H, I.kept (t' := tk) fun _ _ z => z, rfl, q⟩
def eIs (tb : Str → Option Bool) : Err → Option D := fun er => (tb er.c).map D.bl
theorem ei_is {ex : Expr} {tb : Str → Option Bool} {cV : V} {cv : Value} (h : PE (X.suite a ((a, oe) :: pn)) ex (tCB (fun xs H Q => ∃ er F, rIsX (cls := cls) (od := od) X.K er a F (fun _ => none) xs H Q) (tCons (tVar i) (tCons (tC cV) tNil)))) (hcv : Cv cV cv)
    (T : ∀ k b, tb k = some b → PySem.W.kitOne X.K (.ref (He.ga X.K k)) cv = some b ∧ IsC X.K (He.ga X.K k)) : PE (X.suite a ((a, oe) :: pn)) ex (tEI X.K G Γ i a cls od (eIs tb)) := by
  refine peI h fun σ H Q ⟨s, F, fp, er, d, ⟨R, hi, he⟩, ev, k⟩ => ?_
  unfold eIs at ev
  obtain ⟨b, eb, rfl⟩ := Option.map_eq_some_iff.mp ev
  obtain ⟨T1, T2⟩ := T er.c b eb
  exact ⟨.ref a, hi, er, F, cV, cv, b, rfl, hcv, T1, T2, he, fun dd fs h => R.at h rfl, k _ F H (.bl b) R (Stp.refl F fp H)⟩
/-! ### the suite: x = (items) -/
theorem es_set {st : Stmt} {j : Nat} {vals : Err → Option (List D)} (h : PS (X.suite a ((a, oe) :: pn)) st (tAsg (tTup (tEIs X.K G Γ i a cls od vals)) (gName j))) (hj : Γ[j]? = some .fr) :
    PS (X.suite a ((a, oe) :: pn)) st (fun Dn σ H => ∃ s F fp er ds, EK X.K G Γ i a er cls od s σ F fp H ∧ vals er = some ds ∧ ds.length ≤ 1000 ∧ ∀ σ' F' fp' H', Rel G Γ (s.set j (some (.tup ds))) σ' F' fp' H' → Stp L0 F fp H F' fp' H' → Dn.nx σ' H') :=
  psI h fun Dn σ H ⟨s, F, fp, er, ds, ⟨R, hi, he⟩, ev, hl, k⟩ => ⟨s, F, fp, er, ds, ⟨R, hi, he⟩, ev, fun vs F1 H1 r1 R1 x1 => by
    refine ⟨by rw [← r1.len]; exact small_line hl, fun p hp => ?_⟩
    obtain ⟨R2, x2⟩ := R1.fix (o := .tup vs) hp
    exact k _ _ _ _ (R2.putF hj (.tup upd_same (r1.mono x2.f))) ((x1.trans x2).trans (Stp.putF (Stp.refl _ _ _)))⟩
theorem Rel.sl {s : Env} {σ : Sl} {F H : Hp} {fp : Fp} (R : Rel G Γ s σ F fp H) {i : Nat} (hi : n ≤ i) (x : Option V) : Rel G Γ (s.set i none) (σ.set i x) F fp H := by
  refine ⟨by rw [List.length_set]; exact R.ls, by rw [List.length_set]; exact R.lσ, fun j t d ht hs => ?_, R.dis, R.nF, R.oh, R.ext, R.lkd, R.stp, fun j hj hf => ?_, R.loc, R.tb⟩
  · by_cases z : i = j
    · subst z
      by_cases hl : i < s.length
      · rw [List.getElem?_set_self hl] at hs; cases hs
      · rw [List.getElem?_eq_none (by rw [List.length_set]; omega)] at hs; cases hs
    · rw [List.getElem?_set_ne z] at hs ⊢
      exact R.slot j t d ht hs
  · rw [List.getElem?_set_ne (by omega)]
    exact R.par j hj hf
/-! ### the statement -/
def sTry (mb : MS) (isa : Str → Option Bool) (i j : Nat) (vals : Err → Option (List D)) : MS := fun s => match mb s with
  | .err er s1 => match isa er.c with
    | some true => match vals er with
      | some ds => if ds.length ≤ 1000 then .nx (((s1.set i none).set j (some (.tup ds))).set i none) else .stuck
      | none => .stuck
    | some false => .err er s1
    | none => .stuck
  | o => o
theorem ms_try {W : WX} {rt : Ty} {st : Stmt} {mb : MS} {isa : Str → Option Bool} {j : Nat} {vals : Err → Option (List D)} {c : Value}
    (h : PS X st (fun D σ H => tS X.K G (wAs X.K c i (fun a cls od => fun Dn σ H => ∃ s F fp er ds, EK X.K G Γ i a er cls od s σ F fp H ∧ vals er = some ds ∧ ds.length ≤ 1000 ∧ ∀ σ' F' fp' H', Rel G Γ (s.set j (some (.tup ds))) σ' F' fp' H' → Stp L0 F fp H F' fp' H' → Dn.nx σ' H') W D) Γ rt mb D σ H))
    (hi : Γ[i]? = some .fr) (hn : n ≤ i) (T : ∀ k b, isa k = some b → PySem.W.exmOne X.K (.ref (He.ga X.K k)) c = some b) : MSt X G W Γ rt st (sTry mb isa i j vals) :=
  psI h fun Dn σ H ⟨s, F, fp, R, q⟩ => ⟨s, F, fp, R, by
    unfold sTry at q
    cases em : mb s with
    | nx s1 => rw [em] at q; exact q
    | rt d s1 => rw [em] at q; exact q
    | bk s1 => rw [em] at q; exact q
    | ct s1 => rw [em] at q; exact q
    | stuck => rw [em] at q; exact q
    | err er s1 =>
      rw [em] at q
      intro cls od σ' F' fp' H' R' x' he
      simp only [] at q
      cases eb : isa er.c with
      | none => rw [eb] at q; exact q.elim
      | some b =>
        rw [eb] at q
        refine ⟨b, by rw [he.1]; exact T er.c b eb, fun hb a hna => ?_, fun hb => ?_⟩
        · subst hb
          simp only [] at q
          cases ev : vals er with
          | none => rw [ev] at q; exact q.elim
          | some ds =>
            rw [ev] at q
            simp only [] at q
            by_cases hl : ds.length ≤ 1000
            · rw [if_pos hl] at q
              have hlen : i < σ'.length := by rw [R'.lσ]; exact (List.getElem?_eq_some_iff.mp hi).1
              exact ⟨s1.set i none, F', fp', er, ds, ⟨R'.sl hn _, List.getElem?_set_self hlen, he⟩, ev, hl, fun σ2 F2 fp2 H2 R3 x3 => q (σ2.set i none) F2 fp2 H2 (R3.sl hn none) (x'.trans x3)⟩
            · rw [if_neg hl] at q; exact q.elim
        · subst hb
          exact q cls od σ' F' fp' H' R' x' he⟩
/-- what a suite's reading is -/
def tES (K : PySem.W.Frag) (G : Gr n) (Γ : List Ty) (i j : Nat) (vals : Err → Option (List D)) (a : Addr) (cls : Value) (od : Option Addr) : TS := fun Dn σ H => ∃ s F fp er ds, EK K G Γ i a er cls od s σ F fp H ∧ vals er = some ds ∧ ds.length ≤ 1000 ∧ ∀ σ' F' fp' H', Rel G Γ (s.set j (some (.tup ds))) σ' F' fp' H' → Stp L0 F fp H F' fp' H' → Dn.nx σ' H'
theorem ms_tryA {W : WX} {rt : Ty} {x nm : Str} {c : Value} {body suite : List Stmt} {b₀ : Stmt} {np pos pos' : Pos} {mb : MS} {isa : Str → Option Bool} {j : Nat} {vals : Err → Option (List D)}
    (hs : X.stack = X.env :: X.outer) (hf : X.env.frame = some X.env.locals) (hN : X.N.Nodup) (hi : X.N[i]? = some nm) (hln : X.env.kindOf nm = some .local) (hc : Names X x c) (tk : Takes X W)
    (hb : ∀ (W2 : WX) (pn : List (Addr × Obj)) (xe : Value → Shared → Prop), Takes (X.tr pn xe) W2 → MSs (X.tr pn xe) G W2 Γ rt body mb)
    (hsu : ∀ (a : Addr) (oe : Obj) (cls : Value) (od : Option Addr) (pn : List (Addr × Obj)), Zc cls od oe → (∃ vs, oe.data = .fields vs) → PSs (X.suite a ((a, oe) :: pn)) (b₀ :: suite) (tES X.K G Γ i j vals a cls od))
    (hi2 : Γ[i]? = some .fr) (hn : n ≤ i) (T : ∀ k b, isa k = some b → PySem.W.exmOne X.K (.ref (He.ga X.K k)) c = some b) :
    MSt X G W Γ rt (.Try body [.ExceptHandler (some (.Name x np)) (some nm) (b₀ :: suite) pos'] [] [] pos) (sTry mb isa i j vals) :=
  ms_try (i := i) (c := c) (ps_try_as (i := i) (c := c) (tb := fun W2 => tS X.K G W2 Γ rt mb) (ts := fun a cls od => tES X.K G Γ i j vals a cls od) hs hf hN hi hln hc tk (fun W2 pn xe t _ => hb W2 pn xe t) hsu) hi2 hn T
theorem es_one {st : Stmt} {j : Nat} {vals : Err → Option (List D)} (h : PS (X.suite a ((a, oe) :: pn)) st (tAsg (tTup (tEIs X.K G Γ i a cls od vals)) (gName j))) (hj : Γ[j]? = some .fr) : PSs (X.suite a ((a, oe) :: pn)) [st] (tES X.K G Γ i j vals a cls od) :=
  pss_one (es_set h hj)
end
/-! ### facts about classes, for the head -/
def exmB (x y : Str) (b : Bool) : Ft := fun K => decide (PySem.W.exmOne K (.ref (He.ga K x)) (.ref (He.ga K y)) = some b)
def kitR (x y : Str) (b : Bool) : Ft := fun K => decide (PySem.W.kitOne K (.ref (He.ga K x)) (.ref (He.ga K y)) = some b)
def kitT (x : Str) (y : String) (b : Bool) : Ft := fun K => decide (PySem.W.kitOne K (.ref (He.ga K x)) (.type y) = some b)
def isCB (x : Str) : Ft := fun K => (PySem.W.clsIn K (He.ga K x)).isSome && (He.eqO (PySem.W.findIn K (.ref (He.ga K x)) "__getattribute__") (some (some (.builtin "BaseException.__getattribute__"))) && (He.eqO (PySem.W.findIn K (.ref (He.ga K x)) "__getattr__") (some none) &&
  (decide (PySem.W.subIn K (.ref (He.ga K x)) (.type "BaseException") = some true) && (He.eqO (PySem.W.findIn K (.ref (He.ga K x)) "__class__") (some (some (.builtin "object.__class__"))) && (He.eqO (PySem.W.specialIn K (.builtin "object.__class__") "__get__") (some (some (.builtin "getset_descriptor.__get__"))) &&
    (decide (PySem.W.takesIn K (.builtin "object.__class__") = some true) && decide (PySem.W.mroIn K (He.ga K x) (.type "object") = some true)))))))
theorem isCB_ok {K : PySem.W.Frag} {x : Str} (h : isCB x K = true) : IsC K (He.ga K x) := by
  unfold isCB at h
  obtain ⟨h1, h⟩ := Bool.and_eq_true_iff.mp h
  obtain ⟨h2, h⟩ := Bool.and_eq_true_iff.mp h
  obtain ⟨h3, h⟩ := Bool.and_eq_true_iff.mp h
  obtain ⟨h4, h⟩ := Bool.and_eq_true_iff.mp h
  obtain ⟨h5, h⟩ := Bool.and_eq_true_iff.mp h
  obtain ⟨h6, h⟩ := Bool.and_eq_true_iff.mp h
  obtain ⟨h7, h8⟩ := Bool.and_eq_true_iff.mp h
  exact ⟨h1, He.eqO_ok h2, He.eqO_ok h3, of_decide_eq_true h4, He.eqO_ok h5, He.eqO_ok h6, of_decide_eq_true h7, of_decide_eq_true h8⟩
/-- a table of one class -/
def tb1 (x : Str) : Str → Bool := fun c => c == x
def tb1o (x : Str) (b : Bool) : Str → Option Bool := fun c => if c == x then some b else none
theorem tb1_ok {P : Str → Prop} {x c : Str} (h : P x) (e : tb1 x c = true) : P c := by
  have e : c = x := eq_of_beq e
  rw [e]
  exact h
theorem tb1o_ok {P : Str → Bool → Prop} {x : Str} {b : Bool} (h : P x b) (c : Str) (k : Bool) (e : tb1o x b c = some k) : P c k := by
  unfold tb1o at e
  split at e
  · rename_i q
    cases e
    have q : c = x := eq_of_beq q
    rw [q]
    exact h
  · cases e
end Bk

set_option Elab.async false
set_option linter.all false
set_option maxRecDepth 100000
set_option maxHeartbeats 4000000
namespace Bk
open PySem PySem.Spec PyProof.Rows L2
variable [Cls]
/-! ### isinstance(e, (A, B)) of a caught error -/
section
variable {X : Cx} {n : Nat} {G : Gr n} {Γ : List Ty} {i : Nat} {a : Addr} {cls : Value} {od : Option Addr} {oe : Obj} {pn : List (Addr × Obj)}
def rIsXT (K : PySem.W.Frag) (er : Err) (a : Addr) (F : Hp) (cls : Value) (od : Option Addr) : List V → Hp → VK → Prop := fun xs H Q => ∃ (tp : Addr) (cs : List V) (us : List Value) (b : Bool), xs = [.ref a, .ref tp] ∧ H tp = some (.tup cs) ∧ Paired ClsV cs us ∧ PySem.W.kitAny K (.ref (He.ga K er.c)) us = some b ∧ IsC K (He.ga K er.c) ∧ ErrAt K F er cls od ∧ (∀ dd fs, F dd = some (.xd fs) → H dd = some (.xd fs)) ∧ Q (.bl b) H
theorem call_isXT (hz : Zc cls od oe) (hf : ∃ vs, oe.data = .fields vs) : CallR (X.suite a ((a, oe) :: pn)) (.builtin "isinstance") (fun xs H Q => ∃ er F, rIsXT X.K er a F cls od xs H Q) := by
  intro pins s σ H xs us Q I r h
  obtain ⟨er, F, tp, cs, ws, b, rfl, hT, k, e, C, he, hx, q⟩ := h
  obtain ⟨u1, u2, rfl, r1, r2⟩ := vals2 r
  obtain rfl : u1 = Value.ref a := r1
  obtain rfl : u2 = Value.ref tp := r2
  obtain ⟨hget, _⟩ := I.pin (a, oe) (List.mem_append.mpr (.inl List.mem_cons_self))
  obtain ⟨ob, J⟩ := isC_inst I.hok hx he hz hf hget
  obtain ⟨_, its, rv, o, g1, g2, m, g3⟩ := (show ObjOk X.prog X.w H s.heap tp (.tup cs) from I.hok tp _ hT)
  have e3 := ClsV.all k rv
  subst e3
  obtain ⟨oc, od', dt, sl⟩ := o
  simp only at g2 g3
  subst g2 g3
  exact PySem.W.kia_tup (PySem.W.kitx_exc C.cl C.ga C.gg C.sb C.cc C.gt C.tk C.mo) I.kIn J g1 e (fun z => nomatch z) fun tk => ⟨.bl b, H, I.kept (t' := tk) fun _ _ z => z, rfl, q⟩
theorem ei_isT {ex : Expr} {tb : Str → Option Bool} {c1 c2 : V} {u1 u2 : Value} (h : PE (X.suite a ((a, oe) :: pn)) ex (tCB (fun xs H Q => ∃ er F, rIsXT X.K er a F cls od xs H Q) (tCons (tVar i) (tCons (tTup (tCons (tC c1) (tCons (tC c2) tNil))) tNil)))) (h1 : ClsV c1 u1) (h2 : ClsV c2 u2)
    (T : ∀ k b, tb k = some b → PySem.W.kitAny X.K (.ref (He.ga X.K k)) [u1, u2] = some b ∧ IsC X.K (He.ga X.K k)) : PE (X.suite a ((a, oe) :: pn)) ex (tEI X.K G Γ i a cls od (eIs tb)) := by
  refine peI h fun σ H Q ⟨s, F, fp, er, d, ⟨R, hi, he⟩, ev, k⟩ => ?_
  unfold eIs at ev
  obtain ⟨b, eb, rfl⟩ := Option.map_eq_some_iff.mp ev
  obtain ⟨T1, T2⟩ := T er.c b eb
  refine ⟨.ref a, hi, small_line (k := 2) (by decide), fun p hp => ?_⟩
  obtain ⟨R2, x2⟩ := R.fix (o := .tup [c1, c2]) hp
  exact ⟨er, _, p, [c1, c2], [u1, u2], b, rfl, upd_same, .cons h1 (.cons h2 .nil), T1, T2, he.mono x2.f, fun dd fs h => R2.at h rfl, k _ _ _ (.bl b) R2 x2⟩
end
def kitA (x : Str) (ys : List Value) (b : Bool) : Ft := fun K => decide (PySem.W.kitAny K (.ref (He.ga K x)) ys = some b)
end Bk

set_option Elab.async false
set_option linter.all false
set_option maxRecDepth 100000
set_option maxHeartbeats 4000000
namespace Bk
open PySem PySem.Spec PyProof.Rows L2
variable [Cls]
/-! ### // by a divisor of any sign -/
section
variable {X : Cx} {n : Nat} {G : Gr n} {W : WX} {Γ : List Ty} {a b : Expr} {ma mb : M} {pos : Pos}
def CDivS (_ j : Int) : Prop := j ≠ 0 ∧ j.natAbs.log2 < 9000
theorem op_fdivS : OpR X (binaryOp .FloorDiv) (rI CDivS fun i j => .int (i.fdiv j)) := opI fun _ _ _ _ _ _ _ hc q => floordiv_int hc.1 q (.inl (PyProof.noPylong_of_log2 hc.2))
def dDivS : D → D → Option D
  | .int i, .int j => if j ≠ 0 ∧ j.natAbs.log2 < 9000 then some (.int (i.fdiv j)) else none
  | _, _ => none
theorem od_divS : OpD (rI CDivS fun i j => .int (i.fdiv j)) dDivS := by
  intro d e z x y F H Q h rx ry k
  cases rx with
  | int i =>
    cases ry with
    | int j =>
      obtain ⟨hc, rfl⟩ := if_some h
      exact ⟨i, j, rfl, rfl, hc, k _ (.int _)⟩
    | _ => cases h
  | _ => cases h
theorem me_divS (ha : ME X G W Γ a .fr ma) (hb : ME X G W Γ b .fr mb) : ME X G W Γ (.BinOp a .FloorDiv b pos) .fr (mOp dDivS ma mb) := me_op op_fdivS od_divS ha hb
end
end Bk

set_option Elab.async false
set_option linter.all false
set_option maxRecDepth 100000
set_option maxHeartbeats 4000000
namespace Bk
open PySem PySem.Spec PyProof.Rows L2
variable [Cls]
/-! ### keys -/
def keyK : D → Option Key
  | .int i => some (.inl i)
  | .str x => some (.inr x)
  | _ => none
def keyKs : List D → Option (List Key)
  | [] => some []
  | d :: ds => match keyK d, keyKs ds with
    | some k, some ks => some (k :: ks)
    | _, _ => none
def keyOf : D → Option (List Key)
  | .tup ds => keyKs ds
  | _ => none
def kD : Key → D
  | .inl i => .int i
  | .inr x => .str x
def kDs (k : List Key) : D := .tup (k.map kD)
theorem keyK_rep {F : Hp} {d : D} {v : V} {k : Key} (h : keyK d = some k) (r : Rep F d v) : v = kV k := by
  cases r <;> cases h <;> rfl
theorem keyKs_rep {F : Hp} : ∀ {ds : List D} {vs : List V} {ks : List Key}, keyKs ds = some ks → Reps F ds vs → vs = ks.map kV
  | _, _, _, h, .nil => by cases h; rfl
  | d :: ds, _, ks, h, .cons r t => by
    unfold keyKs at h
    cases e1 : keyK d with
    | none => rw [e1] at h; cases h
    | some k =>
      cases e2 : keyKs ds with
      | none => rw [e1, e2] at h; cases h
      | some ks' =>
        rw [e1, e2] at h
        cases h
        rw [keyK_rep e1 r, keyKs_rep e2 t]
        rfl
theorem keyOf_rep {F : Hp} {d : D} {v : V} {k : List Key} (h : keyOf d = some k) (r : Rep F d v) : ∃ b, v = .ref b ∧ F b = some (.tup (k.map kV)) := by
  cases r with
  | @tup ds vs a e t => exact ⟨a, rfl, by rw [e, keyKs_rep h t]⟩
  | _ => cases h
theorem kD_rep {F : Hp} : ∀ k : Key, Rep F (kD k) (kV k)
  | .inl i => .int i
  | .inr x => .str x
theorem kDs_reps {F : Hp} : ∀ k : List Key, Reps F (k.map kD) (k.map kV)
  | [] => .nil
  | k :: ks => .cons (kD_rep k) (kDs_reps ks)
/-! ### what a dict holds -/
def memK (ks : List (List Key)) (k : List Key) : Bool := ks.any fun x => decide (x = k)
theorem memK_iff {ks : List (List Key)} {k : List Key} : memK ks k = true ↔ k ∈ ks := by
  unfold memK
  rw [List.any_eq_true]
  exact ⟨fun ⟨x, hx, e⟩ => by rw [← of_decide_eq_true e]; exact hx, fun h => ⟨k, h, decide_eq_true rfl⟩⟩
def getV {α : Type} (ks : List (List Key)) (vs : List α) (k : List Key) : Option α := ((ks.zip vs).find? fun p => decide (p.1 = k)).map (·.2)
def putV {α : Type} (ks : List (List Key)) (vs : List α) (k : List Key) (v : α) : List α := if memK ks k = true then (ks.zip vs).map fun p => if p.1 = k then v else p.2 else vs ++ [v]
def putKs (ks : List (List Key)) (k : List Key) : List (List Key) := if memK ks k = true then ks else ks ++ [k]
theorem getV_rep {F : Hp} {k : List Key} : ∀ {ks : List (List Key)} {ds : List D} {vs : List V}, Reps F ds vs → (getV ks ds k = none → getV ks vs k = none) ∧ ∀ d, getV ks ds k = some d → ∃ v, getV ks vs k = some v ∧ Rep F d v
  | [], _, _, _ => ⟨fun _ => rfl, fun _ h => by cases h⟩
  | _ :: _, _, _, .nil => ⟨fun _ => rfl, fun _ h => by cases h⟩
  | k' :: ks, d' :: ds, v' :: vs, .cons r t => by
    obtain ⟨i1, i2⟩ := getV_rep (k := k) (ks := ks) t
    unfold getV at i1 i2 ⊢
    rw [List.zip_cons_cons, List.zip_cons_cons, List.find?_cons, List.find?_cons]
    by_cases z : k' = k
    · simp only [z, decide_true]
      exact ⟨fun h => by simp at h, fun d h => ⟨v', rfl, by simp at h; rw [← h]; exact r⟩⟩
    · simp only [z, decide_false]
      exact ⟨i1, i2⟩
theorem getV_isSome {α : Type} {k : List Key} : ∀ {ks : List (List Key)} {vs : List α}, ks.length = vs.length → (getV ks vs k).isSome = memK ks k
  | [], _, _ => rfl
  | _ :: _, [], h => by simp at h
  | k' :: ks, v :: vs, h => by
    have ih := getV_isSome (k := k) (ks := ks) (vs := vs) (by simpa using h)
    unfold getV at ih ⊢
    rw [List.zip_cons_cons, List.find?_cons]
    show _ = (decide (k' = k) || memK ks k)
    by_cases z : k' = k
    · simp [z]
    · simp only [z, decide_false]
      rw [ih]
      rfl
theorem zip_any {α : Type} {k : List Key} {ks : List (List Key)} {vs : List α} (h : ks.length = vs.length) : ((ks.zip vs).any fun p => decide (p.1 = k)) = memK ks k := by
  induction ks generalizing vs with
  | nil => rfl
  | cons k' ks ih =>
    cases vs with
    | nil => simp at h
    | cons v vs =>
      rw [List.zip_cons_cons, List.any_cons, ih (by simpa using h)]
      rfl
theorem putKs_len {α : Type} {ks : List (List Key)} {vs : List α} {k : List Key} {v : α} (h : ks.length = vs.length) : (putKs ks k).length = (putV ks vs k v).length := by
  unfold putKs putV
  by_cases z : memK ks k = true
  · rw [if_pos z, if_pos z, List.length_map, List.length_zip]; omega
  · rw [if_neg z, if_neg z, List.length_append, List.length_append, h]; rfl
theorem put_zip {ks : List (List Key)} {vs : List V} {k : List Key} {v : V} (h : ks.length = vs.length) : putK (ks.zip vs) k v = (putKs ks k).zip (putV ks vs k v) := by
  unfold putK putKs putV
  rw [zip_any h]
  by_cases z : memK ks k = true
  · rw [if_pos z, if_pos z, if_pos z]
    clear z
    induction ks generalizing vs with
    | nil => rfl
    | cons k' ks ih =>
      cases vs with
      | nil => rfl
      | cons v' vs =>
        rw [List.zip_cons_cons, List.map_cons, List.map_cons, List.zip_cons_cons, ih (by simpa using h)]
        by_cases q : k' = k
        · simp only [q, if_true]
        · simp only [q, if_false]
  · rw [if_neg z, if_neg z, if_neg z]
    rw [List.zip_append h]
    rfl
theorem putV_map {F : Hp} {k : List Key} {d : D} {v : V} (q : Rep F d v) : ∀ {ks : List (List Key)} {ds : List D} {vs : List V}, Reps F ds vs → Reps F ((ks.zip ds).map fun p => if p.1 = k then d else p.2) ((ks.zip vs).map fun p => if p.1 = k then v else p.2)
  | [], _, _, _ => .nil
  | _ :: _, _, _, .nil => .nil
  | k' :: ks, d' :: ds, v' :: vs, .cons r t => by
    rw [List.zip_cons_cons, List.zip_cons_cons, List.map_cons, List.map_cons]
    refine .cons ?_ (putV_map q t)
    by_cases w : k' = k
    · simp only [w, if_true]; exact q
    · simp only [w, if_false]; exact r
theorem putV_rep {F : Hp} {k : List Key} {d : D} {v : V} (q : Rep F d v) {ks : List (List Key)} {ds : List D} {vs : List V} (r : Reps F ds vs) : Reps F (putV ks ds k d) (putV ks vs k v) := by
  unfold putV
  by_cases z : memK ks k = true
  · rw [if_pos z, if_pos z]
    exact putV_map q r
  · rw [if_neg z, if_neg z]
    exact r.app (.cons q .nil)

section
variable {X : Cx} {n : Nat} {G : Gr n} {W : WX} {Γ : List Ty} {rt : Ty}
/-- a tuple that stands is fixed -/
theorem Rel.seeT {s : Env} {σ : Sl} {F H : Hp} {fp : Fp} (R : Rel G Γ s σ F fp H) {q : Addr} {vs : List V} (e : H q = some (.tup vs)) : ∃ F', Rel G Γ s σ F' fp H ∧ Stp L0 F fp H F' fp H ∧ F' q = some (.tup vs) := by
  cases hF : F q with
  | some o =>
    have h1 := R.ext q o hF
    cases z : G.L q with
    | none =>
      unfold lk at h1
      rw [z, e] at h1
      cases h1
      exact ⟨F, R, Stp.refl F fp H, hF⟩
    | some ob =>
      unfold lk at h1
      rw [z, e] at h1
      cases h1
  | none =>
    have nq : ∀ a, Nt H a → a ≠ q := fun a ⟨o, e1, e2⟩ z => by
      rw [z, e] at e1
      cases e1
      cases e2
    have sm : Same F (upd F q (.tup vs)) := fun a u ea => by rw [upd_ne (ne_of_none ea hF)]; exact ea
    refine ⟨upd F q (.tup vs), ?_, ⟨sm, fun _ _ e _ _ => e, fun i _ h => .inl ⟨i, h⟩, fun a h ea _ => ?_, fun _ h => h, fun _ h => h, fun t => t.fixF (t.no e)⟩, upd_same⟩
    · refine ⟨R.ls, R.lσ, fun i t d ht hs => ?_, R.dis, fun i a h => ?_, R.oh, fun a u ea => ?_, fun a ob ea => ?_, ⟨R.stp.f.trans sm, R.stp.keep, R.stp.new, fun a h ea k => ?_, R.stp.there, R.stp.nt, fun t => (R.stp.tab t).fixF (R.tb.no e)⟩, R.par, R.loc, R.tb.fixF (R.tb.no e)⟩
      · obtain ⟨v, h1, h2⟩ := R.slot i t d ht hs
        exact ⟨v, h1, h2.mono sm fun _ _ _ e => e⟩
      · rw [upd_ne (nq a (R.oh i a h))]; exact R.nF i a h
      · by_cases z : a = q
        · subst z
          rw [upd_same] at ea
          cases ea
          unfold lk
          cases zL : G.L a with
          | none => exact e
          | some ob =>
            obtain ⟨o', e', _⟩ := R.lkd a ob zL
            rw [hF] at e'
            cases e'
        · rw [upd_ne z] at ea; exact R.ext a u ea
      · obtain ⟨o', e1, e2⟩ := R.lkd a ob ea
        exact ⟨o', sm a o' e1, e2⟩
      · rw [upd_ne (nq a (R.stp.nt a h))]; exact R.stp.nof a h ea k
    · rw [upd_ne (nq a h)]; exact ea
theorem Rel.seeTs {s : Env} {σ : Sl} {H : Hp} {fp : Fp} : ∀ {bs : List (Addr × List Key)} {F : Hp}, Rel G Γ s σ F fp H → (∀ b ∈ bs, H b.1 = some (.tup (b.2.map kV))) → ∃ F', Rel G Γ s σ F' fp H ∧ Stp L0 F fp H F' fp H ∧ Reps F' (bs.map fun b => kDs b.2) (bs.map fun b => V.ref b.1)
  | [], F, R, _ => ⟨F, R, Stp.refl F fp H, .nil⟩
  | b :: bs, F, R, h => by
    obtain ⟨F1, R1, x1, e1⟩ := R.seeT (h b List.mem_cons_self)
    obtain ⟨F2, R2, x2, r2⟩ := Rel.seeTs (bs := bs) R1 fun c hc => h c (List.mem_cons_of_mem _ hc)
    exact ⟨F2, R2, x1.trans x2, .cons (.tup (x2.f _ _ e1) (kDs_reps b.2)) r2⟩
theorem Rel.rd {s : Env} {σ : Sl} {F H : Hp} {fp : Fp} (R : Rel G Γ s σ F fp H) {a : Addr} {o : HO} (e : F a = some o) : Rd H a o := by
  have h := R.ext a o e
  unfold lk at h
  cases z : G.L a with
  | none => rw [z] at h; exact .inl h
  | some ob => rw [z] at h; exact .inr ⟨ob, h⟩
theorem Rel.rdz {s : Env} {σ : Sl} {F H : Hp} {fp : Fp} (R : Rel G Γ s σ F fp H) {a : Addr} {o : Obj} {u : HO} (e : F a = some (.frz o u)) : Rd H a u := .inr ⟨o, R.at e rfl⟩
theorem units1 {A : Around} {k : Nat} (r : Room k A) : A.units + 1 < cLine := by have := r.un; omega
theorem pe_orr {e : Expr} {t t' : TE} (h : PE X e t) (h' : PE X e t') : PE X e (fun σ H Q => t σ H Q ∨ t' σ H Q) := ⟨fun pins s σ H Q I q => q.elim (h.run pins s σ H Q I) (h'.run pins s σ H Q I)⟩
/-! ### a fixed dict read -/
def dGet : D → D → Option D
  | .dct ks vs, d => match keyOf d with
    | some k => getV ks vs k
    | none => none
  | _, _ => none
variable {a b : Expr} {ma mb : M} {pos : Pos}
theorem me_ixD {k : Nat} (hr : Room k X.A) (ha : ME X G W Γ a .fr ma) (hb : ME X G W Γ b .fr mb) (hs : NoSl b := by intro _ _; rfl) : ME X G W Γ (.Subscript a b pos) .fr (mOp dGet ma mb) :=
  peI (pe_dget (units1 hr) ha hb hs) fun σ H Q h => two' (r := fun x y H Q => ∃ a v, x = .ref a ∧ DGet H a y (some v) ∧ Q v H) (fun d e z x y s F fp H Q R hz rx ry k => by
    cases rx with
    | @dct ks ds vs a ob ea el rs =>
      unfold dGet at hz
      simp only [] at hz
      cases ek : keyOf e with
      | none => rw [ek] at hz; cases hz
      | some kk =>
        rw [ek] at hz
        obtain ⟨v, h1, h2⟩ := (getV_rep (k := kk) (ks := ks) rs).2 z hz
        obtain ⟨q, rfl, eq⟩ := keyOf_rep ek ry
        exact ⟨a, v, rfl, .inr ⟨ks.zip vs, kk, q, R.rdz ea, rfl, R.at eq rfl, h1.symm⟩, k v h2⟩
    | _ => cases hz) h
/-- k in d -/
def dInD : D → D → Option Bool
  | d, .dct ks _ => match keyOf d with
    | some k => some (memK ks k)
    | none => none
  | _, _ => none
def mInD (g : Bool → Bool) (ma mb : M) : M := fun s => (ma s).bind fun d s1 => (mb s1).bind fun e s2 => R.opt ((dInD d e).map fun k => D.bl (g k)) s2
theorem two_inD {K : PySem.W.Frag} {σ : Sl} {H : Hp} {Q : VK} {g : Bool → Bool} (h : tM K G W Γ .fr (mInD g ma mb) σ H Q) :
    tM K G W Γ .fr ma σ H fun y H1 => tM K G W Γ .fr mb σ H1 fun x H2 => ∃ a o, x = .ref a ∧ DGet H2 a y o ∧ Q (.bl (g o.isSome)) H2 := by
  obtain ⟨s, F, fp, R, q⟩ := h
  refine ⟨s, F, fp, R, pbind q fun d s1 y F1 fp1 H1 R1 st1 a1 q1 => ⟨s1, F1, fp1, R1, pbind q1 fun e s2 x F2 fp2 H2 R2 st2 a2 q2 => ?_⟩⟩
  obtain ⟨z, ez, q3⟩ := opt_post q2
  obtain ⟨c, ec, rfl⟩ := Option.map_eq_some_iff.mp ez
  have r1 := a1.rep.mono st2.f
  cases a2.rep with
  | @dct ks ds vs a ob ea el rs =>
    unfold dInD at ec
    simp only [] at ec
    cases ek : keyOf d with
    | none => rw [ek] at ec; cases ec
    | some kk =>
      rw [ek] at ec
      cases ec
      obtain ⟨b, rfl, eb⟩ := keyOf_rep ek r1
      refine ⟨a, valV (ks.zip vs) kk, rfl, .inr ⟨ks.zip vs, kk, b, R2.rdz ea, rfl, R2.at eb rfl, rfl⟩, ?_⟩
      have e5 : (valV (ks.zip vs) kk).isSome = memK ks kk := getV_isSome (vs := vs) el
      rw [e5]
      exact pok q3 R2 (AE.fr (.bl _))
  | _ => cases d <;> cases ec
theorem me_inD {k : Nat} (hr : Room k X.A) (ha : ME X G W Γ a .fr ma) (hb : ME X G W Γ b .fr mb) (hm : behindInMarks .In b = false := by with_unfolding_all rfl) : ME X G W Γ (.Compare a [.In] [b] pos) .fr (mInD (fun k => k) ma mb) :=
  peI (pe_cmp (pc_din (units1 hr) ha hb) hm) fun σ H Q h => two_inD (g := fun k => k) h
theorem me_notinD {k : Nat} (hr : Room k X.A) (ha : ME X G W Γ a .fr ma) (hb : ME X G W Γ b .fr mb) (hm : behindInMarks .NotIn b = false := by with_unfolding_all rfl) : ME X G W Γ (.Compare a [.NotIn] [b] pos) .fr (mInD (fun k => !k) ma mb) :=
  peI (pe_cmp (pc_dnotin (units1 hr) ha hb) hm) fun σ H Q h => two_inD (g := fun k => !k) h
theorem tst2 {σ : Sl} {H : Hp} {Q : Bool → Hp → Prop} {g : Bool → Bool} (h : tMB X.K G W Γ (mTst (mInD g ma mb)) σ H Q) :
    tM X.K G W Γ .fr ma σ H fun y H1 => tM X.K G W Γ .fr mb σ H1 fun x H2 => ∃ a o, x = .ref a ∧ DGet H2 a y o ∧ ∃ k, V.bl (g o.isSome) = .bl k ∧ Q k H2 := two_inD (Q := fun x H2 => ∃ k, x = .bl k ∧ Q k H2) (tst h)
theorem mt_inD {k : Nat} (hr : Room k X.A) (ha : ME X G W Γ a .fr ma) (hb : ME X G W Γ b .fr mb) (hm : behindInMarks .In b = false := by with_unfolding_all rfl) : MT X G W Γ (.Compare a [.In] [b] pos) (mTst (mInD (fun k => k) ma mb)) :=
  ptI (pt_cmp (pc_din (units1 hr) ha hb) hm) fun σ H Q h => tst2 (g := fun k => k) h
theorem mt_notinD {k : Nat} (hr : Room k X.A) (ha : ME X G W Γ a .fr ma) (hb : ME X G W Γ b .fr mb) (hm : behindInMarks .NotIn b = false := by with_unfolding_all rfl) : MT X G W Γ (.Compare a [.NotIn] [b] pos) (mTst (mInD (fun k => !k) ma mb)) :=
  ptI (pt_cmp (pc_dnotin (units1 hr) ha hb) hm) fun σ H Q h => tst2 (g := fun k => !k) h
/-! ### an own dict -/
def mDNew : M := fun s => .ok (.dct [] []) s
theorem new_own {K : PySem.W.Frag} {σ : Sl} {F H : Hp} {fp : Fp} {Q : VK} {d : D} {t : Ty} {s : Env} {o : HO} {p : Addr} {fp0 : Fp} {H0 : Hp} (th : ∀ a, H0 a ≠ none → H a ≠ none) (ho : tupO o = false) (R : Rel G Γ s σ F fp H) (hp : H p = none) (q : PostG K G W Γ σ F fp H (AE G t fp0 H0) Q (.ok d s)) (a : At F (upd H p o) t d (.ref p) [p]) : Q (.ref p) (upd H p o) := by
  obtain ⟨R2, st2⟩ := R.lay (o := o) hp
  refine q _ _ _ _ R2 st2 ⟨[p], a, fun b hb => ?_⟩
  rw [List.mem_singleton.mp hb]
  exact ⟨R.nowF hp, R.newFp hp, R.newG hp, .inr (Classical.byContradiction fun z => th p z hp)⟩
theorem me_dnew : ME X G W Γ (.Dict [] [] pos) .od mDNew :=
  peI pe_dnewT fun σ H Q ⟨s, F, fp, R, q⟩ p hp => new_own (fun _ h => h) rfl R hp q ⟨p, [], [], [], rfl, rfl, upd_same, rfl, .nil, rfl⟩
/-- an own dict is fixed, and locked, for good -/
theorem pe_lockD {e : Expr} {t : TE} (h : PE X e t) : PE X e (fun σ H Q => t σ H fun x H1 => ∃ d kvs, x = .ref d ∧ H1 d = some (.dT kvs) ∧ ∀ o, Q x (upd H1 d (.frz o (.dT kvs)))) := by
  refine ⟨fun pins s σ H Q I hw => thn (h.run pins s σ H _ I hw) fun v s1 ⟨x, H1, I1, r, d, kvs, ex, hd, q⟩ => ?_⟩
  obtain ⟨o, I2⟩ := I1.lock hd trivial
  exact ⟨x, _, I2, r, q o⟩
theorem me_fixD {e : Expr} {m : M} (h : ME X G W Γ e .od m) : ME X G W Γ e .fr m :=
  peI (pe_lockD h) fun σ H Q ⟨s, F, fp, R, q⟩ => ⟨s, F, fp, R, by
    cases em : m s with
    | ok d s1 =>
      rw [em] at q
      rintro v F1 fp1 H1 R1 st1 ⟨B, ⟨p, ks, ds, vs, rfl, rfl, e3, l, r, rfl⟩, tq⟩
      obtain ⟨t1, t2, t3, t4⟩ := tq p (List.mem_singleton.mpr rfl)
      refine ⟨p, ks.zip vs, rfl, e3, fun o => ?_⟩
      have R2 := R1.tmp (o := .frz o (.dT (ks.zip vs))) t1 t2 t3 e3
      have hs : Stp L0 F fp H F1 fp1 (upd H1 p (.frz o (.dT (ks.zip vs)))) := by
        refine ⟨st1.f, fun a u e hz hn => ?_, st1.new, st1.nof, fun a ha => ?_, fun a ha => (st1.nt a ha).upd' rfl, fun t => (st1.tab t).own ⟨_, e3, rfl⟩⟩
        · have z : a ≠ p := fun z => by
            subst z
            rcases t4 with ⟨i, hi⟩ | z
            · exact hn i hi
            · rw [e] at z; cases z
          rw [upd_ne z]; exact st1.keep a u e hz hn
        · by_cases z : a = p
          · rw [z, upd_same]; exact Option.some_ne_none _
          · rw [upd_ne z]; exact st1.there a ha
      exact q _ _ _ _ (R2.free t1 t2 t3 upd_same) (hs.free t1 t4 (R2.tb.no upd_same)) (AE.fr (.dct (o := o) upd_same l (r.mono fun a u e => by rw [upd_ne (ne_of_none e t1)]; exact e)))
    | err er s1 => rw [em] at q; exact q
    | stuck => rw [em] at q; exact q⟩
def mInO (g : Bool → Bool) (ma : M) (i : Nat) : M := fun s => (ma s).bind fun d s1 => match s1[i]? with
  | some (some e) => R.opt ((dInD d e).map fun k => D.bl (g k)) s1
  | _ => .stuck
theorem two_inO {K : PySem.W.Frag} {σ : Sl} {H : Hp} {Q : VK} {g : Bool → Bool} {i : Nat} (ht : Γ[i]? = some .od) (h : tM K G W Γ .fr (mInO g ma i) σ H Q) :
    tM K G W Γ .fr ma σ H fun y H1 => tVar i σ H1 fun x H2 => ∃ a o, x = .ref a ∧ DGet H2 a y o ∧ Q (.bl (g o.isSome)) H2 := by
  obtain ⟨s, F, fp, R, q⟩ := h
  refine ⟨s, F, fp, R, pbind q fun d s1 y F1 fp1 H1 R1 st1 a1 q1 => ?_⟩
  split at q1
  · rename_i e e0
    obtain ⟨v, hv, p, ks, ds, vs, rfl, rfl, e3, l, rs, e4⟩ := R1.slot i _ _ ht e0
    refine ⟨.ref p, hv, ?_⟩
    obtain ⟨z, ez, q3⟩ := opt_post q1
    obtain ⟨c, ec, rfl⟩ := Option.map_eq_some_iff.mp ez
    unfold dInD at ec
    simp only [] at ec
    cases ek : keyOf d with
    | none => rw [ek] at ec; cases ec
    | some kk =>
      rw [ek] at ec
      cases ec
      obtain ⟨b, rfl, eb⟩ := keyOf_rep ek a1.rep
      refine ⟨p, valV (ks.zip vs) kk, rfl, .inr ⟨ks.zip vs, kk, b, .inl e3, rfl, R1.at eb rfl, rfl⟩, ?_⟩
      have e5 : (valV (ks.zip vs) kk).isSome = memK ks kk := getV_isSome (vs := vs) l
      rw [e5]
      exact pok q3 R1 (AE.fr (.bl _))
  · exact q1.elim
theorem tst3 {σ : Sl} {H : Hp} {Q : Bool → Hp → Prop} {g : Bool → Bool} {i : Nat} (ht : Γ[i]? = some .od) (h : tMB X.K G W Γ (mTst (mInO g ma i)) σ H Q) :
    tM X.K G W Γ .fr ma σ H fun y H1 => tVar i σ H1 fun x H2 => ∃ a o, x = .ref a ∧ DGet H2 a y o ∧ ∃ k, V.bl (g o.isSome) = .bl k ∧ Q k H2 := two_inO (Q := fun x H2 => ∃ k, x = .bl k ∧ Q k H2) ht (tst h)
theorem me_inO {k i : Nat} (hr : Room k X.A) (ha : ME X G W Γ a .fr ma) (hb : PE X b (tVar i)) (ht : Γ[i]? = some .od) (hm : behindInMarks .In b = false := by with_unfolding_all rfl) : ME X G W Γ (.Compare a [.In] [b] pos) .fr (mInO (fun k => k) ma i) :=
  peI (pe_cmp (pc_din (units1 hr) ha hb) hm) fun σ H Q h => two_inO (g := fun k => k) ht h
theorem me_notinO {k i : Nat} (hr : Room k X.A) (ha : ME X G W Γ a .fr ma) (hb : PE X b (tVar i)) (ht : Γ[i]? = some .od) (hm : behindInMarks .NotIn b = false := by with_unfolding_all rfl) : ME X G W Γ (.Compare a [.NotIn] [b] pos) .fr (mInO (fun k => !k) ma i) :=
  peI (pe_cmp (pc_dnotin (units1 hr) ha hb) hm) fun σ H Q h => two_inO (g := fun k => !k) ht h
theorem mt_inO {k i : Nat} (hr : Room k X.A) (ha : ME X G W Γ a .fr ma) (hb : PE X b (tVar i)) (ht : Γ[i]? = some .od) (hm : behindInMarks .In b = false := by with_unfolding_all rfl) : MT X G W Γ (.Compare a [.In] [b] pos) (mTst (mInO (fun k => k) ma i)) :=
  ptI (pt_cmp (pc_din (units1 hr) ha hb) hm) fun σ H Q h => tst3 (g := fun k => k) ht h
theorem mt_notinO {k i : Nat} (hr : Room k X.A) (ha : ME X G W Γ a .fr ma) (hb : PE X b (tVar i)) (ht : Γ[i]? = some .od) (hm : behindInMarks .NotIn b = false := by with_unfolding_all rfl) : MT X G W Γ (.Compare a [.NotIn] [b] pos) (mTst (mInO (fun k => !k) ma i)) :=
  ptI (pt_cmp (pc_dnotin (units1 hr) ha hb) hm) fun σ H Q h => tst3 (g := fun k => !k) ht h
/-- x[k] -/
def mGetO (i : Nat) (mb : M) : M := fun s => match s[i]? with
  | some (some _) => (mb s).bind fun d s1 => match s1[i]? with
    | some (some e) => R.opt (dGet e d) s1
    | _ => .stuck
  | _ => .stuck
theorem me_getO {k i : Nat} (hr : Room k X.A) (ha : PE X a (tVar i)) (ht : Γ[i]? = some .od) (hb : ME X G W Γ b .fr mb) (hs : NoSl b := by intro _ _; rfl) : ME X G W Γ (.Subscript a b pos) .fr (mGetO i mb) :=
  peI (pe_dget (units1 hr) ha hb hs) fun σ H Q ⟨s, F, fp, R, q⟩ => by
    unfold mGetO at q
    split at q
    · rename_i d0 e0
      obtain ⟨v, hv, a0⟩ := R.slot i _ _ ht e0
      refine ⟨v, hv, s, F, fp, R, pbind q fun d s1 y F1 fp1 H1 R1 x a1 q1 => ?_⟩
      split at q1
      · rename_i e e1
        obtain ⟨v', hv', p, ks, ds, vs, rfl, rfl, e3, l, rs, e4⟩ := R1.slot i _ _ ht e1
        rw [hv] at hv'
        cases hv'
        obtain ⟨z, ez, q3⟩ := opt_post q1
        unfold dGet at ez
        simp only [] at ez
        cases ek : keyOf d with
        | none => rw [ek] at ez; cases ez
        | some kk =>
          rw [ek] at ez
          obtain ⟨b, rfl, eb⟩ := keyOf_rep ek a1.rep
          obtain ⟨w, h1, h2⟩ := (getV_rep (k := kk) (ks := ks) rs).2 z ez
          exact ⟨p, w, rfl, .inr ⟨ks.zip vs, kk, b, .inl e3, rfl, R1.at eb rfl, h1.symm⟩, pok q3 R1 (AE.fr h2)⟩
      · exact q1.elim
    · exact q.elim
/-- x[k] = e -/
def dPut (e d z : D) : Option D := match e, keyOf d with
  | .dct ks vs, some k => if ks.length < 16000000 then some (.dct (putKs ks k) (putV ks vs k z)) else none
  | _, _ => none
def sPutO (i : Nat) (mb mz : M) : MS := fun s => (mz s).so fun z s1 => match s1[i]? with
  | some (some _) => (mb s1).so fun d s2 => match s2[i]? with
    | some (some e) => SO.opt ((dPut e d z).map fun e' => s2.set i (some e'))
    | _ => .stuck
  | _ => .stuck
theorem ms_putO {k i : Nat} {e : Expr} {mz : M} {p1 : Pos} (hr : Room k X.A) (ha : PE X a (tVar i)) (ht : Γ[i]? = some .od) (hb : ME X G W Γ b .fr mb) (he : ME X G W Γ e .fr mz) (hs : swapsWith e (some (.Subscript a b p1)) pos.line X.env = pure false := by rfl) :
    MSt X G W Γ rt (.Assign [.Subscript a b p1] e pos) (sPutO i mb mz) :=
  psI (ps_dput (units1 hr) ha hb he hs) fun Dn σ H ⟨s, F, fp, R, q⟩ => ⟨s, F, fp, R, sbind q fun z s1 vz F1 fp1 H1 R1 x az q1 => by
    split at q1
    · rename_i d0 e0
      obtain ⟨v, hv, a0⟩ := R1.slot i _ _ ht e0
      refine ⟨v, hv, s1, F1, fp1, R1, sbind q1 fun d s2 y F2 fp2 H2 R2 x2 a2 q2 => ?_⟩
      split at q2
      · rename_i e e1
        obtain ⟨v', hv', p, ks, ds, vs, rfl, rfl, e3, l, rs, e4⟩ := R2.slot i _ _ ht e1
        rw [hv] at hv'
        cases hv'
        unfold dPut at q2
        cases ek : keyOf d with
        | none => rw [ek] at q2; exact q2.elim
        | some kk =>
          rw [ek] at q2
          simp only [] at q2
          by_cases hl : ks.length < 16000000
          · rw [if_pos hl] at q2
            obtain ⟨b, rfl, eb⟩ := keyOf_rep ek a2.rep
            have hz : (ks.zip vs).length < sizeLine := by rw [List.length_zip]; exact Nat.lt_of_le_of_lt (Nat.min_le_left _ _) (sixteen hl)
            refine ⟨p, _, rfl, .inr ⟨ks.zip vs, kk, b, e3, rfl, R2.at eb rfl, hz, rfl⟩, ?_⟩
            have hp : p ∈ fp2 i := by rw [e4]; exact List.mem_singleton.mpr rfl
            obtain ⟨R3, x3⟩ := R2.own (o := .dT (putK (ks.zip vs) kk vz)) (d := .dct (putKs ks kk) (putV ks ds kk z)) ht hp (.ref p) hv
              ⟨p, putKs ks kk, putV ks ds kk z, putV ks vs kk vz, rfl, rfl, by rw [upd_same, put_zip l], putKs_len l, putV_rep (az.rep.mono x2.f) rs, e4⟩
            exact q2 _ _ _ _ R3 x3
          · rw [if_neg hl] at q2; exact q2.elim
      · exact q2.elim
    · exact q1.elim⟩
end
end Bk

set_option Elab.async false
set_option linter.all false
set_option maxRecDepth 100000
set_option maxHeartbeats 4000000
namespace Bk
open PySem PySem.Spec PyProof.Rows L2
variable [Cls]
/-! ### the mirrors, step by step -/
def runK (ts : List Ty) (rt : Ty) (o : SO) : R D := match o with
  | .nx s => if rt = .fr then .ok .non (msk ts s) else .stuck
  | .rt d s => .ok d (msk ts s)
  | .err e s => .err e (msk ts s)
  | _ => .stuck
/-- P holds of o -/
def Hs (P : SO → Prop) (o : SO) : Prop := P o
theorem run_go {Q : R D → Prop} {f : List D → R D} {ts : List Ty} {rt : Ty} {k : Nat} {m : MS} {args : List D} {env : Env} (hf : f = runF ts rt k m) (he : args.map some ++ List.replicate (k - args.length) none = env) (h : Hs (fun o => Q (runK ts rt o)) (m env)) : Q (f args) := by
  rw [← he] at h
  rw [hf]
  exact h
theorem run_eq {f : List D → R D} {ts : List Ty} {rt : Ty} {k : Nat} {m : MS} {args : List D} {env : Env} {r : R D} (hf : f = runF ts rt k m) (he : args.map some ++ List.replicate (k - args.length) none = env) (h : Hs (fun o => runK ts rt o = r) (m env)) : f args = r := by
  rw [← he] at h
  rw [hf]
  exact h
theorem nx_step {P : SO → Prop} {m a b : MS} {s s' : Env} (h : m = sSeq a b) (e : a s = .nx s') (k : Hs P (b s')) : Hs P (m s) := by
  rw [h]
  unfold sSeq
  rw [e]
  exact k
theorem nx_is {P : SO → Prop} {m : MS} {s : Env} {o : SO} (e : m s = o) (k : P o) : Hs P (m s) := by rw [e]; exact k
def SeqP (b : MS) (P : SO → Prop) : SO → Prop := fun o => P (o.bind b)
theorem seqP_nx {P : SO → Prop} {m b : MS} {s s' : Env} (e : m s = .nx s') (k : Hs P (b s')) : Hs (SeqP b P) (m s) := by rw [e]; exact k
theorem seqP_rt {P : SO → Prop} {m b : MS} {s s' : Env} {d : D} (e : m s = .rt d s') (k : P (.rt d s')) : Hs (SeqP b P) (m s) := by rw [e]; exact k
theorem seqP_err {P : SO → Prop} {m b : MS} {s s' : Env} {er : Err} (e : m s = .err er s') (k : P (.err er s')) : Hs (SeqP b P) (m s) := by rw [e]; exact k
theorem if_step {P : SO → Prop} {m a a' b : MS} {c : MB} {s s0 : Env} {t : Bool} (h : m = sSeq (sIf c a a') b) (e : c s = .ok t s0) (k : Hs (SeqP b P) (if t = true then a s0 else a' s0)) : Hs P (m s) := by
  rw [h]
  unfold sSeq sIf
  rw [e]
  exact k
theorem if_t {P : SO → Prop} {m a a' b : MS} {c : MB} {s s0 : Env} (h : m = sSeq (sIf c a a') b) (e : c s = .ok true s0) (k : Hs (SeqP b P) (a s0)) : Hs P (m s) := if_step h e k
theorem if_f {P : SO → Prop} {m a a' b : MS} {c : MB} {s s0 : Env} (h : m = sSeq (sIf c a a') b) (e : c s = .ok false s0) (k : Hs (SeqP b P) (a' s0)) : Hs P (m s) := if_step h e k
theorem if_fn {P : SO → Prop} {m a b : MS} {c : MB} {s s0 : Env} (h : m = sSeq (sIf c a sNil) b) (e : c s = .ok false s0) (k : Hs P (b s0)) : Hs P (m s) := if_step h e k
theorem lif_t {P : SO → Prop} {m a a' : MS} {c : MB} {s s0 : Env} (h : m = sIf c a a') (e : c s = .ok true s0) (k : Hs P (a s0)) : Hs P (m s) := by
  rw [h]
  unfold sIf
  rw [e]
  exact k
theorem lif_f {P : SO → Prop} {m a a' : MS} {c : MB} {s s0 : Env} (h : m = sIf c a a') (e : c s = .ok false s0) (k : Hs P (a' s0)) : Hs P (m s) := by
  rw [h]
  unfold sIf
  rw [e]
  exact k
/-- what a loop's body may do: go on with I, or leave with P -/
def NX (I : Env → Prop) (J : SO → Prop) : SO → Prop
  | .nx s => I s
  | .ct s => I s
  | .bk s => J (.nx s)
  | o => J o
theorem for_go {P : SO → Prop} {g : MG} {b : MS} {I : List D → Env → Prop} : ∀ {ds : List D} {s : Env}, I ds s → (∀ d r s, I (d :: r) s → ∃ s1, g d s = some s1 ∧ Hs (NX (I r) P) (b s1)) → (∀ s, I [] s → P (.nx s)) → P (forM g b ds s)
  | [], s, h, _, k => k s h
  | d :: ds, s, h, hb, k => by
    obtain ⟨s1, e1, h1⟩ := hb d ds s h
    unfold forM
    rw [e1]
    simp only []
    cases eb : b s1 with
    | nx s2 => rw [eb] at h1; exact for_go h1 hb k
    | ct s2 => rw [eb] at h1; exact for_go h1 hb k
    | bk s2 => rw [eb] at h1; exact h1
    | rt d s2 => rw [eb] at h1; exact h1
    | err e s2 => rw [eb] at h1; exact h1
    | stuck => rw [eb] at h1; exact h1
theorem for_step {P : SO → Prop} {m b r : MS} {mi : MA} {g : MG} {s s0 : Env} {ds : List D} (I : List D → Env → Prop) (h : m = sSeq (sFor mi g b) r) (e : mi s = .ok ds s0) (h0 : I ds s0)
    (hb : ∀ d rest s, I (d :: rest) s → ∃ s1, g d s = some s1 ∧ Hs (NX (I rest) (SeqP r P)) (b s1)) (k : ∀ s, I [] s → Hs P (r s)) : Hs P (m s) := by
  rw [h]
  show SeqP r P ((mi s).so (forM g b))
  rw [e]
  exact for_go h0 hb k
theorem lfor_step {P : SO → Prop} {m b : MS} {mi : MA} {g : MG} {s s0 : Env} {ds : List D} (I : List D → Env → Prop) (h : m = sFor mi g b) (e : mi s = .ok ds s0) (h0 : I ds s0)
    (hb : ∀ d rest s, I (d :: rest) s → ∃ s1, g d s = some s1 ∧ Hs (NX (I rest) P) (b s1)) (k : ∀ s, I [] s → P (.nx s)) : Hs P (m s) := by
  rw [h]
  show P ((mi s).so (forM g b))
  rw [e]
  exact for_go h0 hb k
/-- .. by what is done and what is left -/
theorem for_done {P : SO → Prop} {m b r : MS} {mi : MA} {g : MG} {s s0 : Env} {ds : List D} (I : List D → List D → Env → Prop) (h : m = sSeq (sFor mi g b) r) (e : mi s = .ok ds s0) (h0 : I [] ds s0)
    (hb : ∀ done d rest s, ds = done ++ d :: rest → I done (d :: rest) s → ∃ s1, g d s = some s1 ∧ Hs (NX (I (done ++ [d]) rest) (SeqP r P)) (b s1)) (k : ∀ s, I ds [] s → Hs P (r s)) : Hs P (m s) := by
  refine for_step (I := fun rest s => ∃ done, ds = done ++ rest ∧ I done rest s) h e ⟨[], rfl, h0⟩ (fun d rest s ⟨done, e1, hi⟩ => ?_) fun s ⟨done, e1, hi⟩ => by
    rw [List.append_nil] at e1
    subst e1
    exact k s hi
  obtain ⟨s1, e2, q⟩ := hb done d rest s e1 hi
  refine ⟨s1, e2, ?_⟩
  have e3 : ds = (done ++ [d]) ++ rest := by rw [e1, List.append_assoc]; rfl
  cases eb : b s1 with
  | nx s2 => rw [eb] at q; exact ⟨_, e3, q⟩
  | ct s2 => rw [eb] at q; exact ⟨_, e3, q⟩
  | bk s2 => rw [eb] at q; exact q
  | rt d s2 => rw [eb] at q; exact q
  | err e s2 => rw [eb] at q; exact q
  | stuck => rw [eb] at q; exact q
theorem while_go {P : SO → Prop} {c : MB} {b : MS} {I : Nat → Env → Prop} : ∀ {k : Nat} {s : Env}, I k s → (∀ k s, I k s → ∃ t s1, c s = .ok t s1 ∧ if t = true then 0 < k ∧ Hs (NX (fun s2 => ∃ j, j < k ∧ I j s2) P) (b s1) else P (.nx s1)) → P (whileM c b (k + 1) s) := by
  intro k s h hb
  have key : ∀ (n k : Nat) (s : Env), k ≤ n → I k s → P (whileM c b (n + 1) s) := by
    intro n
    induction n with
    | zero =>
      intro k s hk h
      obtain ⟨t, s1, e, q⟩ := hb k s h
      unfold whileM
      rw [e]
      cases t with
      | false => exact q
      | true => rw [if_pos rfl] at q; omega
    | succ n ih =>
      intro k s hk h
      obtain ⟨t, s1, e, q⟩ := hb k s h
      unfold whileM
      rw [e, R.so_ok]
      cases t with
      | false => exact q
      | true =>
        rw [if_pos rfl] at q ⊢
        obtain ⟨hk0, q⟩ := q
        cases eb : b s1 with
        | nx s2 => rw [eb] at q; obtain ⟨j, hj, q⟩ := q; exact ih j s2 (by omega) q
        | ct s2 => rw [eb] at q; obtain ⟨j, hj, q⟩ := q; exact ih j s2 (by omega) q
        | bk s2 => rw [eb] at q; exact q
        | rt d s2 => rw [eb] at q; exact q
        | err e s2 => rw [eb] at q; exact q
        | stuck => rw [eb] at q; exact q
  exact key k k s (Nat.le_refl _) h
/-- a while whose fuel is enough: I k s, k turns at most are left -/
theorem while_step {P : SO → Prop} {m b r : MS} {c : MB} {fuel : Env → Nat} {s : Env} {k : Nat} (I : Nat → Env → Prop) (h : m = sSeq (sWhile fuel c b) r) (hf : k < fuel s) (h0 : I k s)
    (hb : ∀ k s, I k s → ∃ t s1, c s = .ok t s1 ∧ if t = true then 0 < k ∧ Hs (NX (fun s2 => ∃ j, j < k ∧ I j s2) (SeqP r P)) (b s1) else Hs P (r s1)) : Hs P (m s) := by
  rw [h]
  show SeqP r P (whileM c b (fuel s) s)
  obtain ⟨n, e⟩ : ∃ n, fuel s = n + 1 := ⟨fuel s - 1, by omega⟩
  rw [e]
  refine while_go (P := SeqP r P) (I := fun j s => ∃ k', k' ≤ j ∧ I k' s) (k := n) ⟨k, by omega, h0⟩ fun j s ⟨k', hk, h⟩ => ?_
  obtain ⟨t, s1, e1, q⟩ := hb k' s h
  refine ⟨t, s1, e1, ?_⟩
  cases t with
  | false => exact q
  | true =>
    rw [if_pos rfl] at q ⊢
    refine ⟨by omega, ?_⟩
    have q := q.2
    cases eb : b s1 with
    | nx s2 => rw [eb] at q; obtain ⟨i, hi, q⟩ := q; exact ⟨i, by omega, i, Nat.le_refl _, q⟩
    | ct s2 => rw [eb] at q; obtain ⟨i, hi, q⟩ := q; exact ⟨i, by omega, i, Nat.le_refl _, q⟩
    | bk s2 => rw [eb] at q; exact q
    | rt d s2 => rw [eb] at q; exact q
    | err e s2 => rw [eb] at q; exact q
    | stuck => rw [eb] at q; exact q
/-! ### dicts, plainly -/
def keysD (ds : List D) : Prop := ∀ d ∈ ds, (keyOf d).isSome = true
theorem memK_app {ks : List (List Key)} {k k' : List Key} : memK (ks ++ [k]) k' = (memK ks k' || decide (k = k')) := by
  unfold memK
  rw [List.any_append]
  simp
theorem putKs_mem {ks : List (List Key)} {k k' : List Key} : k' ∈ putKs ks k ↔ k' ∈ ks ∨ k' = k := by
  unfold putKs
  by_cases h : memK ks k = true
  · rw [if_pos h]
    exact ⟨.inl, fun q => q.elim id fun e => by rw [e]; exact memK_iff.mp h⟩
  · rw [if_neg h]
    simp
theorem putKs_nodup {ks : List (List Key)} {k : List Key} (h : ks.Nodup) : (putKs ks k).Nodup := by
  unfold putKs
  by_cases z : memK ks k = true
  · rw [if_pos z]; exact h
  · rw [if_neg z]
    refine List.nodup_append.mpr ⟨h, by simp, fun a ha b hb e => ?_⟩
    rw [List.mem_singleton.mp hb] at e
    rw [e] at ha
    exact z (memK_iff.mpr ha)
theorem putKs_le {ks : List (List Key)} {k : List Key} : (putKs ks k).length ≤ ks.length + 1 := by
  unfold putKs
  split
  · omega
  · simp
theorem getV_put {α : Type} {k k' : List Key} {v : α} : ∀ {ks : List (List Key)} {vs : List α}, ks.length = vs.length → getV (putKs ks k) (putV ks vs k v) k' = if k' = k then some v else getV ks vs k' := by
  intro ks vs h
  unfold putKs putV
  by_cases z : memK ks k = true
  · rw [if_pos z, if_pos z]
    have key : ∀ {ks : List (List Key)} {vs : List α}, ks.length = vs.length → getV ks ((ks.zip vs).map fun p => if p.1 = k then v else p.2) k' = if k' = k then (if memK ks k = true then some v else none) else getV ks vs k' := by
      intro ks
      induction ks with
      | nil => intro vs h; simp [getV, memK]
      | cons a ks ih =>
        intro vs h
        cases vs with
        | nil => simp at h
        | cons b vs =>
          have ih := ih (vs := vs) (by simpa using h)
          unfold getV memK at ih ⊢
          rw [List.zip_cons_cons, List.map_cons, List.zip_cons_cons, List.find?_cons, List.find?_cons, List.any_cons]
          by_cases q : a = k'
          · subst q
            by_cases w : a = k
            · subst w; simp
            · simp [w]
          · simp only [q, decide_false]
            rw [ih]
            by_cases w : k' = k
            · subst w
              rw [if_pos rfl, if_pos rfl, show decide (a = k') = false from decide_eq_false q, Bool.false_or]
            · simp [w]
    rw [key h, if_pos z]
  · rw [if_neg z, if_neg z]
    unfold getV
    rw [List.zip_append h, List.find?_append]
    by_cases w : k' = k
    · subst w
      have e0 : (getV ks vs k').isSome = false := by rw [getV_isSome h]; simpa using z
      unfold getV at e0
      cases q : (ks.zip vs).find? fun p => decide (p.1 = k') with
      | none => simp
      | some p => rw [q] at e0; cases e0
    · have w' : ¬ k = k' := fun q => w q.symm
      cases q : (ks.zip vs).find? fun p => decide (p.1 = k') with
      | none => simp [w, w']
      | some p => simp [w]
theorem getV_mem {α : Type} {k : List Key} {ks : List (List Key)} {vs : List α} (h : ks.length = vs.length) : (∃ v, getV ks vs k = some v) ↔ k ∈ ks := by
  rw [← memK_iff, ← getV_isSome (vs := vs) h, Option.isSome_iff_exists]
end Bk
namespace Bk
open PySem PySem.Spec PyProof.Rows L2
/-! ### a call, without a match in its midst -/
def callR (sp : Spc) (s : Env) : R D → R D
  | .ok r e => .ok r (puts sp e s)
  | .err er e => .err er (puts sp e s)
  | .stuck => .stuck
def callO (f : List D → R D) (sp : Spc) (s : Env) : Option (List D) → R D
  | none => .stuck
  | some ds => callR sp s (f ds)
def callK (f : List D → R D) (sp : Spc) (dflt : List D) (ds : List D) (s : Env) : R D := callO f sp s (fill sp (ds ++ dflt) s)
theorem mCallF_e (f : List D → R D) (sp : Spc) (dflt : List D) (ms : MA) (s : Env) : mCallF f sp dflt ms s = (ms s).bind (callK f sp dflt) := by
  rfl
end Bk

set_option Elab.async false
set_option linter.all false
set_option maxRecDepth 100000
set_option maxHeartbeats 4000000
namespace Bs
open PySem PySem.Calls PyProof.Rows PyProof.V PySem.Spec PySem.W
section
variable {prog : Program} {w : World} {A : Around} {E : Value → Shared → Prop} {s : Shared}
/-- the items of a walk in a list; the heap has grown -/
theorem collect_walk {d r : Addr} {n : Nat} {T : String} {P : Nat → Value → Prop} {OK : Heap → Prop} {R : List Value → Shared → Prop} (S : KdlSrc prog w T r d n P OK) (hh : A.handled = none) (ok : OK s.heap) (hn : n ≤ sizeLine)
    (h : ∀ (h' : Heap) (tk : Nat) (acc : Array Value), (∀ b o, s.heap.get? b = some o → h'.get? b = some o) → s.heap.objs.size < h'.objs.size → ItemsOf P acc n → R acc.toList { s with heap := h', toks := tk }) : wpAny (model prog w) A (collect (.ref r)) R E s := by
  have there := S.there _ ok
  have e1 : (s.heap.push { cls := .type "list", data := .seq ([] : List Value).toArray }).get? s.heap.objs.size = some { cls := .type "list", data := .seq #[] } := Heap.get?_push_size _ rfl
  have ext := kdl_extend (A := A) (s := { s with heap := s.heap.push { cls := .type "list", data := .seq ([] : List Value).toArray } }) (R := fun (q : Result) (z : Shared) => ∃ (h' : Heap) (tk : Nat) (acc : Array Value) (c : Nat), q = .ok (.ret (.ref s.heap.objs.size)) ∧ z = { s with heap := h', toks := tk } ∧ (∀ b o, s.heap.get? b = some o → h'.get? b = some o) ∧ h'.get? s.heap.objs.size = some { cls := .type "list", dict := none, data := .seq acc c, slots := #[] } ∧ ItemsOf P acc n)
    S hh (S.keep _ _ ok fun b _ o e => Heap.get?_push_of_some _ e) s.heap.objs.size (Nat.ne_of_gt there.1) (Nat.ne_of_gt there.2) (.ref s.heap.objs.size) 0 e1 (fun h' tk acc c k l it => ⟨h', tk, acc, c, rfl, rfl, fun b o e => k b o (Nat.ne_of_lt (Heap.lt_size e)) (Heap.get?_push_of_some _ e), l, it⟩) hn
  have last : ∀ (h' : Heap) (tk : Nat) (acc : Array Value) (c : Nat), (∀ b o, s.heap.get? b = some o → h'.get? b = some o) → h'.get? s.heap.objs.size = some { cls := .type "list", dict := none, data := .seq acc c, slots := #[] } → ItemsOf P acc n → R acc.toList { s with heap := h', toks := tk } :=
    fun h' tk acc c k l it => h h' tk acc k (Heap.lt_size l) it
  unfold collect
  refine wpAny_bind (wpAny_runValue (codeAny_builtin entry_proto_collect' ((Around.under_plainId PySem.F.plain_proto_collect _).symm ▸ (?_ : wpAny _ A.in1 (newList [] >>= fun l => again (.builtin "list.__iadd__" ⟨[l, .ref r], []⟩)) _ _ s))))
  refine wpAny_bind (wpAny_newObj_type (wpAny_pure ⟨plainId_quiet PySem.F.plain_list_iadd _, codeAny_builtin entry_list_iadd' ((Around.under_plainId PySem.F.plain_list_iadd _).symm ▸ (?_ : wpAny _ A.in1 (Builtin.List.listExtendWith (.ref s.heap.objs.size) (.ref r) (.ref s.heap.objs.size)) _ _ _))⟩))
  refine wpAny_mono ext (fun fin z x => ?_) fun e z x => by obtain ⟨_, _, _, _, q, _⟩ := x; cases q
  cases fin with
  | done f =>
    obtain ⟨h', tk, acc, c, q, rfl, k, l, it⟩ := x
    cases q
    exact wpAny_bind (m := load s.heap.objs.size) (wpAny_load l (wpAny_pure (last h' tk acc c k l it)))
  | again c1 =>
    refine ⟨x.1, codeAny_mono x.2 fun q z y => ?_⟩
    obtain ⟨h', tk, acc, c, rfl, rfl, k, l, it⟩ := y
    exact wpAny_bind (m := load s.heap.objs.size) (wpAny_load l (wpAny_pure (last h' tk acc c k l it)))
/-- sorted of a thing that is walked: of its items, as data -/
theorem sorted_walk {r : Addr} {n : Nat} {P : Nat → Value → Prop} {OK : Heap → Prop} {Q : Value → Shared → Prop} {β : Type} {bs : List β} {enc : β → PyData} {R : Value → β → Prop}
    (S : KdlSrc prog w "dict" r r n P OK) (hh : A.handled = none) (ok : OK s.heap) (hn : n ≤ sizeLine) (hb : bs.length = n)
    (hv : ∀ vs : List Value, vs.length = n → (∀ j v, vs[j]? = some v → P j v) → EachIs R vs bs ∧ EachIs (fun v b => ∃ as, Reads s.heap v (enc b) as) vs bs)
    (hal : AllAlike (bs.map enc)) (hk : Sortable (bs.map enc)) (hu : ∀ b, b ∈ bs → A.units + 2 + (enc b).depth < cLine)
    (h : ∀ (h' : Heap) (tk : Nat) (d : Addr) (out : List Value), (∀ b o, s.heap.get? b = some o → h'.get? b = some o) → s.heap.objs.size ≤ d → (∃ c, h'.get? d = some (seqObj "list" out.toArray c)) → out.length = bs.length → EachIs R out (bs.mergeSort (dataLe false enc)) → Q (.ref d) { s with heap := h', toks := tk }) :
    wpAny (model prog w) A (call (.builtin "sorted") [.ref r]) Q E s := by
  refine call_function_entry kind_sorted plain_sorted entry_sorted (args_sorted1 _) (?_ : wpAny _ _ (Builtin.«sorted» _) _ _ _)
  unfold Builtin.«sorted»
  refine wpAny_bind (m := checkCount "sorted" 1 1 _) (wpAny_pure (wpAny_bind (collect_walk (A := A.in1) S hh ok hn fun h1 tk acc kp hsz hacc => ?_)))
  have hl : acc.toList.length = n := by rw [Array.length_toList]; exact hacc.1
  have hz : acc.toList.length ≤ sizeLine := by rw [hl]; exact hn
  obtain ⟨e1, e2⟩ := hv acc.toList hl fun j v e => hacc.2 j v (by rw [← Array.getElem?_toList]; exact e)
  have lz : bs.length ≤ sizeLine := by rw [hb]; exact hn
  refine wpAny_bind (wpAny_newList (?_ : wpAny _ _ _ _ _ _) hz)
  have ho : (h1.push (seqObj "list" acc.toList.toArray 0)).get? h1.objs.size = some (seqObj "list" acc.toList.toArray 0) := Heap.get?_push_size _ rfl
  have keep : ∀ b o, s.heap.get? b = some o → b ≠ h1.objs.size ∧ (h1.push (seqObj "list" acc.toList.toArray 0)).get? b = some o := fun b o q => ⟨Nat.ne_of_lt (Heap.lt_size (kp b o q)), Heap.get?_push_of_some _ (kp b o q)⟩
  have er : EachIs (fun v b => ∃ as, Reads (sortingHeap (h1.push (seqObj "list" acc.toList.toArray 0)) h1.objs.size acc.toList) v (enc b) as) acc.toList bs :=
    e2.mono fun _ _ ⟨as, rr⟩ => ⟨as, PyProof.Rows.Reads.keeps (fun b o q => sortingHeap_old (keep b o q).1 (keep b o q).2) rr⟩
  have bd : ∀ d, d ∈ bs.map enc → A.in1.in1.units + d.depth < cLine := fun d hd => by
    obtain ⟨b, hb', rfl⟩ := List.mem_map.mp hd
    exact hu b hb'
  show wpAny _ _ _ _ _ { s with heap := h1.push (seqObj "list" acc.toList.toArray 0), toks := tk }
  refine wpAny_bind (wpAny_holding (wpAny_call_entry slot_list_sort ⟨_, ho, rfl⟩ entry_list_sort
    (list_sort_vals (s := { s with heap := h1.push (seqObj "list" acc.toList.toArray 0), toks := tk }) (κ := dataKind (sortingHeap (h1.push (seqObj "list" acc.toList.toArray 0)) h1.objs.size acc.toList) (bs.map enc)) ho
      (SortsAt.data (s := { s with heap := sortingHeap (h1.push (seqObj "list" acc.toList.toArray 0)) h1.objs.size acc.toList, toks := tk }) (each_map (R := fun v d => ∃ as, Reads (sortingHeap (h1.push (seqObj "list" acc.toList.toArray 0)) h1.objs.size acc.toList) v d as) enc er) hal hk bd) hz ⟨_, rfl, ?_⟩) (args_list_sort _)))
  refine wpAny_pure ⟨_, rfl, h _ _ _ (sortVals (dataKind (sortingHeap (h1.push (seqObj "list" acc.toList.toArray 0)) h1.objs.size acc.toList) (bs.map enc)) false acc.toList acc.toList) (fun b o q => ?_) ?_ ?_ ?_ (sortVals_data false e1 er hal)⟩
  · rw [sortedHeap_old (keep b o q).1 (Heap.lt_size (keep b o q).2)]
    exact (keep b o q).2
  · exact Nat.le_of_lt hsz
  · exact sortedHeap_at ho
  · rw [sortVals_length false rfl]
    exact e1.length
end
end Bs
namespace Bk
open PySem PySem.Spec PyProof.Rows L2
/-! ### sorted, plainly -/
def keyPy : Key → PyData
  | .inl i => .int i
  | .inr x => .str x
def kPy (k : List Key) : PyData := .tuple (k.map keyPy)
def kLe (k k' : List Key) : Bool := PySem.W.dataLe false kPy k k'
def dSle (d e : D) : Bool := PySem.W.dataLe false D.py d e
def keysOk (ks : List (List Key)) : Bool := ks.all fun k => !k.isEmpty && ks.all fun k' => PySem.W.alike (kPy k) (kPy k')
def tupNe : D → Bool
  | .tup (_ :: _) => true
  | _ => false
def plainK : D → Bool
  | .int _ => true
  | .str _ => true
  | .bl _ => true
  | _ => false
def sortOk (ds : List D) : Bool := D.flats 60 ds && ((ds.all fun d => ds.all fun e => PySem.W.alike d.py e.py) && (ds.all tupNe || ds.all plainK))
theorem pys_map : ∀ ds : List D, D.pys ds = ds.map D.py
  | [] => rfl
  | d :: ds => by rw [List.map_cons, ← pys_map ds]; rfl
variable [Cls]
theorem each_map' {β : Type} {P : Value → β → Prop} {f : β → Value} : ∀ {bs : List β}, (∀ b ∈ bs, P (f b) b) → PySem.W.EachIs P (bs.map f) bs
  | [], _ => .nil
  | b :: bs, h => .cons (h b List.mem_cons_self) (each_map' fun c hc => h c (List.mem_cons_of_mem _ hc))
theorem each_out {β : Type} {f : β → Value} : ∀ {out : List Value} {bs : List β}, PySem.W.EachIs (fun v b => v = f b) out bs → out = bs.map f
  | _, _, .nil => rfl
  | _, _, .cons h t => by rw [List.map_cons, h, each_out t]
theorem each_vals {β : Type} {f : β → V} : ∀ {out : List Value} {bs : List β}, PySem.W.EachIs (fun v b => RelV (f b) v) out bs → Vals (bs.map f) out
  | _, _, .nil => .nil
  | _, _, .cons h t => .cons h (each_vals t)
section
variable {X : Cx}
def rSortD : List V → Hp → VK → Prop := fun xs H Q => ∃ (a : Addr) (kvs : List (List Key × V)), xs = [.ref a] ∧ Rd H a (.dT kvs) ∧ keysOk (kvs.map (·.1)) = true ∧
  ∀ (p : Addr) (bs : List (Addr × List Key)), H p = none → bs.map (·.2) = (kvs.map (·.1)).mergeSort kLe → (∀ b ∈ bs, H b.1 = some (.tup (b.2.map kV))) → Q (.ref p) (upd H p (.lst (bs.map fun b => V.ref b.1)))
theorem dpKey {K : PySem.W.Frag} {H : Hp} : ∀ k : Key, Dp K H (kV k) (keyPy k)
  | .inl i => .int i
  | .inr x => .str x
theorem dpKeys {K : PySem.W.Frag} {H : Hp} : ∀ k : List Key, DpAll K H (k.map kV) (k.map keyPy)
  | [] => .nil
  | k :: ks => .cons (dpKey k) (dpKeys ks)
theorem key_depth (k : List Key) : (kPy k).depth ≤ 1 := by
  have h : ∀ k : List Key, PyData.depthAll (k.map keyPy) ≤ 0 := fun k => by
    induction k with
    | nil => exact Nat.le_refl _
    | cons a k ih => cases a <;> exact Nat.max_le.mpr ⟨Nat.le_refl _, ih⟩
  exact Nat.succ_le_succ (h k)
theorem call_sortD {k : Nat} (hr : Room k X.A) (hc : X.calm = true) : CallR X (.builtin "sorted") rSortD := by
  intro pins s σ H xs us Q I r h
  obtain ⟨a, kvs, rfl, hd, ok, q⟩ := h
  obtain ⟨u, rfl, rx⟩ := r.one
  cases rx
  obtain ⟨z, hs, ks, pr, o, es, ep, ho, hx, hdt, he, hn⟩ := (show ObjOk X.prog X.w H s.heap a (.dT kvs) from hd.ok I.hok)
  have l1 : es.size = ks.length := size_of_entries he
  have l2 : kvs.length = ks.length := Paired.length pr
  have ek : (ks.map fun x => (x.2.1, x.1)).map (fun b : Addr × List Key => b.2) = kvs.map (·.1) := by
    rw [List.map_map]
    clear q ok hd l1 l2 he hn z
    induction pr with
    | nil => rfl
    | cons h t ih => rw [List.map_cons, List.map_cons, ih, h.1]; rfl
  have hk : ∀ b ∈ ks.map (fun x => ((x.2.1, x.1) : Addr × List Key)), H b.1 = some (.tup (b.2.map kV)) := by
    clear q ok hd l1 l2 he hn ek z
    induction pr with
    | nil => intro b hb; cases hb
    | cons h t ih =>
      intro b hb
      rcases List.mem_cons.mp hb with e | hb
      · rw [e]
        have h2 := h.2.1
        rw [h.1] at h2
        exact h2
      · exact ih b hb
  obtain ⟨al, so⟩ : PySem.W.AllAlike ((ks.map fun x => ((x.2.1, x.1) : Addr × List Key)).map fun b => kPy b.2) ∧ PySem.W.Sortable ((ks.map fun x => ((x.2.1, x.1) : Addr × List Key)).map fun b => kPy b.2) := by
    rw [show ((ks.map fun x => ((x.2.1, x.1) : Addr × List Key)).map fun b => kPy b.2) = (kvs.map (·.1)).map kPy by rw [← ek, List.map_map, List.map_map, List.map_map]; rfl]
    unfold keysOk at ok
    rw [List.all_eq_true] at ok
    refine ⟨fun d hd d' hd' => ?_, .inl fun d hd => ?_⟩
    · obtain ⟨k1, h1, rfl⟩ := List.mem_map.mp hd
      obtain ⟨k2, h2, rfl⟩ := List.mem_map.mp hd'
      exact List.all_eq_true.mp (Bool.and_eq_true_iff.mp (ok k1 h1)).2 k2 h2
    · obtain ⟨k1, h1, rfl⟩ := List.mem_map.mp hd
      have := (Bool.and_eq_true_iff.mp (ok k1 h1)).1
      cases k1 with
      | nil => cases this
      | cons x r => exact ⟨_, _, rfl⟩
  refine Bs.sorted_walk (bs := ks.map fun x => ((x.2.1, x.1) : Addr × List Key)) (enc := fun b => kPy b.2) (R := fun v b => v = Value.ref b.1) (kdl_raw hs hx hdt) (I.ok.hd hc) ho (by omega) (by rw [List.length_map]; exact l1.symm) (fun vs hl hv => ?_) al so (fun b _ => ?_) fun h' tk d out kp hd' hc' hlen eo => ?_
  · have ev : vs = (ks.map fun x => ((x.2.1, x.1) : Addr × List Key)).map fun b => Value.ref b.1 := by
      rw [List.map_map]
      apply List.ext_getElem?
      intro j
      rw [List.getElem?_map]
      cases hj : vs[j]? with
      | none =>
        have := List.getElem?_eq_none_iff.mp hj
        rw [List.getElem?_eq_none (by omega)]
        rfl
      | some v =>
        obtain ⟨en, hen, rfl⟩ := hv j v hj
        have qe := entry_at he j
        rw [hen] at qe
        cases hb : ks[j]? with
        | none =>
          rw [hb] at qe
          exact nomatch (show some en = none from qe)
        | some b =>
          rw [hb] at qe
          rw [show en = entryOfKey (tupleKind (mixKind X.prog X.w)) b from Option.some.inj qe]
          rfl
    rw [ev]
    exact ⟨each_map' fun b _ => rfl, each_map' fun b hb => Dp.reads I (kPy b.2) (.ref b.1) (.ref b.1) (.tup (SqT.of (hk b hb)) (dpKeys b.2)) rfl⟩
  · have := hr.un
    have h1 := key_depth b.2
    show X.A.units + 2 + (kPy b.2).depth < cLine
    omega
  · obtain ⟨c, hc'⟩ := hc'
    have eo' := each_vals (f := fun b : Addr × List Key => V.ref b.1) eo
    have pm := List.mergeSort_perm (ks.map fun x => ((x.2.1, x.1) : Addr × List Key)) (PySem.W.dataLe false fun b => kPy b.2)
    refine ⟨.ref d, _, I.laid (t' := tk) (o := .lst (((ks.map fun x => ((x.2.1, x.1) : Addr × List Key)).mergeSort (PySem.W.dataLe false fun b => kPy b.2)).map fun b => V.ref b.1)) kp hd' ⟨?_, out, c, eo', hc'⟩, rfl, q d _ (I.hok.fresh hd') ?_ fun b hb => hk b (pm.mem_iff.mp hb)⟩
    · rw [List.length_map, pm.length_eq, List.length_map]; omega
    · rw [← ek]
      exact List.map_mergeSort fun _ _ _ _ => rfl
def rSortL (K : PySem.W.Frag) : List V → Hp → VK → Prop := fun xs H Q => ∃ (a : Addr) (vs : List V) (ds : List PyData), xs = [.ref a] ∧ SqL K H a vs ∧ DpAll K H vs ds ∧ PySem.W.AllAlike ds ∧ PySem.W.Sortable ds ∧ (∀ d ∈ ds, d.depth ≤ 60) ∧
  ∀ p : Addr, H p = none → Q (.ref p) (upd H p (.lst (((vs.zip ds).mergeSort (PySem.W.dataLe false fun b => b.2)).map (·.1))))
theorem each3 {pins : List (Addr × Obj)} {σ : L2.St} {H : Hp} {s : Shared} (I : Inv X pins σ H s) : ∀ {vs : List V} {us : List Value} {ds : List PyData}, Vals vs us → DpAll X.K H vs ds → PySem.W.EachIs (fun u (b : V × PyData) => RelV b.1 u) us (vs.zip ds) ∧ PySem.W.EachIs (fun u (b : V × PyData) => ∃ as, Reads s.heap u b.2 as) us (vs.zip ds) ∧ vs.length = ds.length
  | _, _, _, .nil, .nil => ⟨.nil, .nil, rfl⟩
  | _, _, _, .cons r t, .cons d e => by
    obtain ⟨h1, h2, h3⟩ := each3 I t e
    exact ⟨.cons r h1, .cons (Dp.reads I _ _ _ d r) h2, congrArg Nat.succ h3⟩
theorem call_sortL {k : Nat} (hr : Room k X.A) : CallR X (.builtin "sorted") (rSortL X.K) := by
  intro pins s σ H xs us Q I r h
  obtain ⟨a, vs, ds, rfl, hs, hd, al, so, dep, q⟩ := h
  obtain ⟨its, rv, hl, hz⟩ := I.list hs
  obtain ⟨u, rfl, ru⟩ := vals1 r
  obtain rfl : u = Value.ref a := ru
  obtain ⟨e1, e2, e3⟩ := each3 I rv hd
  have ez : (vs.zip ds).map (fun b => b.2) = ds := List.map_snd_zip (by omega)
  have lz : (vs.zip ds).length = vs.length := by rw [List.length_zip]; omega
  refine PySem.W.sorted_data (enc := fun b : V × PyData => b.2) (bs := vs.zip ds) (R := fun u b => RelV b.1 u) hl.isList e1 e2 (by rw [ez]; exact al) (by rw [ez]; exact so) (by omega) (fun b hb => ?_) fun out hlen eo => ?_
  · have := hr.un
    have h1 := dep b.2 (List.of_mem_zip hb).2
    omega
  · obtain ⟨c, hc⟩ := sortedAll_at s.heap its out.toArray
    have kp : ∀ b o, s.heap.get? b = some o → (sortedAll s.heap its out.toArray).get? b = some o := fun b o e => sortedAll_old e
    refine ⟨.ref (s.heap.objs.size + 1), _, I.laid (t' := s.toks) (o := .lst (((vs.zip ds).mergeSort (PySem.W.dataLe false fun b => b.2)).map (·.1))) kp (Nat.le_succ _) ⟨?_, out, c, each_vals eo, hc⟩, rfl, q _ (I.hok.fresh (Nat.le_succ _))⟩
    rw [List.length_map, (List.mergeSort_perm _ _).length_eq, lz]
    exact hz
end
end Bk

set_option Elab.async false
set_option linter.all false
set_option maxRecDepth 100000
set_option maxHeartbeats 4000000
namespace Bk
open PySem PySem.Spec PyProof.Rows L2
variable [Cls]
section
variable {X : Cx} {n : Nat} {G : Gr n} {W : WX} {Γ : List Ty} {rt : Ty} {a b : Expr} {ma mb : M} {pos : Pos}
/-! ### new lists of fixed things -/
/-- behind an expression: a new list of ds -/
theorem new_list {K : PySem.W.Frag} {σ : Sl} {F F0 H H0 : Hp} {fp fp0 : Fp} {Q : VK} {ds : List D} {vs : List V} {s : Env} (x : Stp L0 F0 fp0 H0 F fp H) (R : Rel G Γ s σ F fp H) {p : Addr} (hp : H p = none) (q : PostG K G W Γ σ F fp H (AE G .ol fp0 H0) Q (.ok (.lst ds) s)) (r : Reps F ds vs) : Q (.ref p) (upd H p (.lst vs)) :=
  new_own x.there rfl R hp q ⟨p, ds, vs, rfl, rfl, upd_same, r, rfl⟩
def dSorted : D → Option (List D)
  | .lst ds => if sortOk ds = true then some (ds.mergeSort dSle) else none
  | .dct ks _ => if keysOk ks = true then some ((ks.mergeSort kLe).map kDs) else none
  | _ => none
def mNewL (f : D → Option (List D)) (m : M) : M := fun s => (m s).bind fun d s1 => R.opt ((f d).map D.lst) s1
theorem sort_rep {F : Hp} {ds : List D} {vs : List V} (r : Reps F ds vs) : Reps F (ds.mergeSort dSle) (((vs.zip (D.pys ds)).mergeSort (PySem.W.dataLe false fun b => b.2)).map (·.1)) := by
  have el := r.len
  have e1 : ds = (ds.zip vs).map (·.1) := (List.map_fst_zip (by omega)).symm
  have e2 : vs.zip (D.pys ds) = (ds.zip vs).map fun t => (t.2, t.1.py) := by
    rw [pys_map]
    clear e1 r
    induction ds generalizing vs with
    | nil => cases vs <;> rfl
    | cons d ds ih =>
      cases vs with
      | nil => rfl
      | cons v vs => rw [List.map_cons, List.zip_cons_cons, List.zip_cons_cons, List.map_cons, ih (by simpa using el)]
  have hm : ∀ t ∈ ds.zip vs, Rep F t.1 t.2 := by
    clear e1 e2 el
    intro t ht
    obtain ⟨i, hi⟩ := List.getElem?_of_mem ht
    rw [List.getElem?_zip_eq_some] at hi
    obtain ⟨v, h1, h2⟩ := r.get hi.1
    rw [hi.2] at h1
    cases h1
    exact h2
  have s1 : ds.mergeSort dSle = ((ds.zip vs).mergeSort fun t u => dSle t.1 u.1).map (·.1) := by
    rw [List.map_mergeSort (s := dSle) (fun _ _ _ _ => rfl), ← e1]
  have s2 : ((vs.zip (D.pys ds)).mergeSort (PySem.W.dataLe false fun b => b.2)).map (·.1) = ((ds.zip vs).mergeSort fun t u => dSle t.1 u.1).map (·.2) := by
    rw [e2, ← List.map_mergeSort (r := fun t u => dSle t.1 u.1) (fun _ _ _ _ => rfl), List.map_map]
    rfl
  rw [s1, s2]
  have pm := List.mergeSort_perm (ds.zip vs) fun t u => dSle t.1 u.1
  have hm' : ∀ t ∈ (ds.zip vs).mergeSort fun t u => dSle t.1 u.1, Rep F t.1 t.2 := fun t ht => hm t (pm.mem_iff.mp ht)
  generalize ((ds.zip vs).mergeSort fun t u => dSle t.1 u.1) = L at hm'
  clear hm pm s1 s2 e1 e2 el r
  induction L with
  | nil => exact .nil
  | cons t L ih => exact .cons (hm' t List.mem_cons_self) (ih fun u hu => hm' u (List.mem_cons_of_mem _ hu))
theorem sort_ok {ds : List D} (h : sortOk ds = true) : D.flats 60 ds = true ∧ PySem.W.AllAlike (D.pys ds) ∧ PySem.W.Sortable (D.pys ds) ∧ ∀ d ∈ D.pys ds, d.depth ≤ 60 := by
  unfold sortOk at h
  obtain ⟨h1, h2⟩ := Bool.and_eq_true_iff.mp h
  obtain ⟨h2, h3⟩ := Bool.and_eq_true_iff.mp h2
  have hl : ∀ {ds : List D}, D.flats 60 ds = true → ∀ d ∈ ds, D.flat 60 d = true := by
    intro ds
    induction ds with
    | nil => intro _ d hd; cases hd
    | cons e ds ih =>
      intro q d hd
      obtain ⟨q1, q2⟩ := Bool.and_eq_true_iff.mp (show (D.flat 60 e && D.flats 60 ds) = true from q)
      rcases List.mem_cons.mp hd with z | z
      · rw [z]; exact q1
      · exact ih q2 d z
  rw [pys_map]
  refine ⟨h1, fun d hd d' hd' => ?_, ?_, fun d hd => ?_⟩
  · obtain ⟨x, hx, rfl⟩ := List.mem_map.mp hd
    obtain ⟨y, hy, rfl⟩ := List.mem_map.mp hd'
    exact List.all_eq_true.mp (List.all_eq_true.mp h2 x hx) y hy
  · rcases Bool.or_eq_true_iff.mp h3 with q | q
    · refine .inl fun d hd => ?_
      obtain ⟨x, hx, rfl⟩ := List.mem_map.mp hd
      have := List.all_eq_true.mp q x hx
      match x, this with
      | .tup (y :: r), _ => exact ⟨y.py, D.pys r, rfl⟩
    · refine .inr fun d hd => ?_
      obtain ⟨x, hx, rfl⟩ := List.mem_map.mp hd
      have := List.all_eq_true.mp q x hx
      match x, this with
      | .int i, _ => exact ⟨fun z => (by cases z), fun xs z => (by cases z)⟩
      | .str i, _ => exact ⟨fun z => (by cases z), fun xs z => (by cases z)⟩
      | .bl i, _ => exact ⟨fun z => (by cases z), fun xs z => (by cases z)⟩
  · obtain ⟨x, hx, rfl⟩ := List.mem_map.mp hd
    exact (D.flat_lay 60 x (hl h1 x hx)).2
theorem me_sorted {e : Expr} {m : M} (hL : PE X e (tCB (rSortL X.K) (tCons (tM X.K G W Γ .fr m) tNil))) (hD : PE X e (tCB rSortD (tCons (tM X.K G W Γ .fr m) tNil))) : ME X G W Γ e .ol (mNewL dSorted m) :=
  peI (pe_orr hL hD) fun σ H Q ⟨s, F, fp, R, q⟩ => by
    unfold mNewL at q
    cases em : m s with
    | err er s1 => rw [em] at q; exact .inl ⟨s, F, fp, R, by rw [em]; exact q⟩
    | stuck => rw [em] at q; exact q.elim
    | ok d s1 =>
      rw [em, Bk.R.bind_ok] at q
      obtain ⟨z, ez, q2⟩ := opt_post q
      obtain ⟨zs, ez2, rfl⟩ := Option.map_eq_some_iff.mp ez
      cases d with
      | lst ds =>
        refine .inl ⟨s, F, fp, R, ?_⟩
        rw [em]
        intro v F1 fp1 H1 R1 x a
        obtain ⟨ok, rfl⟩ := if_some (show (if sortOk ds = true then some (ds.mergeSort dSle) else none) = some zs from ez2)
        obtain ⟨o1, o2, o3, o4⟩ := sort_ok ok
        cases a.rep with
        | @lst ds vs p ea rs =>
          exact ⟨p, vs, D.pys ds, rfl, R1.sqL ea, R1.dps o1 rs, o2, o3, o4, fun p' hp => new_list x R1 hp (q2.shift x) (sort_rep rs)⟩
      | dct ks ds =>
        refine .inr ⟨s, F, fp, R, ?_⟩
        rw [em]
        intro v F1 fp1 H1 R1 x a
        obtain ⟨ok, rfl⟩ := if_some (show (if keysOk ks = true then some ((ks.mergeSort kLe).map kDs) else none) = some zs from ez2)
        cases a.rep with
        | @dct ks ds vs p ob ea el rs =>
          have ek : (ks.zip vs).map (·.1) = ks := List.map_fst_zip (by omega)
          refine ⟨p, ks.zip vs, rfl, R1.rdz ea, by rw [ek]; exact ok, fun p' bs hp eb hb => ?_⟩
          obtain ⟨F2, R2, x2, r2⟩ := R1.seeTs hb
          rw [ek] at eb
          refine new_list (x.trans x2) R2 hp (q2.shift (x.trans x2)) ?_
          rw [← eb, List.map_map]
          exact r2
      | _ => cases ez2
/-- sorted(x), x an own dict -/
def mSortedO (i : Nat) : M := fun s => match s[i]? with
  | some (some d) => R.opt ((dSorted d).map D.lst) s
  | _ => .stuck
theorem me_sortedO {e : Expr} {i : Nat} (hD : PE X e (tCB rSortD (tCons (tVar i) tNil))) (ht : Γ[i]? = some .od) : ME X G W Γ e .ol (mSortedO i) :=
  peI hD fun σ H Q ⟨s, F, fp, R, q⟩ => by
    unfold mSortedO at q
    split at q
    · rename_i d e0
      obtain ⟨v, hv, p, ks, ds, vs, rfl, rfl, e3, l, rs, e4⟩ := R.slot i _ _ ht e0
      obtain ⟨z, ez, q2⟩ := opt_post q
      obtain ⟨zs, ez2, rfl⟩ := Option.map_eq_some_iff.mp ez
      obtain ⟨ok, rfl⟩ := if_some (show (if keysOk ks = true then some ((ks.mergeSort kLe).map kDs) else none) = some zs from ez2)
      have ek : (ks.zip vs).map (·.1) = ks := List.map_fst_zip (by omega)
      refine ⟨.ref p, hv, p, ks.zip vs, rfl, .inl e3, by rw [ek]; exact ok, fun p' bs hp eb hb => ?_⟩
      obtain ⟨F2, R2, x2, r2⟩ := R.seeTs hb
      rw [ek] at eb
      refine new_list x2 R2 hp (q2.shift x2) ?_
      rw [← eb, List.map_map]
      exact r2
    · exact q.elim
/-- list(x) -/
def dList : D → Option (List D)
  | .lst ds => some ds
  | .tup ds => some ds
  | .dct ks _ => some (ks.map kDs)
  | _ => none
theorem keys_seen {s : Env} {σ : Sl} {F H : Hp} {fp : Fp} (R : Rel G Γ s σ F fp H) : ∀ {kvs : List (List Key × V)} {bs : List Addr}, IsKeys H kvs bs → ∃ F', Rel G Γ s σ F' fp H ∧ Stp L0 F fp H F' fp H ∧ Reps F' ((kvs.map (·.1)).map kDs) (bs.map V.ref) := by
  intro kvs bs h
  induction h generalizing F with
  | nil => exact ⟨F, R, Stp.refl F fp H, .nil⟩
  | cons h t ih =>
    obtain ⟨F1, R1, x1, e1⟩ := R.seeT h
    obtain ⟨F2, R2, x2, r2⟩ := ih R1
    exact ⟨F2, R2, x1.trans x2, .cons (.tup (x2.f _ _ e1) (kDs_reps _)) r2⟩
abbrev rListS (K : PySem.W.Frag) : List V → Hp → VK → Prop := fun xs H Q => ∃ p ys, xs = [V.ref p] ∧ (SqL K H p ys ∨ SqT K H p ys) ∧ ∀ l, H l = none → Q (.ref l) (upd H l (.lst ys))
abbrev rListD : List V → Hp → VK → Prop := fun xs H Q => ∃ d kvs, xs = [V.ref d] ∧ Rd H d (.dT kvs) ∧ ∀ p bs, H p = none → IsKeys H kvs bs → Q (.ref p) (upd H p (.lst (bs.map V.ref)))
theorem me_list {e : Expr} {m : M} (hL : PE X e (tCB (rListS X.K) (tCons (tM X.K G W Γ .fr m) tNil))) (hD : PE X e (tCB rListD (tCons (tM X.K G W Γ .fr m) tNil))) : ME X G W Γ e .ol (mNewL dList m) :=
  peI (pe_orr hL hD) fun σ H Q ⟨s, F, fp, R, q⟩ => by
    unfold mNewL at q
    cases em : m s with
    | err er s1 => rw [em] at q; exact .inl ⟨s, F, fp, R, by rw [em]; exact q⟩
    | stuck => rw [em] at q; exact q.elim
    | ok d s1 =>
      rw [em, Bk.R.bind_ok] at q
      obtain ⟨z, ez, q2⟩ := opt_post q
      obtain ⟨zs, ez2, rfl⟩ := Option.map_eq_some_iff.mp ez
      cases d with
      | lst ds =>
        cases ez2
        refine .inl ⟨s, F, fp, R, ?_⟩
        rw [em]
        intro v F1 fp1 H1 R1 x a
        cases a.rep with
        | @lst ds vs p ea rs => exact ⟨p, vs, rfl, .inl (R1.sqL ea), fun l hl => new_list x R1 hl (q2.shift x) rs⟩
      | tup ds =>
        cases ez2
        refine .inl ⟨s, F, fp, R, ?_⟩
        rw [em]
        intro v F1 fp1 H1 R1 x a
        cases a.rep with
        | @tup ds vs p ea rs => exact ⟨p, vs, rfl, .inr (R1.sqT ea), fun l hl => new_list x R1 hl (q2.shift x) rs⟩
      | dct ks ds =>
        cases ez2
        refine .inr ⟨s, F, fp, R, ?_⟩
        rw [em]
        intro v F1 fp1 H1 R1 x a
        cases a.rep with
        | @dct ks ds vs p ob ea el rs =>
          have ek : (ks.zip vs).map (·.1) = ks := List.map_fst_zip (by omega)
          refine ⟨p, ks.zip vs, rfl, R1.rdz ea, fun p' bs hp hb => ?_⟩
          obtain ⟨F2, R2, x2, r2⟩ := keys_seen R1 hb
          rw [ek] at r2
          exact new_list (x.trans x2) R2 hp (q2.shift (x.trans x2)) r2
      | _ => cases ez2
def mListO (i : Nat) : M := fun s => match s[i]? with
  | some (some (.dct ks _)) => .ok (.lst (ks.map kDs)) s
  | _ => .stuck
theorem me_listO {e : Expr} {i : Nat} (hD : PE X e (tCB rListD (tCons (tVar i) tNil))) (ht : Γ[i]? = some .od) : ME X G W Γ e .ol (mListO i) :=
  peI hD fun σ H Q ⟨s, F, fp, R, q⟩ => by
    unfold mListO at q
    split at q
    · rename_i ks0 ds0 e0
      obtain ⟨v, hv, p, ks, ds, vs, z, rfl, e3, l, rs, e4⟩ := R.slot i _ _ ht e0
      cases z
      have ek : (ks0.zip vs).map (·.1) = ks0 := List.map_fst_zip (by omega)
      refine ⟨.ref p, hv, p, ks0.zip vs, rfl, .inl e3, fun p' bs hp hb => ?_⟩
      obtain ⟨F2, R2, x2, r2⟩ := keys_seen R hb
      rw [ek] at r2
      exact new_list x2 R2 hp (q.shift x2) r2
    · exact q.elim
/-- a + b of lists -/
def dCat : D → D → Option (List D)
  | .lst ds, .lst es => if ds.length + es.length < 16000000 then some (ds ++ es) else none
  | _, _ => none
def mCat (ma mb : M) : M := fun s => (ma s).bind fun d s1 => (mb s1).bind fun e s2 => R.opt ((dCat d e).map D.lst) s2
theorem me_cat (ha : ME X G W Γ a .fr ma) (hb : ME X G W Γ b .fr mb) : ME X G W Γ (.BinOp a .Add b pos) .ol (mCat ma mb) :=
  peI (pe_op op_cat ha hb) fun σ H Q ⟨s, F, fp, R, q⟩ => ⟨s, F, fp, R, pbind q fun d s1 x F1 fp1 H1 R1 st1 a1 q1 => ⟨s1, F1, fp1, R1, pbind q1 fun e s2 y F2 fp2 H2 R2 st2 a2 q2 => by
    obtain ⟨z, ez, q3⟩ := opt_post q2
    obtain ⟨zs, ez2, rfl⟩ := Option.map_eq_some_iff.mp ez
    have r1 := a1.rep.mono st2.f
    cases d with
    | lst ds =>
      cases e with
      | lst es =>
        obtain ⟨hl, rfl⟩ := if_some (show (if ds.length + es.length < 16000000 then some (ds ++ es) else none) = some zs from ez2)
        cases r1 with
        | @lst ds vs p ea rs =>
          cases a2.rep with
          | @lst es ws p2 ea2 rs2 => exact ⟨p, p2, vs, ws, rfl, rfl, R2.at ea rfl, R2.at ea2 rfl, by rw [← rs.len, ← rs2.len]; exact Nat.le_of_lt (sixteen hl), fun l hl => new_list (st1.trans st2) R2 hl q3 (rs.app rs2)⟩
      | _ => cases ez2
    | _ => cases e <;> cases ez2⟩⟩
/-! ### slots of own lists or fixed things -/
theorem Rel.give {s : Env} {σ : Sl} {F H : Hp} {fp : Fp} (R : Rel G Γ s σ F fp H) {i : Nat} : Rel G Γ (s.set i none) σ F (fpSet fp i []) H ∧ Stp L0 F fp H F (fpSet fp i []) H := by
  have R' := R.drop i
  have x : Stp L0 F fp H F (fpSet fp i []) H := (Stp.refl F fp H).put fun _ z => by cases z
  refine ⟨⟨R'.ls, R'.lσ, fun j t d hj hs => ?_, fun j k b hj hk => ?_, fun j b hj => ?_, fun j b hj => ?_, R'.ext, R'.lkd, R.stp.trans x, R'.par, fun j b hj => ?_, R'.tb⟩, x⟩
  · obtain ⟨v', h1, h2⟩ := R'.slot j t d hj hs
    have z : j ≠ i := fun z => by
      subst z
      by_cases hl : j < s.length
      · rw [List.getElem?_set_self hl] at hs; cases hs
      · rw [List.getElem?_eq_none (by rw [List.length_set]; omega)] at hs; cases hs
    exact ⟨v', h1, by rw [fpSet_ne z]; exact h2⟩
  · rcases fpSet_mem hj with ⟨_, z⟩ | ⟨z1, h1⟩
    · cases z
    · rcases fpSet_mem hk with ⟨_, z⟩ | ⟨z2, h2⟩
      · cases z
      · exact R.dis j k b h1 h2
  · rcases fpSet_mem hj with ⟨_, z⟩ | ⟨z1, h1⟩
    · cases z
    · exact R.nF j b h1
  · rcases fpSet_mem hj with ⟨_, z⟩ | ⟨z1, h1⟩
    · cases z
    · exact R.oh j b h1
  · rcases fpSet_mem hj with ⟨_, z⟩ | ⟨z1, h1⟩
    · cases z
    · exact R.loc j b h1
theorem getS {α : Type} {l : List (Option α)} {i : Nat} {d : α} (h : l[i]? = some (some d)) : l.set i (some d) = l := by
  apply List.ext_getElem?
  intro j
  by_cases z : i = j
  · subst z
    rw [List.getElem?_set_self (List.getElem?_eq_some_iff.mp h).1, h]
  · rw [List.getElem?_set_ne z]
theorem set2 {α : Type} {l : List α} {i : Nat} {x y : α} : (l.set i x).set i y = l.set i y := List.set_set ..
/-- the name read: what it owns is fixed -/
def mVarX (i : Nat) : M := fun s => match s[i]? with
  | some (some (.obj c [] ds)) => .ok (.lst ds) (s.set i (some (.lst ds)))
  | some (some d) => .ok d s
  | _ => .stuck
theorem me_varX {e : Expr} {i : Nat} (h : PE X e (tVar i)) (ht : Γ[i]? = some .xl) (hn : n ≤ i) : ME X G W Γ e .fr (mVarX i) := peI h fun σ H Q ⟨s, F, fp, R, q⟩ => by
  unfold mVarX at q
  split at q
  · rename_i c ds e0
    obtain ⟨v, hv, a⟩ := R.slot i _ _ ht e0
    rcases a with ⟨o, _⟩ | ⟨p, ds', vs, z, rfl, e3, rs, e4⟩
    · cases o
    · cases z
      refine ⟨.ref p, hv, ?_⟩
      have hp : p ∈ fp i := by rw [e4]; exact List.mem_singleton.mpr rfl
      have hF := R.nF i p hp
      obtain ⟨R1, x1⟩ := R.give (i := i)
      have no : ∀ j, p ∉ fpSet fp i [] j := fun j hj => by
        rcases fpSet_mem hj with ⟨_, z⟩ | ⟨z1, h1⟩
        · cases z
        · exact z1 (R.dis j i p h1 hp)
      have hG : G.H p = none := (R.loc i p hp).elim id fun z => absurd z.1 (Nat.not_lt.mpr hn)
      have R2 := R1.free (o := .lst vs) hF no hG e3
      have x2 := x1.free (o := .lst vs) hF (.inl ⟨i, hp⟩) (R1.tb.no e3)
      have r2 : Rep (upd F p (.lst vs)) (.lst ds) (.ref p) := .lst upd_same (rs.mono fun a u e => by rw [upd_ne (ne_of_none e hF)]; exact e)
      have R3 := R2.put (i := i) (d := .lst ds) (v := .ref p) (B := []) ht (.inl ⟨rfl, r2, rfl⟩) (fun _ h => by cases h) fun z => absurd z (Nat.not_lt.mpr hn)
      rw [set2, getS hv] at R3
      exact q _ _ _ _ R3 (x2.put fun _ h => by cases h) (AE.fr r2)
  · rename_i d hne e0
    obtain ⟨v, hv, a⟩ := R.slot i _ _ ht e0
    rcases a with ⟨o, r, eB⟩ | ⟨p, ds', vs, z, rfl, e3, rs, e4⟩
    · exact ⟨v, hv, pok q R (AE.fr r)⟩
    · exact absurd z (fun z => hne _ _ (by rw [z]; rfl))
  · exact q.elim
/-- .. given away -/
def mMovX (i : Nat) : M := fun s => match s[i]? with
  | some (some (.obj _ [] ds)) => .ok (.lst ds) (s.set i none)
  | _ => .stuck
theorem me_movX {e : Expr} {i : Nat} (h : PE X e (tVar i)) (ht : Γ[i]? = some .xl) (hn : n ≤ i) : ME X G W Γ e .ol (mMovX i) := peI h fun σ H Q ⟨s, F, fp, R, q⟩ => by
  unfold mMovX at q
  split at q
  · rename_i c ds e0
    obtain ⟨v, hv, a⟩ := R.slot i _ _ ht e0
    rcases a with ⟨o, _⟩ | ⟨p, ds', vs, z, rfl, e3, rs, e4⟩
    · cases o
    · cases z
      refine ⟨.ref p, hv, ?_⟩
      have hp : p ∈ fp i := by rw [e4]; exact List.mem_singleton.mpr rfl
      obtain ⟨R1, x1⟩ := R.give (i := i)
      refine q _ _ _ _ R1 x1 ⟨[p], ⟨p, ds, vs, rfl, rfl, e3, rs, rfl⟩, fun b hb => ?_⟩
      rw [List.mem_singleton.mp hb]
      exact ⟨R.nF i p hp, fun j hj => by
        rcases fpSet_mem hj with ⟨_, z⟩ | ⟨z1, h1⟩
        · cases z
        · exact z1 (R.dis j i p h1 hp), (R.loc i p hp).elim id fun z => absurd z.1 (Nat.not_lt.mpr hn), .inl ⟨i, hp⟩⟩
  · exact q.elim
/-- x = e -/
def sSetXO (i : Nat) (m : M) : MS := fun s => (m s).so fun d s1 => match d with
  | .lst ds => .nx (s1.set i (some (ownL ds)))
  | _ => .stuck
theorem ms_setXO {st : Stmt} {i : Nat} {m : M} (h : PS X st (tAsg (tM X.K G W Γ .ol m) (gName i))) (ht : Γ[i]? = some .xl) (hn : n ≤ i) : MSt X G W Γ rt st (sSetXO i m) :=
  psI h fun Dn σ H ⟨s, F, fp, R, q⟩ => ⟨s, F, fp, R, by
    unfold sSetXO at q
    cases e : m s with
    | ok d s1 =>
      rw [e] at q
      rintro v F1 fp1 H1 R1 x ⟨B, ⟨p, ds, vs, rfl, rfl, e3, r, rfl⟩, tq⟩
      refine q _ F1 (fpSet fp1 i [p]) H1 (R1.put ht (.inr ⟨p, ds, vs, rfl, rfl, e3, r, rfl⟩) (fun b hb => ?_) fun z => absurd z (Nat.not_lt.mpr hn)) (x.put fun b hb => (tq b hb).2.2.2)
      obtain ⟨q1, q2, q3, q4⟩ := tq b hb
      exact ⟨q1, fun j _ => q2 j, .inl q3⟩
    | err er s1 => rw [e] at q; exact fun cls od F' fp' H' R y z => q cls od σ F' fp' H' R y z
    | stuck => rw [e] at q; exact q⟩
def sSetXF (i : Nat) (m : M) : MS := fun s => (m s).so fun d s1 => if isOwn d = true then .stuck else .nx (s1.set i (some d))
theorem ms_setXF {st : Stmt} {i : Nat} {m : M} (h : PS X st (tAsg (tM X.K G W Γ .fr m) (gName i))) (ht : Γ[i]? = some .xl) (hn : n ≤ i) : MSt X G W Γ rt st (sSetXF i m) :=
  psI h fun Dn σ H ⟨s, F, fp, R, q⟩ => ⟨s, F, fp, R, sbind q fun d s1 v F1 fp1 H1 R1 x a q1 => by
    by_cases ho : isOwn d = true
    · rw [if_pos ho] at q1; exact q1.elim
    · rw [if_neg ho] at q1
      exact q1 _ F1 _ H1 (R1.put ht (.inl ⟨by simpa using ho, a.rep, rfl⟩) (fun _ h => by cases h) fun z => absurd z (Nat.not_lt.mpr hn)) ((Stp.refl F1 fp1 H1).put fun _ h => by cases h)⟩
def mLenX (i : Nat) : M := fun s => match s[i]? with
  | some (some (.obj _ [] ds)) => .ok (.int ds.length) s
  | some (some (.lst ds)) => .ok (.int ds.length) s
  | _ => .stuck
theorem me_lenX {e : Expr} {i : Nat} (h : PE X e (tCB (fun xs H Q => ∃ x k, xs = [x] ∧ LenV X.K x H k ∧ Q (.int k) H) (tCons (tVar i) tNil))) (ht : Γ[i]? = some .xl) : ME X G W Γ e .fr (mLenX i) :=
  peI h fun σ H Q ⟨s, F, fp, R, q⟩ => by
    unfold mLenX at q
    split at q
    · rename_i c ds e0
      obtain ⟨v, hv, a⟩ := R.slot i _ _ ht e0
      rcases a with ⟨o, _⟩ | ⟨p, ds', vs, z, rfl, e3, rs, e4⟩
      · cases o
      · cases z
        exact ⟨.ref p, hv, .ref p, ds.length, rfl, .inl ⟨vs, .of e3, rs.len⟩, pok q R (AE.fr (.int _))⟩
    · rename_i ds e0
      obtain ⟨v, hv, a⟩ := R.slot i _ _ ht e0
      rcases a with ⟨o, r, eB⟩ | ⟨p, ds', vs, z, rfl, e3, rs, e4⟩
      · cases r with
        | @lst ds vs p ea rs => exact ⟨.ref p, hv, .ref p, ds.length, rfl, .inl ⟨vs, R.sqL ea, rs.len⟩, pok q R (AE.fr (.int _))⟩
      · cases z
    · exact q.elim
/-- x[k] -/
def mIxX (i : Nat) (mb : M) : M := fun s => match s[i]? with
  | some (some _) => (mb s).bind fun d s1 => match s1[i]?, d with
    | some (some (.obj _ [] ds)), .int k => R.opt (atI ds k) s1
    | some (some (.lst ds)), .int k => R.opt (atI ds k) s1
    | _, _ => .stuck
  | _ => .stuck
theorem me_ixX {i : Nat} (ha : PE X a (tVar i)) (ht : Γ[i]? = some .xl) (hb : ME X G W Γ b .fr mb) (hs : PlainIx b) : ME X G W Γ (.Subscript a b pos) .fr (mIxX i mb) :=
  peI (pe_ix ix_list ha hb hs) fun σ H Q ⟨s, F, fp, R, q⟩ => by
    unfold mIxX at q
    split at q
    · rename_i d0 e0
      obtain ⟨v, hv, a0⟩ := R.slot i _ _ ht e0
      refine ⟨v, hv, s, F, fp, R, pbind q fun d s1 y F1 fp1 H1 R1 x a1 q1 => ?_⟩
      split at q1
      · rename_i c ds k e1
        obtain ⟨z, ez, q3⟩ := opt_post q1
        obtain ⟨v', hv', a2⟩ := R1.slot i _ _ ht e1
        rw [hv] at hv'
        cases hv'
        rcases a2 with ⟨o, _⟩ | ⟨p, ds', vs, z', rfl, e3, rs, e4⟩
        · cases o
        · cases z'
          cases a1.rep
          obtain ⟨w, h1, h2⟩ := rs.atI ez
          exact ⟨p, vs, k, w, rfl, rfl, .of e3, h1, pok q3 R1 (AE.fr h2)⟩
      · rename_i ds k e1
        obtain ⟨z, ez, q3⟩ := opt_post q1
        obtain ⟨v', hv', a2⟩ := R1.slot i _ _ ht e1
        rw [hv] at hv'
        cases hv'
        rcases a2 with ⟨o, r, eB⟩ | ⟨p, ds', vs, z', rfl, e3, rs, e4⟩
        · cases a1.rep
          cases r with
          | @lst ds vs p ea rs =>
            obtain ⟨w, h1, h2⟩ := rs.atI ez
            exact ⟨p, vs, k, w, rfl, rfl, R1.sqL ea, h1, pok q3 R1 (AE.fr h2)⟩
        · cases z'
      · exact q1.elim
    · exact q.elim
/-- what is done to an own list -/
theorem Rel.ownX {s : Env} {σ : Sl} {F H : Hp} {fp : Fp} (R : Rel G Γ s σ F fp H) {i : Nat} {p : Addr} {ds : List D} {vs : List V} (ht : Γ[i]? = some .xl) (hp : fp i = [p]) (hv : σ[i]? = some (some (.ref p))) (r : Reps F ds vs) :
    Rel G Γ (s.set i (some (ownL ds))) σ F fp (upd H p (.lst vs)) ∧ Stp L0 F fp H F fp (upd H p (.lst vs)) :=
  R.own (o := .lst vs) (d := ownL ds) ht (by rw [hp]; exact List.mem_singleton.mpr rfl) (.ref p) hv (.inr ⟨p, ds, vs, rfl, rfl, upd_same, r, hp⟩)
theorem Rel.slotX {s : Env} {σ : Sl} {F H : Hp} {fp : Fp} (R : Rel G Γ s σ F fp H) {i : Nat} {c : Str} {ds : List D} (ht : Γ[i]? = some .xl) (e : s[i]? = some (some (.obj c [] ds))) : ∃ p vs, σ[i]? = some (some (.ref p)) ∧ H p = some (.lst vs) ∧ Reps F ds vs ∧ fp i = [p] := by
  obtain ⟨v, hv, a⟩ := R.slot i _ _ ht e
  rcases a with ⟨o, _⟩ | ⟨p, ds', vs, z, rfl, e3, rs, e4⟩
  · cases o
  · cases z
    exact ⟨p, vs, hv, e3, rs, e4⟩
def mPopX (i : Nat) : M := fun s => match s[i]? with
  | some (some (.obj _ [] ds)) => match ds[ds.length - 1]? with
    | some d => .ok d (s.set i (some (ownL ds.dropLast)))
    | none => .stuck
  | _ => .stuck
theorem me_popX {e : Expr} {i : Nat} (h : PE X e (tBM0 X.K "list" rPop (tVar i))) (ht : Γ[i]? = some .xl) : ME X G W Γ e .fr (mPopX i) :=
  peI h fun σ H Q ⟨s, F, fp, R, q⟩ => by
    unfold mPopX at q
    split at q
    · rename_i c ds e0
      cases el : ds[ds.length - 1]? with
      | none => rw [el] at q; exact q.elim
      | some d =>
        rw [el] at q
        obtain ⟨p, vs, hv, e3, rs, e4⟩ := R.slotX ht e0
        obtain ⟨y, hy, ry⟩ := rs.get el
        refine ⟨.ref p, hv, .inl ⟨rfl, vs, .of e3⟩, p, vs, y, rfl, rfl, e3, by rw [← rs.len]; exact hy, ?_⟩
        obtain ⟨R2, x2⟩ := R.ownX ht e4 hv rs.dropLast
        exact q _ _ _ _ R2 x2 (AE.fr ry)
    · exact q.elim
def mPopAtX (i : Nat) (mb : M) : M := fun s => match s[i]? with
  | some (some (.obj _ [] _)) => (mb s).bind fun d s1 => match s1[i]?, d with
    | some (some (.obj _ [] ds)), .int k => if rg k k = true then (match seqIndex? k ds.length with
      | some j => match ds[j]? with
        | some z => .ok z (s1.set i (some (ownL (ds.eraseIdx j))))
        | none => .stuck
      | none => .stuck) else .stuck
    | _, _ => .stuck
  | _ => .stuck
theorem Reps.erase {F : Hp} : ∀ {ds : List D} {vs : List V} (j : Nat), Reps F ds vs → Reps F (ds.eraseIdx j) (vs.eraseIdx j)
  | _, _, _, .nil => .nil
  | _, _, 0, .cons _ t => t
  | _, _, j + 1, .cons r t => .cons r (Reps.erase j t)
theorem me_popAtX {e : Expr} {i : Nat} (h : PE X e (tBM X.K "list" rPopAt (tVar i) (tCons (tM X.K G W Γ .fr mb) tNil))) (ht : Γ[i]? = some .xl) : ME X G W Γ e .fr (mPopAtX i mb) :=
  peI h fun σ H Q ⟨s, F, fp, R, q⟩ => by
    unfold mPopAtX at q
    split at q
    · rename_i c0 ds0 e0
      obtain ⟨p0, vs0, hv, e3, _, _⟩ := R.slotX ht e0
      refine ⟨.ref p0, hv, .inl ⟨rfl, vs0, .of e3⟩, s, F, fp, R, pbind q fun d s1 w F1 fp1 H1 R1 x1 b q1 => ?_⟩
      split at q1
      · rename_i c ds k e1
        obtain ⟨p, vs, hv', e3, rs, e4⟩ := R1.slotX ht e1
        rw [hv] at hv'
        cases hv'
        cases b.rep
        by_cases hk : rg k k = true
        · rw [if_pos hk] at q1
          obtain ⟨k1, k2, _, _⟩ := of_decide_eq_true hk
          cases ej : seqIndex? k ds.length with
          | none => rw [ej] at q1; exact q1.elim
          | some j =>
            rw [ej] at q1
            simp only [] at q1
            cases el : ds[j]? with
            | none => rw [el] at q1; exact q1.elim
            | some z =>
              rw [el] at q1
              obtain ⟨y, hy, ry⟩ := rs.get el
              refine ⟨p0, vs, k, j, y, rfl, rfl, e3, by omega, by omega, by rw [← rs.len]; exact ej, hy, ?_⟩
              obtain ⟨R2, x2⟩ := R1.ownX ht e4 hv (rs.erase j)
              exact q1 _ _ _ _ R2 x2 (AE.fr ry)
        · rw [if_neg hk] at q1; exact q1.elim
      · exact q1.elim
    · exact q.elim
def sAppX (i : Nat) (m : M) : MS := fun s => match s[i]? with
  | some (some (.obj _ [] _)) => (m s).so fun d s1 => match s1[i]? with
    | some (some (.obj _ [] ds)) => if ds.length < 16000000 then .nx (s1.set i (some (ownL (ds ++ [d])))) else .stuck
    | _ => .stuck
  | _ => .stuck
theorem ms_appX {e : Expr} {i : Nat} {m : M} (h : PE X e (tBM X.K "list" rAppend (tVar i) (tCons (tM X.K G W Γ .fr m) tNil))) (ht : Γ[i]? = some .xl) (hs : swapsWith e none pos.line X.env = pure false := by rfl) : MSt X G W Γ rt (.Expr e pos) (sAppX i m) :=
  psI (ps_expr h hs) fun Dn σ H ⟨s, F, fp, R, q⟩ => by
    unfold sAppX at q
    split at q
    · rename_i c0 ds0 e0
      obtain ⟨p0, vs0, hv, e3, _, _⟩ := R.slotX ht e0
      refine ⟨.ref p0, hv, .inl ⟨rfl, vs0, .of e3⟩, s, F, fp, R, sbind q fun d s1 w F1 fp1 H1 R1 x1 b q1 => ?_⟩
      split at q1
      · rename_i c ds e1
        obtain ⟨p, vs, hv', e3, rs, e4⟩ := R1.slotX ht e1
        rw [hv] at hv'
        cases hv'
        by_cases hl : ds.length < 16000000
        · rw [if_pos hl] at q1
          refine ⟨p0, vs, w, rfl, rfl, e3, by rw [← rs.len]; exact sixteen hl, ?_⟩
          obtain ⟨R2, x2⟩ := R1.ownX ht e4 hv (rs.app (.cons b.rep .nil))
          exact q1 _ _ _ _ R2 x2
        · rw [if_neg hl] at q1; exact q1.elim
      · exact q1.elim
    · exact q.elim
def sExtX (i : Nat) (m : M) : MS := fun s => match s[i]? with
  | some (some (.obj _ [] _)) => (m s).so fun d s1 => match s1[i]?, d with
    | some (some (.obj _ [] ds)), .lst es => if ds.length + es.length < 16000000 then .nx (s1.set i (some (ownL (ds ++ es)))) else .stuck
    | _, _ => .stuck
  | _ => .stuck
theorem ms_extX {e : Expr} {i : Nat} {m : M} (h : PE X e (tBM X.K "list" rExtend (tVar i) (tCons (tM X.K G W Γ .fr m) tNil))) (ht : Γ[i]? = some .xl) (hs : swapsWith e none pos.line X.env = pure false := by rfl) : MSt X G W Γ rt (.Expr e pos) (sExtX i m) :=
  psI (ps_expr h hs) fun Dn σ H ⟨s, F, fp, R, q⟩ => by
    unfold sExtX at q
    split at q
    · rename_i c0 ds0 e0
      obtain ⟨p0, vs0, hv, e3, _, _⟩ := R.slotX ht e0
      refine ⟨.ref p0, hv, .inl ⟨rfl, vs0, .of e3⟩, s, F, fp, R, sbind q fun d s1 w F1 fp1 H1 R1 x1 b q1 => ?_⟩
      split at q1
      · rename_i c ds es e1
        obtain ⟨p, vs, hv', e3, rs, e4⟩ := R1.slotX ht e1
        rw [hv] at hv'
        cases hv'
        by_cases hl : ds.length + es.length < 16000000
        · rw [if_pos hl] at q1
          have br := b.rep
          cases br with
          | @lst es ws p2 ea2 rs2 =>
            refine ⟨p0, p2, vs, ws, rfl, rfl, e3, R1.at ea2 rfl, by rw [← rs.len, ← rs2.len]; exact Nat.le_of_lt (sixteen hl), ?_⟩
            obtain ⟨R2, x2⟩ := R1.ownX ht e4 hv (rs.app rs2)
            exact q1 _ _ _ _ R2 x2
        · rw [if_neg hl] at q1; exact q1.elim
      · exact q1.elim
    · exact q.elim
/-- x[k] = e -/
def sStoX (i : Nat) (mb mz : M) : MS := fun s => (mz s).so fun z s1 => match s1[i]? with
  | some (some (.obj _ [] _)) => (mb s1).so fun d s2 => match s2[i]?, d with
    | some (some (.obj _ [] ds)), .int k => match ixN ds.length k with
      | some j => .nx (s2.set i (some (ownL (ds.set j z))))
      | none => .stuck
    | _, _ => .stuck
  | _ => .stuck
theorem ms_stoX {i : Nat} {st : Stmt} {mz : M} (h : PS X st (tAsg (tM X.K G W Γ .fr mz) (gSub (tVar i) (tM X.K G W Γ .fr mb) rSetL))) (ht : Γ[i]? = some .xl) : MSt X G W Γ rt st (sStoX i mb mz) :=
  psI h fun Dn σ H ⟨s, F, fp, R, q⟩ => ⟨s, F, fp, R, sbind q fun z s1 vz F1 fp1 H1 R1 x az q1 => by
    split at q1
    · rename_i c0 ds0 e0
      obtain ⟨p0, vs0, hv, e3, _, _⟩ := R1.slotX ht e0
      refine ⟨.ref p0, hv, s1, F1, fp1, R1, sbind q1 fun d s2 y F2 fp2 H2 R2 x2 a2 q2 => ?_⟩
      split at q2
      · rename_i c ds k e1
        obtain ⟨p, vs, hv', e3, rs, e4⟩ := R2.slotX ht e1
        rw [hv] at hv'
        cases hv'
        cases a2.rep
        cases ej : ixN ds.length k with
        | none => rw [ej] at q2; exact q2.elim
        | some j =>
          rw [ej] at q2
          obtain ⟨R3, x3⟩ := R2.ownX ht e4 hv (Reps.set (az.rep.mono x2.f) j rs)
          exact ⟨p0, vs, k, j, rfl, rfl, e3, by rw [← rs.len]; exact ej, q2 _ _ _ _ R3 x3⟩
      · exact q2.elim
    · exact q1.elim⟩
end
end Bk

set_option Elab.async false
set_option linter.all false
set_option maxRecDepth 100000
set_option maxHeartbeats 4000000
namespace Bk
open PySem PySem.Spec PyProof.Rows L2
variable [Cls]
section
variable {X : Cx} {n : Nat} {G : Gr n} {W : WX} {Γ : List Ty} {rt : Ty} {a b : Expr} {ma mb : M} {pos : Pos}
/-! ### a locked dict walked by its keys -/
theorem wk_keys {F : Hp} {d : Addr} {o : Obj} {ks : List (List Key)} {vs : List V} (e : F d = some (.frz o (.dT (ks.zip vs)))) (hl : ks.length = vs.length) : Wk G Γ (Itkt d o (ks.zip vs)) F (ks.map kDs) := fun i s σ F' fp' H' R x => by
  have hd : H' d = some (.frz o (.dT (ks.zip vs))) := R.at (x d _ e) rfl
  have zl : (ks.zip vs).length = ks.length := by rw [List.length_zip]; omega
  refine ⟨fun z hz => ?_, fun h => ⟨hd, by rw [zl]; rw [List.length_map] at h; exact h⟩⟩
  rw [List.getElem?_map] at hz
  obtain ⟨k, hk, rfl⟩ := Option.map_eq_some_iff.mp hz
  have hi : i < ks.length := (List.getElem?_eq_some_iff.mp hk).1
  refine ⟨⟨hd, by rw [zl]; exact hi⟩, fun y H'' hy => ?_⟩
  obtain ⟨rfl, k', v', q, h1, rfl, h3⟩ := hy
  rw [List.getElem?_zip_eq_some] at h1
  rw [hk] at h1
  cases h1.1
  obtain ⟨F2, R2, x2, e2⟩ := R.seeT h3
  exact ⟨F2, R2, x2, .tup e2 (kDs_reps _)⟩
/-- for k in d, d fixed -/
def mKeysI (m : M) : MA := fun s => (m s).bind fun d s1 => match d with
  | .dct ks _ => .ok (ks.map kDs) s1
  | _ => .stuck
theorem mi_keys {tg e : Expr} {m : M} (h : ME X G W Γ e .fr m) : MI X G W Γ tg e (mKeysI m) :=
  piI (pi_keys h) fun σ H Q ⟨s, F, fp, R, q⟩ => ⟨s, F, fp, R, pbind q fun d s1 v F1 fp1 H1 R1 x a q1 => by
    cases a.rep with
    | @dct ks ds vs p o ea el rs => exact ⟨p, o, rfl, .inr ⟨ks.zip vs, R1.at ea rfl, pok q1 R1 (wk_keys ea el)⟩⟩
    | _ => exact q1.elim⟩
/-! ### {k: e for x in ..} -/
theorem room0 {k : Nat} {A : Around} (r : Room k A) : A.units + 1 < cLine := units1 r
/-- the new dict gets one more -/
theorem put_comp {pins : List (Addr × Obj)} {σ : Sl} {H : Hp} {s : Shared} {E : Value → Shared → Prop} {p q : Addr} {kvs : List (List Key × V)} {k : List Key} {v : V} {r : Value} {Q : Unit → Shared → Prop} (hu : X.A.units + 1 < cLine) (I : Inv X pins σ H s)
    (hp : H p = some (.dT kvs)) (hq : H q = some (.tup (k.map kV))) (hz : kvs.length < sizeLine) (rv : RelV v r) (k2 : ∀ s2, Inv X pins σ (upd H p (.dT (putK kvs k v))) s2 → Q () s2) : wpAny (model X.prog X.w) X.A (dictSet p (.ref q) r) Q E s := by
  obtain ⟨zl, hne, xs, rel, dd⟩ := dt_of I.hok hp
  have lx : xs.length ≤ sizeLine := by have := Paired.length rel; omega
  refine wpAny_dictSet_heap (hsz := lx) (show X.A.units < cLine by omega) (key_of I.hok hq) dd fun h2 d2 same => k2 _ ?_
  obtain ⟨ob, es, ep, g1, g2, g3, g4, _, g5⟩ := d2
  have lz : (putK kvs k v).length ≤ sizeLine := by have := length_putK kvs k v; omega
  exact d_write I (by rw [hp]; trivial) same ⟨ob, g1⟩ ⟨lz, hne, _, (rel.put k hq rv).keeps fun c ys ec => by rw [upd_ne (ne_of ec hp (by intro z; cases z))]; exact ec, ob, es, ep, g1, g2, g3, g4, g5⟩
/-- the reading of a dict comprehension whose keys are tuples: p the new dict -/
def tDcT (wi : TI) (g : TG) (tt : TT) (tk tv : TE) (vs : List Nat) : TE := fun σ H Q => wi σ H fun J H1 => ∀ p, H1 p = none → ∃ V : Nat → Nat → Hp → Prop, (∃ m, V 0 m (upd H1 p (.dT []))) ∧ ∀ i m H, V i m H →
  (J.stop i H ∧ Q (.ref p) H) ∨ (J.go i H ∧ ∃ Nx : Hp → Prop, (∀ H', Nx H' → ∃ m', m' < m ∧ V (i + 1) m' H') ∧ ∀ x H', J.yld i H x H' → g x (L2.wipe σ vs) H' fun σ2 H2 => L2.wipe σ2 vs = L2.wipe σ vs ∧ tt σ2 H2 fun c H3 =>
    if c = true then tk σ2 H3 fun y H4 => tv σ2 H4 fun z H5 => ∃ kvs k q, y = .ref q ∧ H5 q = some (.tup (k.map kV)) ∧ H5 p = some (.dT kvs) ∧ kvs.length < sizeLine ∧ Nx (upd H5 p (.dT (putK kvs k z))) else Nx H3)
theorem dct_core {k : Nat} {pins : List (Addr × Obj)} {s : Shared} {σ : Sl} {H : Hp} {Q : VK} {use : Option (Value → Sem Unit)} {Qf : Value → Shared → Prop} {pos' : Pos} {kx vx tg it : Expr} {ifs : List Expr} {sc : Scope} {own : List (Str × Nat)} {wi : TI} {g : TG} {tt : TT} {tk tv : TE} (hr : Room k X.A) (hc : X.calm = true) (hN : X.N.Nodup) (hi : PI X tg it wi) (ok : BlkOk X.N X.env.scope sc own)
    (hg : ∀ z Hz C cl fp, PG (X.blk z Hz sc (compEnvC sc cl C X.env) fp) tg g) (ht : ∀ z Hz C cl fp, PTs (X.blk z Hz sc (compEnvC sc cl C X.env) fp) ifs tt) (hk : ∀ z Hz C cl fp, PE (X.blk z Hz sc (compEnvC sc cl C X.env) fp) kx tk) (he : ∀ z Hz C cl fp, PE (X.blk z Hz sc (compEnvC sc cl C X.env) fp) vx tv)
    (hs : ∀ x, foldedSetIterable it X.env x = pure x) (I : Inv X pins σ H s) (hw : tDcT wi g tt tk tv (own.map (·.2)) σ H Q)
    (fin : ∀ p C z ml H', Inv X pins σ H' z → Q (.ref p) H' → z.heap.Ns C ml → FpOk X pins H' C → compPost (model X.prog X.w) X.A X.xe use Qf (.ref p) C (.ok .next) z) :
    wpAny (model X.prog X.w) X.A (comprehension (.DictComp kx vx [⟨tg, it, ifs, 0⟩] sc pos) sc X.env pos' newDict false (eval it X.env) use) Qf X.xe s := by
  have hu := units1 hr
  have cells : ∀ y ∈ sc.names, y.2 = .free → ∃ c, X.env.cells.lookup y.1 = some c := fun y hy e => (ok.free y hy e).elim (fun q => I.ok.has _ (.inl q)) fun q => I.ok.has _ (.inr q)
  refine wpAny_comprehension_free (use := use) rfl hs (closure_ok cells) ok.kind (fun y hy e => by rw [ok.uniq y hy, e]) (thn (hi.run pins s σ H _ I hw) fun _ _ h1 => thn h1 fun _ z2 ⟨itA, fp, tn, J, H2, eq2, I2, T, st2, fpo, q⟩ => ?_)
  subst eq2
  refine wpAny_newObj_type (newEnv_comp ?_)
  -- p: the new dict; z3, H3: behind its making
  generalize ep : z2.heap.objs.size = p
  obtain ⟨V, ⟨m0, v0⟩, turn⟩ := q p (I2.hok.fresh (Nat.le_of_eq ep))
  generalize e3 : ({ z2 with heap := z2.heap.push { cls := .type "dict", data := .dict #[] } } : Shared) = z3
  have h3 : z3.heap = z2.heap.push { cls := .type "dict", data := .dict #[] } := by rw [← e3]
  have I3 : Inv X pins σ (upd H2 p (.dT [])) z3 := by
    rw [← e3]
    refine I2.laid (t' := z2.toks) (fun _ _ e => Heap.get?_push_of_some _ e) (Nat.le_of_eq ep) ?_
    rw [← ep]
    exact dt_empty z2.heap I2.big
  have below : ∀ c ∈ fp, c < z2.heap.objs.size := fun c hcm => let ⟨_, ec, _⟩ := T.obj _ _ st2 c hcm; Heap.lt_size ec
  have fp3 : ∀ c ∈ fp, FpOk X pins (upd H2 p (.dT [])) c ∧ c < z3.heap.objs.size := fun c hcm => by
    have lt2 := below c hcm
    exact ⟨⟨by rw [upd_ne (by rw [← ep]; exact Nat.ne_of_lt lt2)]; exact (fpo c hcm).1, (fpo c hcm).2⟩, by rw [h3, Heap.size_push]; exact Nat.lt_succ_of_lt lt2⟩
  have st3 : tn 0 z3.heap := T.keep _ _ _ st2 fun c _ o e => by rw [h3]; exact Heap.get?_push_of_some _ e
  generalize e4 : upd H2 p (.dT []) = H3 at I3 fp3 v0
  have I4 := block_start I3 ok hN fp3
  -- the block's own frame
  have pg := hg z3 H3 z3.heap.objs.size (cellsFrom (z3.heap.objs.size + 1) sc.names (cloFrom X.env.cells sc.names [])) fp
  have pt := ht z3 H3 z3.heap.objs.size (cellsFrom (z3.heap.objs.size + 1) sc.names (cloFrom X.env.cells sc.names [])) fp
  have pk := hk z3 H3 z3.heap.objs.size (cellsFrom (z3.heap.objs.size + 1) sc.names (cloFrom X.env.cells sc.names [])) fp
  have pv := he z3 H3 z3.heap.objs.size (cellsFrom (z3.heap.objs.size + 1) sc.names (cloFrom X.env.cells sc.names [])) fp
  show codeAny _ _ (.compStart (.DictComp kx vx [⟨tg, it, ifs, 0⟩] sc pos) 0 (.ref itA) (.ref p) (compEnvC sc (cellsFrom (z3.heap.objs.size + 1) sc.names (cloFrom X.env.cells sc.names [])) z3.heap.objs.size X.env)) (compPost (model X.prog X.w) X.A X.xe use Qf (.ref p) z3.heap.objs.size) { z3 with heap := pushCells (z3.heap.push { cls := .type "dict", data := .dict #[] }) sc.names }
  generalize eb : compEnvC sc (cellsFrom (z3.heap.objs.size + 1) sc.names (cloFrom X.env.cells sc.names [])) z3.heap.objs.size X.env = be at I4 pg pt pk pv ⊢
  have lb : be.locals = z3.heap.objs.size := by rw [← eb]; rfl
  generalize e5 : ({ z3 with heap := pushCells (z3.heap.push { cls := .type "dict", data := .dict #[] }) sc.names } : Shared) = z4 at I4 ⊢
  have st4 : tn 0 z4.heap := T.keep _ _ _ st3 fun c _ o e => by rw [← e5]; exact pushCells_keeps _ _ _ _ (Heap.get?_push_of_some _ e)
  have own4 : ∀ {σ' : Sl} {H' : Hp} {z : Shared}, Inv (X.blk z3 H3 sc be fp) [] σ' H' z → (∀ c ∈ fp, H' c = none) → ∀ c ∈ fp, FpOk (X.blk z3 H3 sc be fp) [] H' c := fun {σ' H' z} J hn c hcm =>
    ⟨hn c hcm, (J.ok.exf c hcm).1, J.ok.exfs c hcm, .inl hcm, fun x d e => (J.ok.exf c hcm).2 x d e, fun y hy => by cases hy⟩
  have lp : codeAny (model X.prog X.w) X.A (.compLoop (.DictComp kx vx [⟨tg, it, ifs, 0⟩] sc pos) 0 (.ref itA) (.ref p) be) (compPost (model X.prog X.w) X.A X.xe use Qf (.ref p) z3.heap.objs.size) z4 := by
    refine compLoop_anyD (fun m z => ∃ i H', Inv (X.blk z3 H3 sc be fp) [] (L2.wipe σ (own.map (·.2))) H' z ∧ tn i z.heap ∧ (∀ c ∈ fp, H' c = none) ∧ V i m H') (fun m z5 ⟨i, H5, I5, st5, n5, v5⟩ => ?_) m0 ⟨0, H3, I4, st4, fun c hcm => (fp3 c hcm).1.1, v0⟩
    rcases turn i m H5 v5 with ⟨stop, qe⟩ | ⟨go, Nx, hNx, step⟩
    · refine thnF (T.done (X.blk z3 H3 sc be fp) rfl rfl rfl hc i [] z5 _ H5 (fun _ _ => False) I5 (own4 I5 n5) st5 stop) fun r z6 ⟨er, I6⟩ => ?_
      subst er
      have I7 : Inv X pins σ H5 z6 := I3.call' (ch := fp) I6.os I6.base I6.hok I6.bare fun c hcm => ⟨(fp3 c hcm).1.2.2.2.1, (fp3 c hcm).1.2.1, (fp3 c hcm).1.2.2.2.2.1, (fp3 c hcm).1.2.2.2.2.2⟩
      have fr : H5 z3.heap.objs.size = none := by have y := (I6.free : H5 be.locals = none); rw [lb] at y; exact y
      obtain ⟨ml, hl, _⟩ := I6.loc
      have hl : z6.heap.Ns z3.heap.objs.size ml := by have y := (hl : z6.heap.Ns be.locals ml); rw [lb] at y; exact y
      exact fin p _ z6 ml H5 I7 qe hl (I3.fpOk (Nat.le_refl _) fr)
    · refine thnF (T.item (X.blk z3 H3 sc be fp) rfl rfl rfl hc i [] z5 _ H5 (fun _ _ => False) I5 (own4 I5 n5) st5 go) fun r z6 ⟨u, er, h6⟩ => ?_
      subst er
      refine thnF h6 fun _ z7 ⟨x, H7, I7, r7, y7, st7, n7⟩ => ?_
      refine thnF (pg.run _ z7 _ H7 x u _ (I7.pinned (own4 I7 n7) (T.obj _ _ st7)) r7 (step x H7 y7)) fun _ z8 ⟨σ8, H8, I8, w8, q8⟩ => ?_
      have back : ∀ {z : Shared} {H' : Hp}, Inv (X.blk z3 H3 sc be fp) ([] ++ pinsAt fp z7.heap) σ8 H' z → Nx H' → ∃ m', m' < m ∧ ∃ i H', Inv (X.blk z3 H3 sc be fp) [] (L2.wipe σ (own.map (·.2))) H' z ∧ tn i z.heap ∧ (∀ c ∈ fp, H' c = none) ∧ V i m' H' := fun {z H'} J nx => by
        obtain ⟨m', lm, v'⟩ := hNx H' nx
        have held : ∀ c ∈ fp, ∀ o, z7.heap.get? c = some o → z.heap.get? c = some o ∧ H' c = none := fun c hcm o e => (J.pin (c, o) (List.mem_append_right _ (List.mem_append_right _ (mem_pinsAt hcm e)))).imp_right fun y => y.1
        refine ⟨m', lm, i + 1, H', (J.unpinned (pins := [])).weak (by rw [← w8, wipe_length]) (fun j v e => (wipe_some (by rw [w8]; exact e)).1), T.keep _ _ _ st7 fun c hcm o e => (held c hcm o e).1, fun c hcm => ?_, v'⟩
        obtain ⟨o, e, _⟩ := T.obj _ _ st7 c hcm
        exact (held c hcm o e).2
      refine thnF (pt.run _ z8 σ8 H8 _ I8 q8) fun c z9 ⟨H9, I9, q9⟩ => ?_
      cases c with
      | false => exact back I9 q9
      | true =>
        exact thnF (pk.run _ z9 σ8 H9 _ I9 q9) fun ky z10 ⟨yk, H10, I10, r10, q10⟩ => thnF (pv.run _ z10 σ8 H10 _ I10 q10) fun vy z11 ⟨yv, H11, I11, r11, kvs, kk, qa, ek, hqa, hp, hz, nx⟩ => by
          subst ek
          obtain rfl : ky = Value.ref qa := r10
          exact put_comp (X := X.blk z3 H3 sc be fp) hu I11 hp hqa hz r11 fun z12 I12 => back I12 nx
  exact codeAny_compStart_dict lp (T.self X.A 0 _ _ _ st4 lp)
theorem pe_dcT {k : Nat} {kx vx tg it : Expr} {ifs : List Expr} {sc : Scope} {own : List (Str × Nat)} {wi : TI} {g : TG} {tt : TT} {tk tv : TE} (hr : Room k X.A) (hc : X.calm = true) (hN : X.N.Nodup) (hi : PI X tg it wi) (ok : BlkOk X.N X.env.scope sc own)
    (hg : ∀ z Hz C cl fp, PG (X.blk z Hz sc (compEnvC sc cl C X.env) fp) tg g) (ht : ∀ z Hz C cl fp, PTs (X.blk z Hz sc (compEnvC sc cl C X.env) fp) ifs tt) (hk : ∀ z Hz C cl fp, PE (X.blk z Hz sc (compEnvC sc cl C X.env) fp) kx tk) (he : ∀ z Hz C cl fp, PE (X.blk z Hz sc (compEnvC sc cl C X.env) fp) vx tv)
    (hs : ∀ x, foldedSetIterable it X.env x = pure x := by intro _; rfl) : PE X (.DictComp kx vx [⟨tg, it, ifs, 0⟩] sc pos) (tDcT wi g tt tk tv (own.map (·.2))) := by
  refine ⟨fun pins s σ H Q I hw => ?_⟩
  rw [arm_eval_DictComp]
  refine dct_core hr hc hN hi ok hg ht hk he hs I hw fun p C z ml H' J q hl fo => ?_
  obtain ⟨f0, f1, f2, f3, f4, f5⟩ := fo
  exact ⟨ml, hl, fun hh sb => ⟨.ref p, H', J.turned (t' := z.toks) (fun c o hb e => (sb.2 c hb).trans e) f0 f1 f3 f4 f5, rfl, q⟩⟩
/-- y = {..} -/
theorem ps_setDcT {k i : Nat} {y : Str} {py spos : Pos} {kx vx tg it : Expr} {ifs : List Expr} {sc : Scope} {own : List (Str × Nat)} {wi : TI} {g : TG} {tt : TT} {tk tv : TE} (hr : Room k X.A) (hc : X.calm = true) (hN : X.N.Nodup) (hy : X.N[i]? = some y) (hyl : X.env.scope.names.lookup y = some .local)
    (hsw : swapsWith (.DictComp kx vx [⟨tg, it, ifs, 0⟩] sc pos) (some (.Name y py)) spos.line X.env = pure true) (hi : PI X tg it wi) (ok : BlkOk X.N X.env.scope sc own)
    (hg : ∀ z Hz C cl fp, PG (X.blk z Hz sc (compEnvC sc cl C X.env) fp) tg g) (ht : ∀ z Hz C cl fp, PTs (X.blk z Hz sc (compEnvC sc cl C X.env) fp) ifs tt) (hk : ∀ z Hz C cl fp, PE (X.blk z Hz sc (compEnvC sc cl C X.env) fp) kx tk) (he : ∀ z Hz C cl fp, PE (X.blk z Hz sc (compEnvC sc cl C X.env) fp) vx tv)
    (hs : ∀ x, foldedSetIterable it X.env x = pure x := by intro _; rfl) : PS X (.Assign [.Name y py] (.DictComp kx vx [⟨tg, it, ifs, 0⟩] sc pos) spos) (tAsg (tDcT wi g tt tk tv (own.map (·.2))) (gName i)) := by
  refine ⟨fun pins s σ H Dn I hw => ?_⟩
  have hw : tDcT wi g tt tk tv (own.map (·.2)) σ H (fun x H1 => gName i x σ H1 Dn.nx) := hw
  rw [exec_Assign_Name_used _ _ _ _ hsw]
  refine wpAny_bind (wpAny_standAt (wpAny_bind (?_ : wpAny _ X.A (do let _ ← comprehension (.DictComp kx vx [⟨tg, it, ifs, 0⟩] sc pos) sc X.env (firstIterPos [⟨tg, it, ifs, 0⟩] pos) newDict false (eval it X.env) (some (assign (.Name y py) X.env))) _ _ s)))
  refine wpAny_bind (thn (dct_core (Qf := fun _ z => SP X pins Dn .next z) hr hc hN hi ok hg ht hk he hs I hw fun p C z ml H' J q hl fo => ?_) fun _ z hq => wpAny_pure (wpAny_pure hq))
  show wpAny _ _ (assign (.Name y py) X.env (.ref p)) _ _ _
  obtain ⟨f0, f1, f2, f3, f4, f5⟩ := fo
  refine wpAny_assign_Name (store_ok2 (v := V.ref p) J hN hy (.inl hyl) rfl (fun z2 J2 ⟨ca, sb, hca⟩ => ?_) (.inr hyl))
  have ne : C ≠ ca := hca.elim (fun e => by rw [e]; exact f1) fun e y2 => f4 y ca e y2.symm
  exact ⟨ml, hl.sameBut sb ne, fun h3 sb3 => ⟨_, H', J2.turned (t' := z2.toks) (fun c o hb e => (sb3.2 c hb).trans e) f0 f1 f3 f4 f5, q⟩⟩
/-! ### .. as a function on data -/
abbrev Dc := List (List Key) × List D
def dcompM (g : MG) (c : MB) (ek ev : M) (vs : List Nat) : List D → Env → Dc → R Dc
  | [], s, acc => .ok acc s
  | d :: ds, s, acc => match g d s with
    | none => .stuck
    | some s1 => (c s1).bind fun b s2 => if b = true then (ek s2).bind fun kd s3 => (ev s3).bind fun z s4 => match keyOf kd with
      | some k => if acc.1.length < 16000000 then dcompM g c ek ev vs ds (swipe s4 vs) (putKs acc.1 k, putV acc.1 acc.2 k z) else .stuck
      | none => .stuck
      else dcompM g c ek ev vs ds (swipe s2 vs) acc
def mDComp (mi : MA) (g : MG) (c : MB) (ek ev : M) (vs : List Nat) : M := fun s => (mi s).bind fun ds s1 => (dcompM g c ek ev vs ds (swipe s1 vs) ([], [])).noerr.bind fun a s2 => .ok (.dct a.1 a.2) (srest s1 s2 vs)
def PostD {n : Nat} (G : Gr n) (Γ : List Ty) (σ : Sl) (F : Hp) (fp : Fp) (H : Hp) (p : Addr) (vs : List Nat) (Qd : Hp → Prop) : R Dc → Prop
  | .ok a s' => ∀ F' fp' H' ws, Rel G Γ s' (L2.wipe σ vs) F' fp' H' → Stp L0 F fp H F' fp' H' → H' p = some (.dT (a.1.zip ws)) → a.1.length = ws.length → Reps F' a.2 ws → F' p = none → (∀ i, p ∉ fp' i) → Qd H'
  | _ => False
theorem keepD {p : Addr} {o : HO} (ho : tupO o = false) {Fa Ha Fb Hb : Hp} {fa fb : Fp} (h1 : Ha p = some o) (h2 : Fa p = none) (h3 : ∀ i, p ∉ fa i) (y : Stp L0 Fa fa Ha Fb fb Hb) (t : TbOk Fa Ha) : Hb p = some o ∧ Fb p = none ∧ ∀ i, p ∉ fb i := by
  refine ⟨y.keep p _ h1 (Nt.ntab ⟨_, h1, ho⟩ t) h3, y.nof p ⟨_, h1, ho⟩ h2 h3, fun i hi => ?_⟩
  rcases y.new i p hi with ⟨j, hj⟩ | z
  · exact h3 j hj
  · rw [h1] at z; cases z
theorem dcomp_core {K : PySem.W.Frag} {g : MG} {c : MB} {ek ev : M} {vs js : List Nat} {ds : List D} {J : It} {σ : Sl} {F1 H1 F0 H0 : Hp} {fp1 fp0 : Fp} {s0 : Env} {p : Addr} {acc0 : Dc} {av0 : List V} {Qd : Hp → Prop} (hjs : ∀ j ∈ js, j ∈ vs) (hvs : ∀ v ∈ vs, Γ[v]? = some .fr) (wk : Wk G Γ J F0 ds) (hp : H1 p = none) (hG : G.H p = none) (hσl : σ.length = Γ.length)
    (R0 : Rel G Γ s0 (L2.wipe σ vs) F0 fp0 H0) (x0 : Stp L0 F1 fp1 H1 F0 fp0 H0) (hp0 : H0 p = some (.dT (acc0.1.zip av0))) (hl0 : acc0.1.length = av0.length) (ra0 : Reps F0 acc0.2 av0) (hF0 : F0 p = none) (hf0 : ∀ i, p ∉ fp0 i)
    (q : PostD G Γ σ F1 fp1 H1 p vs Qd (dcompM g c ek ev vs ds s0 acc0)) :
    ∃ V : Nat → Nat → Hp → Prop, (∃ m, V 0 m H0) ∧ ∀ i m H, V i m H →
      (J.stop i H ∧ Qd H) ∨ (J.go i H ∧ ∃ Nx : Hp → Prop, (∀ H', Nx H' → ∃ m', m' < m ∧ V (i + 1) m' H') ∧ ∀ x H', J.yld i H x H' → tG G Γ js g x (L2.wipe σ vs) H' fun σ2 H2 => L2.wipe σ2 vs = L2.wipe σ vs ∧ tMB K G W0 Γ c σ2 H2 fun b H3 =>
        if b = true then tM K G W0 Γ .fr ek σ2 H3 fun y H4 => tM K G W0 Γ .fr ev σ2 H4 fun z H5 => ∃ kvs k q, y = .ref q ∧ H5 q = some (.tup (k.map kV)) ∧ H5 p = some (.dT kvs) ∧ kvs.length < sizeLine ∧ Nx (upd H5 p (.dT (putK kvs k z))) else Nx H3) := by
  have hw : ∀ v ∈ vs, n ≤ v ∨ Γ[v]? = some .fr := fun v hv => .inr (hvs v hv)
  let St (i : Nat) (H : Hp) : Prop := i ≤ ds.length ∧ ∃ s' F' fp' acc accv, Rel G Γ s' (L2.wipe σ vs) F' fp' H ∧ Same F0 F' ∧ Stp L0 F1 fp1 H1 F' fp' H ∧ H p = some (.dT (acc.1.zip accv)) ∧ acc.1.length = accv.length ∧ Reps F' acc.2 accv ∧ F' p = none ∧ (∀ i, p ∉ fp' i) ∧ PostD G Γ σ F1 fp1 H1 p vs Qd (dcompM g c ek ev vs (ds.drop i) s' acc)
  refine ⟨fun i m H => m = ds.length - i ∧ St i H, ⟨ds.length, by simp, Nat.zero_le _, s0, F0, fp0, acc0, av0, R0, Same.refl F0, x0, hp0, hl0, ra0, hF0, hf0, q⟩, ?_⟩
  rintro i m H ⟨rfl, hi, s', F', fp', acc, accv, R', sm, x', hpl, hal, ra, hF, hf, q'⟩
  obtain ⟨w1, w2⟩ := wk i s' _ F' fp' H R' sm
  by_cases hlt : i < ds.length
  · have hd : ds[i]? = some ds[i] := by simp [hlt]
    have hdrop : ds.drop i = ds[i] :: ds.drop (i + 1) := List.drop_eq_getElem_cons hlt
    rw [hdrop] at q'
    obtain ⟨go, hy⟩ := w1 _ hd
    refine .inr ⟨go, St (i + 1), fun H' n' => ⟨ds.length - (i + 1), by omega, rfl, n'⟩, fun y H2 yv => ?_⟩
    obtain ⟨F2, R2, x2, r2⟩ := hy y H2 yv
    unfold dcompM at q'
    cases eg : g ds[i] s' with
    | none => rw [eg] at q'; exact q'.elim
    | some s2 =>
      rw [eg] at q'
      simp only [] at q'
      refine ⟨ds[i], s', F2, fp', R2, r2, s2, eg, fun σ3 fp3 R3 x3 k3 => ?_⟩
      have hσ : L2.wipe σ3 vs = L2.wipe σ vs := by
        rw [← wipe_wipe σ vs]
        exact wipe_eq (by rw [wipe_length, R3.lσ, hσl]) fun j hj => k3 j fun z => hj (hjs j z)
      refine ⟨hσ, s2, F2, fp3, R3, ?_⟩
      obtain ⟨p2, f2, g2⟩ := keepD rfl hpl hF hf (x2.trans x3) R'.tb
      have xx := x'.trans (x2.trans x3)
      cases ec : c s2 with
      | err _ _ => rw [ec] at q'; exact q'.elim
      | stuck => rw [ec] at q'; exact q'.elim
      | ok b s3 =>
        rw [ec, Bk.R.bind_ok] at q'
        intro b' F4 fp4 H4 R4 x4 eb
        cases eb
        obtain ⟨p4, f4, g4⟩ := keepD rfl p2 f2 g2 x4 R3.tb
        cases b with
        | false =>
          rw [if_neg Bool.false_ne_true]
          rw [if_neg Bool.false_ne_true] at q'
          refine ⟨hlt, swipe s3 vs, F4, fp4, acc, accv, ?_, sm.trans (x2.f.trans (x3.f.trans x4.f)), xx.trans x4, p4, hal, ra.mono (x2.f.trans (x3.f.trans x4.f)), f4, g4, q'⟩
          have := R4.wipe hw
          rw [hσ] at this
          exact this
        | true =>
          rw [if_pos rfl]
          rw [if_pos rfl] at q'
          refine ⟨s3, F4, fp4, R4, ?_⟩
          cases ee : ek s3 with
          | err _ _ => rw [ee] at q'; exact q'.elim
          | stuck => rw [ee] at q'; exact q'.elim
          | ok kd s5 =>
            rw [ee, Bk.R.bind_ok] at q'
            intro w F6 fp6 H6 R6 x6 aw
            obtain ⟨p6, f6, g6⟩ := keepD rfl p4 f4 g4 x6 R4.tb
            refine ⟨s5, F6, fp6, R6, ?_⟩
            cases ez : ev s5 with
            | err _ _ => rw [ez] at q'; exact q'.elim
            | stuck => rw [ez] at q'; exact q'.elim
            | ok z s7 =>
              rw [ez, Bk.R.bind_ok] at q'
              intro w2 F8 fp8 H8 R8 x8 aw2
              obtain ⟨p8, f8, g8⟩ := keepD rfl p6 f6 g6 x8 R6.tb
              cases ekk : keyOf kd with
              | none => rw [ekk] at q'; exact q'.elim
              | some k =>
                rw [ekk] at q'
                simp only [] at q'
                by_cases hl : acc.1.length < 16000000
                · rw [if_pos hl] at q'
                  obtain ⟨qa, rfl, eqa⟩ := keyOf_rep ekk (aw.rep.mono x8.f)
                  have hra : Reps F8 acc.2 accv := ra.mono (x2.f.trans (x3.f.trans (x4.f.trans (x6.f.trans x8.f))))
                  have hz : (acc.1.zip accv).length < sizeLine := by rw [List.length_zip]; exact Nat.lt_of_le_of_lt (Nat.min_le_left _ _) (sixteen hl)
                  refine ⟨acc.1.zip accv, k, qa, rfl, R8.at eqa rfl, p8, hz, hlt, swipe s7 vs, F8, fp8, (putKs acc.1 k, putV acc.1 acc.2 k z), putV acc.1 accv k w2, ?_, sm.trans (x2.f.trans (x3.f.trans (x4.f.trans (x6.f.trans x8.f)))), (((xx.trans x4).trans x6).trans x8).tmp hp ⟨_, p8, rfl⟩, ?_, putKs_len hal, putV_rep aw2.rep hra, f8, g8, q'⟩
                  · have := (R8.wipe hw).tmp (o := .dT (putK (acc.1.zip accv) k w2)) f8 g8 hG p8
                    rw [hσ] at this
                    exact this
                  · rw [upd_same, put_zip hal]
                · rw [if_neg hl] at q'; exact q'.elim
  · have e : i = ds.length := by omega
    subst e
    rw [List.drop_length] at q'
    exact .inl ⟨w2 (Nat.le_refl _), q' F' fp' H accv R' x' hpl hal ra hF hf⟩
theorem dcomp_end {K : PySem.W.Frag} {vs : List Nat} {σ : Sl} {F1 H1 : Hp} {fp1 : Fp} {s1 : Env} {p : Addr} {Q : VK} (hvs : ∀ v ∈ vs, Γ[v]? = some .fr) (R1 : Rel G Γ s1 σ F1 fp1 H1) (hp : H1 p = none) {fp0 : Fp} {H0 : Hp} (h0 : H0 p = none) {o : R Dc}
    (q : PostG K G W Γ σ F1 fp1 H1 (AE G .od fp0 H0) Q (o.noerr.bind fun a s2 => .ok (.dct a.1 a.2) (srest s1 s2 vs))) : PostD G Γ σ F1 fp1 H1 p vs (Q (.ref p)) o := by
  cases o with
  | err _ _ => exact q.elim
  | stuck => exact q.elim
  | ok zs s2 =>
    intro F' fp' H' ws R' x' hpl hal ra hF hf
    refine q (.ref p) F' _ H' (Rel.rest R1 x'.f hvs R') ⟨x'.f, x'.keep, fun i a h => ?_, x'.nof, x'.there, x'.nt, x'.tab⟩ ⟨[p], ⟨p, zs.1, zs.2, ws, rfl, rfl, hpl, hal, ra, rfl⟩, fun b hb => ?_⟩
    · have h : a ∈ (if i ∈ vs then [] else fp' i) := h
      by_cases z : i ∈ vs
      · rw [if_pos z] at h; cases h
      · rw [if_neg z] at h; exact x'.new i a h
    · rw [List.mem_singleton.mp hb]
      refine ⟨hF, fun i h => ?_, R1.newG hp, .inr h0⟩
      have h : p ∈ (if i ∈ vs then [] else fp' i) := h
      by_cases z : i ∈ vs
      · rw [if_pos z] at h; cases h
      · rw [if_neg z] at h; exact hf i h
theorem dcomp_read {K : PySem.W.Frag} {mi : MA} {g : MG} {c : MB} {ek ev : M} {vs js : List Nat} {σ : Sl} {H : Hp} {Q : VK} (hjs : ∀ j ∈ js, j ∈ vs) (hvs : ∀ v ∈ vs, Γ[v]? = some .fr) (h : tM K G W Γ .od (mDComp mi g c ek ev vs) σ H Q) :
    tDcT (tI K G W Γ mi) (tG G Γ js g) (tMB K G W0 Γ c) (tM K G W0 Γ .fr ek) (tM K G W0 Γ .fr ev) vs σ H Q := by
  obtain ⟨s, F, fp, R, q⟩ := h
  refine ⟨s, F, fp, R, pbind q fun ds s1 J F1 fp1 H1 R1 st1 wk q1 p hp => ?_⟩
  obtain ⟨a, b⟩ := (R1.wipe fun v hv => .inr (hvs v hv)).lay (o := .dT []) hp
  exact dcomp_core hjs hvs wk hp (R1.newG hp) R1.lσ a b upd_same rfl .nil (R1.nowF hp) (R1.newFp hp) (dcomp_end hvs R1 hp (Classical.byContradiction fun z => st1.there p z hp) q1)
theorem me_dcomp {ex : Expr} {mi : MA} {g : MG} {c : MB} {ek ev : M} {vs js : List Nat} (h : PE X ex (tDcT (tI X.K G W Γ mi) (tG G Γ js g) (tMB X.K G W0 Γ c) (tM X.K G W0 Γ .fr ek) (tM X.K G W0 Γ .fr ev) vs)) (hjs : ∀ j ∈ js, j ∈ vs := by decide) (hvs : ∀ v ∈ vs, Γ[v]? = some .fr := by decide) : ME X G W Γ ex .od (mDComp mi g c ek ev vs) :=
  peI h fun _ _ _ q => dcomp_read hjs hvs q
theorem ms_dcP {st : Stmt} {i : Nat} {mi : MA} {g : MG} {c : MB} {ek ev : M} {vs js : List Nat} (h : PS X st (tAsg (tDcT (tI X.K G W Γ mi) (tG G Γ js g) (tMB X.K G W0 Γ c) (tM X.K G W0 Γ .fr ek) (tM X.K G W0 Γ .fr ev) vs) (gName i))) (hjs : ∀ j ∈ js, j ∈ vs := by decide) (hvs : ∀ v ∈ vs, Γ[v]? = some .fr := by decide) :
    PS X st (tAsg (tM X.K G W Γ .od (mDComp mi g c ek ev vs)) (gName i)) := psI h fun _ _ _ q => dcomp_read hjs hvs q
theorem sw_trueD {kx vx : Expr} {gs : List Comprehension} {sc : Scope} {pos py : Pos} {y : Str} {l : Nat} {env : PySem.Env} (hk : env.scope.kind = .function) (hy : env.scope.names.lookup y = some .local) (hl : (py.line == pos.line) = true)
    (ha : (sc.names.any fun (n, k) => n == y && (k == .local || k == .cell)) = false) : swapsWith (.DictComp kx vx gs sc pos) (some (.Name y py)) l env = pure true := by
  have h1 : env.blockKind = .function := by unfold Env.blockKind; rw [hk]; rfl
  have h2 : env.kindOf y = some .local := hy
  unfold swapsWith
  simp only [h1, h2, ha, Expr.pos, hl]
  rfl
/-! ### len -/
def rLenD : List V → Hp → VK → Prop := fun xs H Q => ∃ (p : Addr) (kvs : List (List Key × V)), xs = [.ref p] ∧ Rd H p (.dT kvs) ∧ Q (.int ((kvs.length : Nat) : Int)) H
theorem call_lenD' : CallR X (.builtin "len") rLenD := by
  intro pins s σ H xs us Q I r h
  obtain ⟨p, kvs, rfl, hp, q⟩ := h
  obtain ⟨u, rfl, ru⟩ := vals1 r
  obtain rfl : u = .ref p := ru
  obtain ⟨z, hd, ys, rel, dd⟩ := dt_rd I.hok hp
  have hl := Paired.length rel
  refine call_len_dictH hd dd (by rw [sizeLine_eq] at z; omega) ?_
  rw [← hl]
  exact ⟨.int ((kvs.length : Nat) : Int), H, I.tok _, ⟨_, rfl⟩, q⟩
def dLenD : List D → Option D
  | [.dct ks _] => some (.int ks.length)
  | _ => none
theorem me_lenD {e : Expr} {ms : MA} (h : PE X e (tCB rLenD (tMA X.K G W Γ ms))) : ME X G W Γ e .fr (mCall dLenD ms) := peI h fun _ _ _ q => cb (fun ds z vs s F fp H Q R hz rs k => by
  match ds, hz with
  | [.dct ks es], hz =>
    cases hz
    obtain ⟨v, rfl, r⟩ := rs.one
    cases r with
    | @dct ks es ws p o ea el rs =>
      refine ⟨p, ks.zip ws, rfl, R.rdz ea, ?_⟩
      rw [List.length_zip, ← el, Nat.min_self]
      exact k _ (.int _)) q
def mLenOd (i : Nat) : M := fun s => match s[i]? with
  | some (some (.dct ks _)) => .ok (.int ks.length) s
  | _ => .stuck
theorem me_lenOd {e : Expr} {i : Nat} (h : PE X e (tCB rLenD (tCons (tVar i) tNil))) (ht : Γ[i]? = some .od) : ME X G W Γ e .fr (mLenOd i) :=
  peI h fun σ H Q ⟨s, F, fp, R, q⟩ => by
    unfold mLenOd at q
    split at q
    · rename_i ks0 ds0 e0
      obtain ⟨v, hv, p, ks, ds, vs, z, rfl, e3, l, rs, e4⟩ := R.slot i _ _ ht e0
      cases z
      refine ⟨.ref p, hv, p, ks0.zip vs, rfl, .inl e3, ?_⟩
      rw [List.length_zip, ← l, Nat.min_self]
      exact pok q R (AE.fr (.int _))
    · exact q.elim
/-- the truth of a dict -/
def dTruD : D → Option Bool
  | .dct ks _ => some (!ks.isEmpty)
  | _ => none
end
end Bk

set_option Elab.async false
set_option linter.all false
set_option maxRecDepth 100000
set_option maxHeartbeats 4000000
namespace Bk
open PySem PySem.Spec PyProof.Rows L2
variable [Cls]
section
variable {X : Cx} {n : Nat} {G : Gr n} {W : WX} {Γ : List Ty} {rt : Ty} {a b : Expr} {ma mb : M} {pos : Pos}
/-- the truth of an own list -/
def mTruO (i : Nat) : MB := fun s => match s[i]? with
  | some (some (.lst ds)) => .ok (!ds.isEmpty) s
  | some (some (.obj _ [] ds)) => .ok (!ds.isEmpty) s
  | _ => .stuck
theorem mt_truO {i : Nat} (ha : PE X a (tVar i)) (ht : Γ[i]? = some .ol) (he : ∀ whole, isTrue a X.env whole = (do let v ← whole; standAt a.pos; holding [v] (truthy v)) := by intro _; rfl) : MT X G W Γ a (mTruO i) :=
  ptI (pt_truth ha he) fun σ H Q ⟨s, F, fp, R, q⟩ => by
    unfold mTruO at q
    split at q
    · rename_i ds e0
      obtain ⟨v, hv, p, ds0, vs, z, rfl, e3, rs, e4⟩ := R.slot i _ _ ht e0
      cases z
      exact ⟨.ref p, hv, _, .inl ⟨vs, .of e3, rfl⟩, by rw [← rs.empty]; exact pok q R rfl⟩
    · rename_i c ds e0
      obtain ⟨v, hv, p, ds0, vs, z, rfl, e3, rs, e4⟩ := R.slot i _ _ ht e0
      cases z
    · exact q.elim
theorem mt_truX {i : Nat} (ha : PE X a (tVar i)) (ht : Γ[i]? = some .xl) (he : ∀ whole, isTrue a X.env whole = (do let v ← whole; standAt a.pos; holding [v] (truthy v)) := by intro _; rfl) : MT X G W Γ a (mTruO i) :=
  ptI (pt_truth ha he) fun σ H Q ⟨s, F, fp, R, q⟩ => by
    unfold mTruO at q
    split at q
    · rename_i ds e0
      obtain ⟨v, hv, a⟩ := R.slot i _ _ ht e0
      rcases a with ⟨o, r, eB⟩ | ⟨p, ds', vs, z, rfl, e3, rs, e4⟩
      · cases r with
        | @lst ds vs p ea rs => exact ⟨.ref p, hv, _, .inl ⟨vs, R.sqL ea, rfl⟩, by rw [← rs.empty]; exact pok q R rfl⟩
      · cases z
    · rename_i c ds e0
      obtain ⟨p, vs, hv, e3, rs, e4⟩ := R.slotX ht e0
      exact ⟨.ref p, hv, _, .inl ⟨vs, .of e3, rfl⟩, by rw [← rs.empty]; exact pok q R rfl⟩
    · exact q.elim
/-- x[k], x an own list -/
def mIxO (i : Nat) (mb : M) : M := fun s => match s[i]? with
  | some (some _) => (mb s).bind fun d s1 => match s1[i]?, d with
    | some (some (.lst ds)), .int k => R.opt (atI ds k) s1
    | _, _ => .stuck
  | _ => .stuck
theorem me_ixO {i : Nat} (ha : PE X a (tVar i)) (ht : Γ[i]? = some .ol) (hb : ME X G W Γ b .fr mb) (hs : PlainIx b) : ME X G W Γ (.Subscript a b pos) .fr (mIxO i mb) :=
  peI (pe_ix ix_list ha hb hs) fun σ H Q ⟨s, F, fp, R, q⟩ => by
    unfold mIxO at q
    split at q
    · rename_i d0 e0
      obtain ⟨v, hv, a0⟩ := R.slot i _ _ ht e0
      refine ⟨v, hv, s, F, fp, R, pbind q fun d s1 y F1 fp1 H1 R1 x a1 q1 => ?_⟩
      split at q1
      · rename_i ds k e1
        obtain ⟨z, ez, q3⟩ := opt_post q1
        obtain ⟨v', hv', p, ds0, vs, zz, rfl, e3, rs, e4⟩ := R1.slot i _ _ ht e1
        rw [hv] at hv'
        cases hv'
        cases zz
        cases a1.rep
        obtain ⟨w, h1, h2⟩ := rs.atI ez
        exact ⟨p, vs, k, w, rfl, rfl, .of e3, h1, pok q3 R1 (AE.fr h2)⟩
      · exact q1.elim
    · exact q.elim
/-- x[lo:hi] of a fixed list -/
def mPart : Option M → Env → R (Option Int)
  | none => fun s => .ok none s
  | some m => fun s => (m s).bind fun d s1 => match d with
    | .int i => .ok (some i) s1
    | _ => .stuck
def cutD (ds : List D) (lo hi : Option Int) : List D := (ds.drop (HT.sIx ds.length 0 lo)).take (HT.sIx ds.length ds.length hi - HT.sIx ds.length 0 lo)
theorem cut_rep {F : Hp} {ds : List D} {vs : List V} (r : Reps F ds vs) (lo hi : Option Int) : Reps F (cutD ds lo hi) (cutV vs lo hi) := by
  unfold cutD cutV
  rw [r.len]
  exact (r.drop _).take _
def mSlice (m : M) (lo hi : Option M) : M := fun s => (m s).bind fun d s1 => (mPart lo s1).bind fun l s2 => (mPart hi s2).bind fun h s3 => match d with
  | .lst ds => .ok (.lst (cutD ds l h)) s3
  | _ => .stuck
abbrev tPt (K : PySem.W.Frag) {n : Nat} (G : Gr n) (W : WX) (Γ : List Ty) (o : Option M) : TO := fun σ H Q => ∃ s F fp, Rel G Γ s σ F fp H ∧ PostG K G W Γ σ F fp H (fun a b _ _ _ => a = b) Q (mPart o s)
theorem mp_none : PO X none (tPt X.K G W Γ none) := ⟨fun pins s σ H Q I ⟨s', F, fp, R, q⟩ => po_none.run pins s σ H Q I (pok (a := none) q R rfl)⟩
theorem mp_some {e : Expr} {m : M} (h : ME X G W Γ e .fr m) : PO X (some e) (tPt X.K G W Γ (some m)) := ⟨fun pins s σ H Q I ⟨s', F, fp, R, q⟩ => (po_some h).run pins s σ H Q I ⟨s', F, fp, R, by
    unfold mPart at q
    exact pbind q fun d s1 v F1 fp1 H1 R1 x a q1 => by
      cases a.rep with
      | int i => exact ⟨i, rfl, pok q1 R1 rfl⟩
      | _ => exact q1.elim⟩⟩
theorem me_slice {e : Expr} {lo hi : Option Expr} {m : M} {ml mh : Option M} {p2 : Pos} (he : ME X G W Γ e .fr m) (hl : PO X lo (tPt X.K G W Γ ml)) (hh : PO X hi (tPt X.K G W Γ mh)) : ME X G W Γ (.Subscript e (.Slice lo hi none p2) pos) .ol (mSlice m ml mh) :=
  peI (pe_slice sl_list he hl hh) fun σ H Q ⟨s, F, fp, R, q⟩ => ⟨s, F, fp, R, pbind q fun d s1 x F1 fp1 H1 R1 st1 a1 q1 => ⟨s1, F1, fp1, R1, pbind q1 fun l s2 l' F2 fp2 H2 R2 st2 el q2 => by
    cases el
    exact ⟨s2, F2, fp2, R2, pbind q2 fun h s3 h' F3 fp3 H3 R3 st3 eh q3 => by
      cases eh
      have r := a1.rep.mono (st2.f.trans st3.f)
      cases r with
      | @lst ds vs p ea rs => exact ⟨p, vs, rfl, R3.sqL ea, fun p' hp => new_list ((st1.trans st2).trans st3) R3 hp q3 (cut_rep rs l h)⟩
      | _ => exact q3.elim⟩⟩⟩
end
def kitAR (x : Str) (ys : List Str) (b : Bool) : Ft := fun K => decide (PySem.W.kitAny K (.ref (He.ga K x)) (ys.map fun y => .ref (He.ga K y)) = some b)
end Bk

set_option Elab.async false
set_option linter.all false
set_option maxRecDepth 100000
set_option maxHeartbeats 4000000
namespace Bs
open PySem PyProof.Rows
/-! ### a tuple cut by steps -/
abbrev stLo (n : Nat) (a k : Int) : Int := (Builtin.Slice.sliceAdjust (some a) none k (n : Int)).1
abbrev stHi (n : Nat) (a k : Int) : Int := (Builtin.Slice.sliceAdjust (some a) none k (n : Int)).2
def stN (n : Nat) (a k : Int) : Nat := Builtin.Slice.slicePlaces (stLo n a k) (stHi n a k) k
def stPick {α : Type} (xs : List α) (a k : Int) : List α := (List.range (stN xs.length a k)).filterMap fun (m : Nat) => xs[(stLo xs.length a k + (m : Int) * k).toNat]?
section
variable {prog : Program} {w : World} {A : Around} {E : Value → Shared → Prop} {s : Shared}
theorem applied_step {sl : Addr} {a k : Int} {ua uk : Tok} {n : Nat} {Q : Int × Int × Nat → Shared → Prop} (hs : s.heap.IsSliceOf sl (.int a ua) .none (.int k uk)) (hk : (k == 0) = false)
    (h : Q (stLo n a k, k, stN n a k) s) : wpAny (model prog w) A (Builtin.Slice.sliceApplied (.ref sl) (pure (n : Int))) Q E s := by
  obtain ⟨os, hos, hcs, hds⟩ := id hs
  unfold Builtin.Slice.sliceApplied Builtin.Slice.sliceFields
  refine wpAny_bind (wpAny_bind (wpAny_field hos hds (x := .int a ua) rfl (wpAny_bind (wpAny_field hos hds (x := .none) rfl (wpAny_bind (wpAny_field hos hds (x := .int k uk) rfl (wpAny_pure ?_)))))))
  refine wpAny_bind (HT.slicePart_ (.int k uk) ?_)
  show wpAny _ _ (if (k == 0) = true then _ else _) _ _ s
  rw [hk, if_neg Bool.false_ne_true]
  refine wpAny_bind (HT.slicePart_ (.int a ua) (wpAny_bind (HT.slicePart_ .none (wpAny_bind (wpAny_pure ?_)))))
  exact wpAny_pure h
theorem getItem_step {t sl : Addr} {items : Array Value} {a k : Int} {ua uk : Tok} {Q : Value → Shared → Prop} (ht : IsTup s.heap t items) (hs : s.heap.IsSliceOf sl (.int a ua) .none (.int k uk)) (hk : (k == 0) = false) (hk1 : (k == 1) = false)
    (hz : stN items.size a k ≤ sizeLine)
    (h : Q (.ref s.heap.objs.size) { s with heap := s.heap.push { cls := .type "tuple", data := .seq (stPick items.toList a k).toArray } }) : wpAny (model prog w) A (getItem (.ref t) (.ref sl)) Q E s := by
  obtain ⟨os, hos, hcs, hds⟩ := id hs
  have hTs : s.TypeIs (.ref sl) "slice" := ⟨os, hos, hcs⟩
  have ep : ((List.range (stN items.size a k)).filterMap fun (m : Nat) => items[(stLo items.size a k + (m : Int) * k).toNat]?).toArray = (stPick items.toList a k).toArray := by
    unfold stPick
    rw [Array.length_toList]
    simp only [Array.getElem?_toList]
  have htake : sizeOk (.seq (stPick items.toList a k).toArray) := by
    show (stPick items.toList a k).toArray.size ≤ sizeLine
    rw [List.size_toArray]
    refine Nat.le_trans (List.length_filterMap_le _ _) ?_
    rw [List.length_range, Array.length_toList]
    exact hz
  unfold getItem
  try with_reducible refine wpAny_holding ?_
  first | refine wpAny_bind (wpAny_pure ?_) | skip
  refine wpAny_bind (wpAny_sequenceKey ht.typeIs (by decide) ?_)
  refine wpAny_bind (wpAny_callSpecial?_slot (name := Str.ofString "__getitem__") ht.typeIs PyProof.Rows.slot_tuple_getitem
    (wpAny_call_entry PyProof.Rows.slot_tuple_getitem ht.typeIs entry_tuple_getitem ?_ (args_tuple_getitem _ _)))
  show wpAny _ _ (Builtin.Tuple.tupleItemsOf (.ref t) >>= _) _ _ s
  refine wpAny_bind (tupleItemsOf_ ht ?_)
  refine wpAny_bind (wpAny_typeOf hTs ?_)
  rw [if_pos (by decide)]
  refine wpAny_bind (applied_step hs hk ?_)
  have hno : ¬ ((stLo items.size a k == 0 && k == 1 && stN items.size a k == items.size) = true) := by
    rw [hk1, Bool.and_false, Bool.false_and]
    exact Bool.false_ne_true
  show wpAny _ _ (if (stLo items.size a k == 0 && k == 1 && stN items.size a k == items.size) = true then _ else _) _ _ s
  rw [if_neg hno, ep]
  first
    | exact wpAny_bind (m := Builtin.Tuple.tupleExact _) (wpAny_newObj_type (wpAny_pure ⟨_, rfl, wpAny_pure h⟩) htake)
    | exact wpAny_bind (m := Builtin.Tuple.tupleExact _) (wpAny_newObj_type (wpAny_bind (wpAny_pure (wpAny_pure ⟨_, rfl, wpAny_pure h⟩))) htake)
    | exact wpAny_bind (wpAny_bind (m := Builtin.Tuple.tupleExact _) (wpAny_newObj_type (wpAny_pure (wpAny_pure ⟨_, rfl, wpAny_pure h⟩)) htake))
    | exact wpAny_bind (wpAny_bind (m := Builtin.Tuple.tupleExact _) (wpAny_newObj_type (wpAny_pure ⟨_, rfl, wpAny_pure h⟩) htake))
end
end Bs
namespace Bk
open PySem PySem.Spec PyProof.Rows L2
variable [Cls]
theorem pick_rel {α β : Type} {R : α → β → Prop} {xs : List α} {ys : List β} (h : ∀ i : Nat, (xs[i]? = none ∧ ys[i]? = none) ∨ ∃ x y, xs[i]? = some x ∧ ys[i]? = some y ∧ R x y) (f : Nat → Nat) {P : List α → List β → Prop} (p0 : P [] []) (p1 : ∀ {x y l m}, R x y → P l m → P (x :: l) (y :: m)) :
    ∀ js : List Nat, P (js.filterMap fun m => xs[f m]?) (js.filterMap fun m => ys[f m]?)
  | [] => p0
  | j :: js => by
    have ih := pick_rel h f p0 p1 js
    rw [List.filterMap_cons, List.filterMap_cons]
    rcases h (f j) with ⟨h1, h2⟩ | ⟨x, y, h1, h2, h3⟩
    · rw [h1, h2]; exact ih
    · rw [h1, h2]; exact p1 h3 ih
theorem vals_at {xs : List V} {us : List Value} (r : Vals xs us) : ∀ i : Nat, (xs[i]? = none ∧ us[i]? = none) ∨ ∃ x y, xs[i]? = some x ∧ us[i]? = some y ∧ RelV x y := by
  induction r with
  | nil => intro i; exact .inl ⟨rfl, rfl⟩
  | cons r t ih =>
    intro i
    cases i with
    | zero => exact .inr ⟨_, _, rfl, rfl, r⟩
    | succ i => exact ih i
theorem vals_pick {xs : List V} {us : List Value} (r : Vals xs us) (a k : Int) : Vals (Bs.stPick xs a k) (Bs.stPick us a k) := by
  unfold Bs.stPick
  rw [r.length]
  exact pick_rel (R := RelV) (P := Vals) (vals_at r) _ .nil (fun r t => .cons r t) _
theorem Reps.pick {F : Hp} {ds : List D} {vs : List V} (r : Reps F ds vs) (a k : Int) : Reps F (Bs.stPick ds a k) (Bs.stPick vs a k) := by
  unfold Bs.stPick
  rw [r.len]
  refine pick_rel (R := fun d v => Rep F d v) (P := fun ds vs => Reps F ds vs) (fun i => ?_) _ .nil (fun r t => .cons r t) _
  cases h : ds[i]? with
  | some d =>
    obtain ⟨v, hv, rv⟩ := r.get h
    exact .inr ⟨d, v, rfl, hv, rv⟩
  | none =>
    refine .inl ⟨rfl, ?_⟩
    have := List.getElem?_eq_none_iff.mp h
    exact List.getElem?_eq_none (by rw [← r.len]; exact this)
def tStep (K : PySem.W.Frag) (a k : Int) (te : TE) : TE := fun σ H Q => te σ H fun x H1 => ∃ p xs, x = .ref p ∧ SqT K H1 p xs ∧ (k == 0) = false ∧ (k == 1) = false ∧ Bs.stN xs.length a k ≤ sizeLine ∧ ∀ p, H1 p = none → Q (.ref p) (upd H1 p (.tup (Bs.stPick xs a k)))
theorem pe_step {X : Cx} {e : Expr} {te : TE} {a k : Int} {j1 j2 : Nat} {p1 p2 p3 pos : Pos} (he : PE X e te) : PE X (.Subscript e (.Slice (some (.Constant (.int a) j1 p1)) none (some (.Constant (.int k) j2 p2)) p3) pos) (tStep X.K a k te) := by
  refine ⟨fun pins s σ H Q I h => ?_⟩
  refine Subscript_ (thn (he.run pins s σ H _ I h) fun v s1 ⟨x, H1, I1, r1, q1⟩ => ?_)
  obtain ⟨p, xs, ex, hx, hk, hk1, hz, q⟩ := q1
  subst ex
  cases r1
  have hla : PO X (some (.Constant (.int a) j1 p1)) (tPart (tC (.int a))) := po_some pe_int
  have hst : PO X (some (.Constant (.int k) j2 p2)) (tPart (tC (.int k))) := po_some pe_int
  refine wpAny_Slice (thn (hla.run pins s1 σ H1 (fun o H2 => o = some a ∧ H2 = H1) I1 ⟨a, rfl, rfl, rfl⟩) fun vl s2 ⟨l, H2, I2, pl, el, e2⟩ => ?_)
  subst el e2
  refine thn (po_none.run pins s2 σ H2 (fun o H3 => o = none ∧ H3 = H2) I2 ⟨rfl, rfl⟩) fun vu s3 ⟨u, H3, I3, pu, eu, e3⟩ => ?_
  subst eu e3
  refine thn (hst.run pins s3 σ H3 (fun o H4 => o = some k ∧ H4 = H3) I3 ⟨k, rfl, rfl, rfl⟩) fun vs s4 ⟨o, H4, I4, ps, eo, e4⟩ => ?_
  subst eo e4
  cases pl with
  | int _ ta =>
    cases pu
    cases ps with
    | int _ tk =>
      have I5 : Inv X pins σ H4 { s4 with heap := s4.heap.push { cls := .type "slice", data := .fields #[.int a ta, .none, .int k tk] } } := I4.kept (t' := s4.toks) fun b ob q => Heap.get?_push_of_some _ q
      obtain ⟨its, r, ht, hz2⟩ := I5.tuple hx
      have hlen : its.toArray.size = xs.length := by rw [List.size_toArray]; exact r.length.symm
      show wpAny (model X.prog X.w) X.A (subscriptTail e (.Slice (some (.Constant (.int a) j1 p1)) none (some (.Constant (.int k) j2 p2)) p3) (.ref p) (.ref s4.heap.objs.size)) (EP X pins σ Q) X.xe { s4 with heap := s4.heap.push { cls := .type "slice", data := .fields #[.int a ta, .none, .int k tk] } }
      refine tail_any (ops := [.ref p, .ref s4.heap.objs.size]) ht.typeIs PyProof.Rows.slot_tuple_getitem.lookup ?_ (by with_unfolding_all rfl)
      refine Bs.getItem_step ht (Heap.IsSliceOf.new ..) hk hk1 (by rw [hlen]; exact hz) ?_
      have rp := vals_pick r a k
      refine ⟨.ref _, _, I5.laid (t' := s4.toks) (o := .tup (Bs.stPick xs a k)) (fun b ob q => Heap.get?_push_of_some _ q) (Nat.le_refl _) ?_, rfl, q _ (I5.hok.fresh (Nat.le_refl _))⟩
      refine ⟨Nat.le_trans (List.length_filterMap_le _ _) (by rw [List.length_range]; exact hz), _, rp, IsTup.new _ _⟩
def dStep (a k : Int) : D → Option D
  | .tup ds => if ((k == 0) = false ∧ (k == 1) = false) ∧ Bs.stN ds.length a k ≤ 1000 then some (.tup (Bs.stPick ds a k)) else none
  | _ => none
section
variable {X : Cx} {n : Nat} {G : Gr n} {W : WX} {Γ : List Ty} {rt : Ty}
theorem me_step {e : Expr} {m : M} {a k : Int} {j1 j2 : Nat} {p1 p2 p3 pos : Pos} (h : ME X G W Γ e .fr m) : ME X G W Γ (.Subscript e (.Slice (some (.Constant (.int a) j1 p1)) none (some (.Constant (.int k) j2 p2)) p3) pos) .fr (mUn (dStep a k) m) :=
  peI (pe_step h) fun σ H Q ⟨s, F, fp, R, q⟩ => ⟨s, F, fp, R, pbind q fun d s1 v F1 fp1 H1 R1 st1 a1 q1 => by
    obtain ⟨z, ez, q2⟩ := opt_post q1
    have r := a1.rep
    cases r with
    | @tup ds vs p ea rs =>
      unfold dStep at ez
      obtain ⟨⟨⟨hk, hk1⟩, hz⟩, rfl⟩ := if_some ez
      refine ⟨p, vs, rfl, R1.sqT ea, hk, hk1, by rw [← rs.len]; exact small_line hz, fun p' hp => ?_⟩
      obtain ⟨R2, st2⟩ := R1.fix (o := .tup (Bs.stPick vs a k)) hp
      exact q2 _ _ _ _ R2 st2 (AE.fr (.tup upd_same ((rs.pick a k).mono st2.f)))
    | _ => cases ez⟩
end
end Bk

set_option Elab.async false
set_option linter.all false
set_option maxRecDepth 100000
set_option maxHeartbeats 4000000
namespace Bk
open PySem PySem.Spec PyProof.Rows L2
variable [Cls]
/-! ### min, max, sum of ints -/
theorem ints_reads {h : Heap} : ∀ {ns : List Int} {us : List Value}, Vals (ns.map V.int) us → ReadsAll h us (ns.map PyData.int) []
  | [], _, r => by cases r; exact .nil
  | n :: ns, us, r => by
    rw [List.map_cons] at r
    cases r with
    | cons r1 r2 =>
      obtain ⟨t, rfl⟩ := r1
      exact ReadsAll.cons (as := []) (bs := []) (.int n t) (ints_reads r2)
theorem ints_alike (ns : List Int) : PySem.W.AlikeAll (ns.map PyData.int) := by
  refine ⟨fun x hx y hy => ?_, fun x hx => ?_⟩
  · obtain ⟨i, _, rfl⟩ := List.mem_map.mp hx
    obtain ⟨j, _, rfl⟩ := List.mem_map.mp hy
    simp [PySem.W.alike]
  · obtain ⟨i, _, rfl⟩ := List.mem_map.mp hx
    exact fun z => nomatch z
theorem ints_depth : ∀ ns : List Int, PyData.depthAll (ns.map PyData.int) = 0
  | [] => rfl
  | n :: ns => by
    rw [List.map_cons]
    show max (PyData.depth (.int n)) (PyData.depthAll (ns.map PyData.int)) = 0
    rw [ints_depth ns]
    rfl
theorem reads_int {h : Heap} {v : Value} {m : Int} {bs : List Addr} (r : Reads h v (.int m) bs) : ∃ t, v = .int m t := by
  cases r
  exact ⟨_, rfl⟩
def rBest (K : PySem.W.Frag) (f : Int → Int → Int) : List V → Hp → VK → Prop := fun xs H Q => ∃ (a : Addr) (n : Int) (ns : List Int), xs = [.ref a] ∧ (SqL K H a ((n :: ns).map V.int) ∨ SqT K H a ((n :: ns).map V.int)) ∧ Q (.int (ns.foldl f n)) H
section
variable {X : Cx}
theorem call_minI {k : Nat} (hr : Room k X.A) (hc : X.calm = true) : CallR X (.builtin "min") (rBest X.K min) := by
  intro pins s σ H xs us Q I r h
  obtain ⟨a, n, ns, rfl, hs, q⟩ := h
  obtain ⟨u, rfl, ru⟩ := vals1 r
  obtain rfl : u = Value.ref a := ru
  have hu : X.A.units + 1 + PyData.depthAll (.int n :: ns.map PyData.int) < cLine := by
    have := hr.un
    have e := ints_depth (n :: ns)
    rw [List.map_cons] at e
    rw [e]
    omega
  have al := ints_alike (n :: ns)
  rw [List.map_cons] at al
  rcases hs with hs | hs
  · obtain ⟨its, rv, hl, hz⟩ := I.list hs
    have rr := ints_reads (h := s.heap) rv
    rw [List.map_cons] at rr
    refine PySem.W.min_list_data (I.ok.hd hc) hl.isList (vs := its.toArray) (by rw [List.toList_toArray]; exact rr) al hu fun i v h' tk bs hi hrd kp => ?_
    rw [PySem.W.minD_ints] at hrd
    obtain ⟨t, rfl⟩ := reads_int hrd
    exact ⟨.int _, H, I.kept (t' := tk) kp, ⟨_, rfl⟩, q⟩
  · obtain ⟨its, rv, hl, hz⟩ := I.tuple hs
    have rr := ints_reads (h := s.heap) rv
    rw [List.map_cons] at rr
    refine PySem.W.min_tuple_data (I.ok.hd hc) hl (vs := its.toArray) (by rw [List.toList_toArray]; exact rr) al hu fun i v h' tk bs hi hrd kp => ?_
    rw [PySem.W.minD_ints] at hrd
    obtain ⟨t, rfl⟩ := reads_int hrd
    exact ⟨.int _, H, I.kept (t' := tk) kp, ⟨_, rfl⟩, q⟩
theorem call_maxI {k : Nat} (hr : Room k X.A) (hc : X.calm = true) : CallR X (.builtin "max") (rBest X.K max) := by
  intro pins s σ H xs us Q I r h
  obtain ⟨a, n, ns, rfl, hs, q⟩ := h
  obtain ⟨u, rfl, ru⟩ := vals1 r
  obtain rfl : u = Value.ref a := ru
  have hu : X.A.units + 1 + PyData.depthAll (.int n :: ns.map PyData.int) < cLine := by
    have := hr.un
    have e := ints_depth (n :: ns)
    rw [List.map_cons] at e
    rw [e]
    omega
  have al := ints_alike (n :: ns)
  rw [List.map_cons] at al
  rcases hs with hs | hs
  · obtain ⟨its, rv, hl, hz⟩ := I.list hs
    have rr := ints_reads (h := s.heap) rv
    rw [List.map_cons] at rr
    refine PySem.W.max_list_data (I.ok.hd hc) hl.isList (vs := its.toArray) (by rw [List.toList_toArray]; exact rr) al hu fun i v h' tk bs hi hrd kp => ?_
    rw [PySem.W.maxD_ints] at hrd
    obtain ⟨t, rfl⟩ := reads_int hrd
    exact ⟨.int _, H, I.kept (t' := tk) kp, ⟨_, rfl⟩, q⟩
  · obtain ⟨its, rv, hl, hz⟩ := I.tuple hs
    have rr := ints_reads (h := s.heap) rv
    rw [List.map_cons] at rr
    refine PySem.W.max_tuple_data (I.ok.hd hc) hl (vs := its.toArray) (by rw [List.toList_toArray]; exact rr) al hu fun i v h' tk bs hi hrd kp => ?_
    rw [PySem.W.maxD_ints] at hrd
    obtain ⟨t, rfl⟩ := reads_int hrd
    exact ⟨.int _, H, I.kept (t' := tk) kp, ⟨_, rfl⟩, q⟩
end
def D.ints : List D → Option (List Int)
  | [] => some []
  | .int i :: ds => (D.ints ds).map (i :: ·)
  | _ => none
def bBest (f : Int → Int → Int) : List D → Option D
  | [.tup ds] => match D.ints ds with
    | some (n :: ns) => some (.int (ns.foldl f n))
    | _ => none
  | [.lst ds] => match D.ints ds with
    | some (n :: ns) => some (.int (ns.foldl f n))
    | _ => none
  | _ => none
def bSum : List D → Option D
  | [.lst ds] => (D.ints ds).map fun ns => .int ns.sum
  | _ => none
theorem ints_rep {F : Hp} : ∀ {ds : List D} {ns : List Int} {vs : List V}, D.ints ds = some ns → Reps F ds vs → vs = ns.map V.int
  | [], ns, vs, h, r => by cases h; cases r; rfl
  | .int i :: ds, ns, vs, h, r => by
    unfold D.ints at h
    obtain ⟨ms, e, rfl⟩ := Option.map_eq_some_iff.mp h
    cases r with
    | cons r t =>
      cases r
      rw [ints_rep e t]
      rfl
  | .bl _ :: _, _, _, h, _ => by cases h
  | .non :: _, _, _, h, _ => by cases h
  | .str _ :: _, _, _, h, _ => by cases h
  | .tup _ :: _, _, _, h, _ => by cases h
  | .lst _ :: _, _, _, h, _ => by cases h
  | .dct _ _ :: _, _, _, h, _ => by cases h
  | .obj _ _ _ :: _, _, _, h, _ => by cases h
section
variable {X : Cx} {n : Nat} {G : Gr n} {W : WX} {Γ : List Ty} {rt : Ty}
theorem me_best {f : Int → Int → Int} {e : Expr} {ms : MA} (h : PE X e (tCB (rBest X.K f) (tMA X.K G W Γ ms))) : ME X G W Γ e .fr (mCall (bBest f) ms) := peI h fun σ H Q => cb (fun ds z vs s F fp H Q R hz rs k => by
  match ds, hz with
  | [.tup es], hz =>
    obtain ⟨v, rfl, r⟩ := rs.one
    cases r with
    | tup e t =>
      unfold bBest at hz
      simp only at hz
      split at hz
      · rename_i m ms em
        cases hz
        exact ⟨_, m, ms, rfl, .inr (by rw [← ints_rep em t]; exact R.sqT e), k _ (.int _)⟩
      · cases hz
  | [.lst es], hz =>
    obtain ⟨v, rfl, r⟩ := rs.one
    cases r with
    | lst e t =>
      unfold bBest at hz
      simp only at hz
      split at hz
      · rename_i m ms em
        cases hz
        exact ⟨_, m, ms, rfl, .inl (by rw [← ints_rep em t]; exact R.sqL e), k _ (.int _)⟩
      · cases hz)
theorem me_sum {e : Expr} {ms : MA} (h : PE X e (tCB (rSum X.K) (tMA X.K G W Γ ms))) : ME X G W Γ e .fr (mCall bSum ms) := peI h fun σ H Q => cb (fun ds z vs s F fp H Q R hz rs k => by
  match ds, hz with
  | [.lst es], hz =>
    obtain ⟨v, rfl, r⟩ := rs.one
    cases r with
    | lst e t =>
      unfold bSum at hz
      obtain ⟨ms, em, rfl⟩ := Option.map_eq_some_iff.mp hz
      exact ⟨_, ms, rfl, by rw [← ints_rep em t]; exact R.sqL e, k _ (.int _)⟩)
end
end Bk

set_option Elab.async false
set_option linter.all false
set_option maxRecDepth 100000
set_option maxHeartbeats 4000000
namespace Bk
open PySem PySem.Spec PyProof.Rows L2
variable [Cls]
/-! ### defs with defaults, called positionally -/
theorem Cal.ofD {P : Program} {w : World} {K : PySem.W.Frag} {mg : Str → Option Value} {base : Heap} {k : Nat} {x qual : Str} {params : Arguments} {body : List Stmt} {scope : Scope} {a : Addr} {fd : FuncData} {ps : List Str} {ts : List Ty} {t : Ty} {f : List D → R D} {dvs : List V} {kws : List (Str × V)}
    (F : FunD K x qual params body scope dvs kws a fd) (h : FnOk P w K mg base (L2.CX P w) k a fd ps (spM K ts t f)) (hm : mg x = some (.ref a)) (j : Nat) (hd : dvs ≠ []) (hn : dvs.length - j ≤ ps.length)
    (hb : ∀ (T : Addr) (kV doc pm : Value) (an : Option Addr) (cdv ct : Value) (us its : List Value), us.length = ps.length - (dvs.length - j) → its.length = dvs.length →
      ∃ k, bindArgs (PySem.W.fnOf x qual params body scope (.ref T) kV doc pm an cdv ct) ⟨us, []⟩ = seqItems? (.ref T) >>= k ∧ k (some its.toArray) = pure (ps.zip (us ++ its.drop j))) : Cal P w K mg base k x ts t f (dvs.drop j) := by
  obtain ⟨ds, hv, b⟩ := F.binds1 (ps := ps) (ps.length - (dvs.length - j)) j hd (by omega) hb
  exact ⟨a, fd, ps, ds, h, hm, F.kp, b, hv⟩
end Bk

set_option Elab.async false
set_option linter.all false
set_option maxRecDepth 100000
set_option maxHeartbeats 4000000
/-! sorted(x, key=lambda y: ..): the key may walk own defs -/
namespace Bs
open PySem PySem.Calls PyProof.Rows PyProof.V PySem.Spec PySem.W
section
variable {prog : Program} {w : World} {A : Around} {E : Value → Shared → Prop}
/-- the keys are asked one by one; J: what holds behind each -/
theorem ask_keys {P : PySem.Fin → Shared → Prop} {f : Value} {l kS : Addr} {e1 : Nat} {its : List Value} {z0 : Shared} (J : List Value → Shared → Prop)
    (j0 : J [] z0) (n0 : z0.heap.get? kS = some (seqObj "list" #[] 0)) (hz : its.length ≤ sizeLine)
    (turn : ∀ (ks : List Value) (u : Value) (z : Shared) (n : Nat), J ks z → its[ks.length]? = some u → z.heap.get? kS = some (seqObj "list" ks.toArray n) →
      wpAny (model prog w) A (call f [u]) (fun y z' => z'.heap.get? kS = some (seqObj "list" ks.toArray n) ∧ ∀ g : Heap, Heap.SameBut kS z'.heap g → (∃ m, g.get? kS = some (seqObj "list" (ks ++ [y]).toArray m)) → J (ks ++ [y]) { z' with heap := g }) (fun _ _ => False) z)
    (fin : ∀ (ks : List Value) (z : Shared) (n : Nat), J ks z → ks.length = its.length → z.heap.get? kS = some (seqObj "list" ks.toArray n) → wpAny (model prog w) A (ksk_end l false its.toArray e1 (.ref kS) ks.toArray) P E z) :
    wpAny (model prog w) A (ksk_rest l f false its.toArray e1 (.ref kS)) P E z0 := by
  unfold ksk_rest
  refine wpAny_bind (wpAny_rule ?_)
  first
    | rw [List.forIn_toArray]
    | (rw [← Array.forIn_toList]; simp only [List.toList_toArray])
  refine wpAny_bind (ksk_fold (fun i z => ∃ (ks : List Value) (n : Nat), ks.length = i ∧ J ks z ∧ z.heap.get? kS = some (seqObj "list" ks.toArray n)) its 0 z0 ⟨[], 0, rfl, j0, n0⟩ (fun j u z hu ⟨ks, n, el, hj, nk⟩ => ?_) fun z ⟨ks, n, el, hj, nk⟩ => ?_)
  · have el : ks.length = j := by omega
    subst el
    have hlt : ks.length < its.length := (List.getElem?_eq_some_iff.mp hu).1
    refine wpAny_bind (wpAny_attempt (wpAny_mono (turn ks u z n hj hu nk) (fun y z' hy => ?_) fun _ _ q => q.elim))
    obtain ⟨nk', go⟩ := hy
    have sb := Heap.SameBut.update z'.heap kS (Obj.mapSeq (·.push y))
    obtain ⟨m, hm⟩ : ∃ m, (z'.heap.update kS (Obj.mapSeq (·.push y))).get? kS = some (seqObj "list" (ks.toArray.push y) m) := ⟨_, get?_update_seq nk' (·.push y)⟩
    have ep : ks.toArray.push y = (ks ++ [y]).toArray := by simp
    rw [ep] at hm
    refine wpAny_bind (listUpdate_at nk' rfl ?_ (by simp; omega) (by simp; omega))
    exact wpAny_pure ⟨rfl, ks ++ [y], m, by simp, go _ sb ⟨m, hm⟩, hm⟩
  · refine wpAny_bind (listItems_at nk rfl ?_)
    exact fin ks z n hj (by omega) nk
/-- the sort of the list at l, from its start -/
theorem keyed_run {P : PySem.Fin → Shared → Prop} {f : Value} {l : Addr} {n : Nat} {its : List Value} {z : Shared} (J : Addr → Nat → List Value → Shared → Prop)
    (ho : z.heap.get? l = some (seqObj "list" its.toArray n)) (hz : its.length ≤ sizeLine)
    (j0 : ∀ (kS : Addr) (e1 : Nat) (g : Heap), (∀ b o, b ≠ l → z.heap.get? b = some o → g.get? b = some o) → z.heap.objs.size ≤ kS → g.get? l = some (seqObj "list" #[] e1) → g.get? kS = some (seqObj "list" #[] 0) → J kS e1 [] { z with heap := g })
    (turn : ∀ (kS : Addr) (e1 : Nat) (ks : List Value) (u : Value) (z1 : Shared) (n : Nat), J kS e1 ks z1 → its[ks.length]? = some u → z1.heap.get? kS = some (seqObj "list" ks.toArray n) →
      wpAny (model prog w) A (call f [u]) (fun y z' => z'.heap.get? kS = some (seqObj "list" ks.toArray n) ∧ ∀ g : Heap, Heap.SameBut kS z'.heap g → (∃ m, g.get? kS = some (seqObj "list" (ks ++ [y]).toArray m)) → J kS e1 (ks ++ [y]) { z' with heap := g }) (fun _ _ => False) z1)
    (fin : ∀ (kS : Addr) (e1 : Nat) (ks : List Value) (z1 : Shared), J kS e1 ks z1 → ks.length = its.length → z1.heap.get? l = some (seqObj "list" #[] e1) ∧ kS ≠ l ∧ ∃ kz : List PyData, PySem.W.EachIs (fun v k => ∃ as, Reads z1.heap v k as) ks kz ∧ PySem.W.AllAlike kz ∧ PySem.W.Sortable kz ∧ (∀ d ∈ kz, A.units + d.depth < cLine) ∧
      ∀ (g : Heap) (tk c : Nat) (out : List Value), (∀ b o, b ≠ l → b ≠ kS → z1.heap.get? b = some o → g.get? b = some o) → g.get? l = some (seqObj "list" out.toArray c) → PySem.W.KeyedOut false kz its out → P (.done (.ret .none)) { z1 with heap := g, toks := tk }) :
    wpAny (model prog w) A (ksk_tree l f false) P E z := by
  have hl : l < z.heap.objs.size := Heap.lt_size ho
  obtain ⟨e1, ho1⟩ : ∃ e1, (z.heap.update l (Obj.mapSeq fun _ => (#[] : Array Value))).get? l = some (seqObj "list" #[] e1) := ⟨_, get?_update_seq ho fun _ => #[]⟩
  unfold ksk_tree
  refine wpAny_bind (listItems_at ho rfl ?_)
  refine wpAny_bind (listUpdate_at ho rfl ?_ (by rw [List.size_toArray]; exact hz) (Nat.zero_le _))
  refine wpAny_bind (seqEpoch_at ho1 rfl ?_)
  refine wpAny_bind (wpAny_newTuple ?_ (by show its.length ≤ _; exact hz))
  refine wpAny_bind (wpAny_newList ?_ (Nat.zero_le _))
  refine wpAny_holding ?_
  have hs : ((z.heap.update l (Obj.mapSeq fun _ => (#[] : Array Value))).push (seqObj "tuple" its.toArray 0)).objs.size = z.heap.objs.size + 1 := by rw [size_push', Heap.size_update]
  refine ask_keys (J ((z.heap.update l (Obj.mapSeq fun _ => (#[] : Array Value))).push (seqObj "tuple" its.toArray 0)).objs.size e1) (j0 _ _ _ (fun b o hb q => ?_) (by rw [hs]; omega) ?_ ?_) ?_ hz (turn _ _) fun ks z1 m hj hlen nk => ?_
  · exact sortingHeap_old hb q
  · exact Heap.get?_push_of_some _ (Heap.get?_push_of_some _ ho1)
  · exact Heap.get?_push_size _ rfl
  · exact Heap.get?_push_size _ rfl
  · obtain ⟨na, hne, kz, hk, al, so, hu, out⟩ := fin _ _ ks z1 hj hlen
    generalize ((z.heap.update l (Obj.mapSeq fun _ => (#[] : Array Value))).push (seqObj "tuple" its.toArray 0)).objs.size = kS at *
    have hidden : (L2.hidT z1.heap (fun b => if b = kS then some (.lst []) else none)).get? kS = none := by
      cases q : (L2.hidT z1.heap (fun b => if b = kS then some (.lst []) else none)).get? kS with
      | none => rfl
      | some o =>
        have h2 := (L2.of_hidT q).2
        rw [if_pos rfl] at h2
        cases h2
    have old : ∀ b o, b ≠ kS → z1.heap.get? b = some o → (L2.hidT z1.heap (fun b => if b = kS then some (.lst []) else none)).get? b = some o := fun b o hb q => L2.hidT_get q (if_neg hb)
    refine PySem.W.keyH_end (κ := PySem.W.dataKind z1.heap kz) (h₁ := L2.hidT z1.heap (fun b => if b = kS then some (.lst []) else none)) (fun b o _ q => (L2.of_hidT q).1) hidden nk na hne (PySem.W.SortsAt.data (s := z1) (by rw [List.toList_toArray]; exact hk) al so hu) (by rw [List.size_toArray]; exact hlen) hz fun g tk c kp hg => ?_
    rw [List.toList_toArray] at hg
    exact out g tk c _ (fun b o h1 h2 q => kp b o h1 (old b o h2 q)) hg ⟨z1.heap, ks, al, rfl, hk⟩
/-- sorted of a list by a key: down to the sort of its copy -/
theorem keyed_list {l0 q0 : Addr} {its : List Value} {Q : Value → Shared → Prop} {s : Shared} (hl : s.heap.IsList l0 its.toArray) (hz : its.length ≤ sizeLine)
    (h : ∀ (l n : Nat) (g : Heap) (tk : Nat) (E' : Value → Shared → Prop), (∀ b o, s.heap.get? b = some o → g.get? b = some o) → s.heap.objs.size ≤ l → g.get? l = some (seqObj "list" its.toArray n) → wpAny (model prog w) A.in1.in1 (ksk_tree l (.ref q0) false) (fun r s' => r = .done (.ret .none) ∧ Q (.ref l) s') E' { s with heap := g, toks := tk }) :
    wpAny (model prog w) A (call (.builtin "sorted") [.ref l0] [(Str.ofString "key", .ref q0)]) Q E s :=
  PySem.W.sorted_of_sort hl hz (ksk_s1 _ _) (fun _ => ksk_l1 _ _) fun E' => h (s.heap.objs.size + 1) 0 (PySem.W.copyHeap s.heap its) s.toks E' (fun b o => PySem.W.copyHeap_old) (Nat.le_succ _) (PySem.W.copyHeap_at s.heap its)
/-- .. of a thing that is walked -/
theorem keyed_walk {r q0 : Addr} {n : Nat} {PP : Nat → Value → Prop} {OK : Heap → Prop} {Q : Value → Shared → Prop} {s : Shared} (S : KdlSrc prog w "dict" r r n PP OK) (hh : A.handled = none) (ok : OK s.heap) (hn : n ≤ sizeLine)
    (h : ∀ (its : List Value) (l m : Nat) (g : Heap) (tk : Nat) (E' : Value → Shared → Prop), its.length = n → (∀ j v, its[j]? = some v → PP j v) → (∀ b o, s.heap.get? b = some o → g.get? b = some o) → s.heap.objs.size ≤ l → g.get? l = some (seqObj "list" its.toArray m) →
      wpAny (model prog w) A.in1.in1 (ksk_tree l (.ref q0) false) (fun r s' => r = .done (.ret .none) ∧ Q (.ref l) s') E' { s with heap := g, toks := tk }) :
    wpAny (model prog w) A (call (.builtin "sorted") [.ref r] [(Str.ofString "key", .ref q0)]) Q E s := by
  refine call_function_entry_kw kind_sorted plain_sorted entry_sorted (ksk_s1 _ _) (?_ : wpAny _ _ (Builtin.«sorted» _) _ _ _)
  unfold Builtin.«sorted»
  refine wpAny_bind (m := checkCount "sorted" 1 1 _) (wpAny_pure (wpAny_bind (collect_walk (A := A.in1) S hh ok hn fun h1 tk acc kp hsz hacc => ?_)))
  have e1 : acc.toList.length = n := by rw [Array.length_toList]; exact hacc.1
  refine wpAny_bind (wpAny_newList (?_ : wpAny _ _ _ _ _ _) (by rw [e1]; exact hn))
  have at1 : (h1.push (seqObj "list" acc.toList.toArray 0)).get? h1.objs.size = some (seqObj "list" acc.toList.toArray 0) := Heap.get?_push_size _ rfl
  refine wpAny_bind (wpAny_holding (wpAny_call_entry_kw slot_list_sort ⟨_, at1, rfl⟩ entry_list_sort ?_ (ksk_l1 _ _)))
  refine wpAny_mono (h acc.toList h1.objs.size 0 _ tk _ e1 (fun j v e => hacc.2 j v (by rw [← Array.getElem?_toList]; exact e)) (fun b o e => Heap.get?_push_of_some _ (kp b o e)) (Nat.le_of_lt hsz) at1) (fun r s' hr => ?_) fun _ _ e => e
  obtain ⟨rfl, hq⟩ := hr
  exact ⟨_, rfl, wpAny_pure ⟨_, rfl, hq⟩⟩
end
end Bs

set_option Elab.async false
set_option linter.all false
set_option maxRecDepth 100000
set_option maxHeartbeats 4000000
namespace Bk
open PySem PySem.Spec PyProof.Rows L2
variable [Cls]
/-! ### a lambda of one parameter: its names, its frame -/
structure LmScope (N : List Str) (a : Str) (sc scope : Scope) : Prop where
  kd : scope.kind = .function
  nco : scope.isCoroutine = false
  ngen : scope.isGenerator = false
  hd : N[0]? = some a
  pr : scope.names.lookup a = some .local
  nc : ∀ y ∈ scope.names, y.2 ≠ .cell
  fr : ∀ y ∈ scope.names, y.2 = .free → sc.names.lookup y.1 = some .cell ∨ sc.names.lookup y.1 = some .free
  tl : ∀ i y, N[i + 1]? = some y → scope.names.lookup y = some .free
def lmScopeB (N : List Str) (a : Str) (sc scope : Scope) : Bool :=
  decide (scope.kind = .function) && (!scope.isCoroutine && (!scope.isGenerator && (decide (N[0]? = some a) && (decide (scope.names.lookup a = some .local) &&
    ((scope.names.all fun y => !decide (y.2 = .cell) && (!decide (y.2 = .free) || (decide (sc.names.lookup y.1 = some .cell) || decide (sc.names.lookup y.1 = some .free)))) &&
      (N.tail.all fun y => decide (scope.names.lookup y = some .free)))))))
theorem lmScope_by {N : List Str} {a : Str} {sc scope : Scope} (h : lmScopeB N a sc scope = true) : LmScope N a sc scope := by
  unfold lmScopeB at h
  simp only [Bool.and_eq_true, Bool.or_eq_true, Bool.not_eq_true', decide_eq_true_eq, decide_eq_false_iff_not, List.all_eq_true] at h
  obtain ⟨h1, h2, h3, h4, h5, h6, h7⟩ := h
  refine ⟨h1, h2, h3, h4, h5, fun y hy => (h6 y hy).1, fun y hy e => ?_, fun i y e => h7 y ?_⟩
  · rcases (h6 y hy).2 with z | z
    · exact absurd e z
    · exact z
  · cases N with
    | nil => simp at e
    | cons b N => exact List.mem_of_getElem? (i := i) (by simpa using e)
/-- the lambda's object at f -/
abbrev lmObj (X : Cx) (params : Arguments) (body : Expr) (scope : Scope) (pm : Value) (c' : Addr) (ctv : Value) : Obj := PySem.W.kla_obj "<lambda>" (X.env.qual ++ "<lambda>") params body scope (cloFrom X.env.cells scope.names []) pm c' ctv
abbrev lmEnv (X : Cx) (scope : Scope) (L f c' : Addr) : PySem.Env := PySem.W.envX (X.env.qual ++ "<lambda>") scope L f (.ref c') (cloFrom X.env.cells scope.names [])
/-- the context of its body: N its names -/
def lmCx (X : Cx) (N : List Str) (A : Around) (outer : List PySem.Env) (s : Shared) (H : Hp) (scope : Scope) (f c' : Addr) : Cx :=
  { prog := X.prog, w := X.w, K := X.K, mg := X.mg, base := X.base, A := A.deeper (lmEnv X scope s.heap.objs.size f c'), N := N, s_0 := s, H_0 := H, env := lmEnv X scope s.heap.objs.size f c', outer := outer, stack := lmEnv X scope s.heap.objs.size f c' :: outer,
    ex := [], fn := fun _ => false, calm := true, pn := [],
    xe := fun e z => wpAny (model X.prog X.w) (A.deeper (lmEnv X scope s.heap.objs.size f c')) (leaving (lmEnv X scope s.heap.objs.size f c') e) (fun _ z2 => L2.CX X.prog X.w outer H s (fun _ _ _ => False) e z2) (fun e2 z2 => L2.CX X.prog X.w outer H s (fun _ _ _ => False) e2 z2) z }
/-- what the lambda's frame holds: its argument, the captured slots -/
def capS (σ : Sl) (js : List Nat) : Sl := js.map fun j => (σ[j]?).join
section
variable {X : Cx} {pins : List (Addr × Obj)} {σ : Sl} {H : Hp} {s : Shared} {N : List Str} {a : Str} {scope : Scope} {f c' : Addr} {js : List Nat}
theorem LmScope.cells (L : LmScope N a X.env.scope scope) (ok : X.Ok) : ∀ y ∈ scope.names, y.2 = .free → ∃ c, X.env.cells.lookup y.1 = some c := fun y hy e => (L.fr y hy e).elim (fun k => ok.has _ (.inl k)) fun k => ok.has _ (.inr k)
theorem lm_start {g : Heap} {tk : Nat} {x : V} {u : Value} (I : Inv X pins σ H s) (L : LmScope N a X.env.scope scope) (hN : js.map (X.N[·]?) = N.tail.map some) (A : Around) (hA : A.frames = some X.stack) (hd : A.handled = none) (rx : RelV x u)
    (hns : g.Ns s.heap.objs.size fun y => ([(a, u)] : List (Str × Value)).reverse.lookup y) (kp : ∀ b o, s.heap.get? b = some o → g.get? b = some o) :
    Inv (lmCx X N A X.stack s H scope f c') [] (some x :: capS σ js) H { s with heap := g, toks := tk } := by
  have hfree := L.cells I.ok
  have e0 := I.env0
  have up : ∀ {y c}, (cloFrom X.env.cells scope.names []).lookup y = some c → X.env.cells.lookup y = some c := fun {y c} e => by
    rcases cloFrom_mem (PySem.mem_of_lookup e) with hm | ⟨h1, h2⟩
    · cases hm
    · obtain ⟨c1, hc⟩ := hfree _ h1 rfl
      have hc : X.env.cells.lookup y = some c1 := hc
      rw [hc] at h2
      rw [hc, h2]
      rfl
  have down : ∀ {y}, scope.names.lookup y = some .free → ∃ c, (cloFrom X.env.cells scope.names []).lookup y = some c := fun {y} hl => mem_lookup (cloFrom_has (cells := X.env.cells) (acc := []) (PySem.mem_of_lookup hl))
  have nex : ∀ b : Addr, b ∉ (lmCx X N A X.stack s H scope f c').ex := fun b z => absurd (show b ∈ ([] : List Addr) from z) (by simp)
  have visF : ∀ {y}, scope.names.lookup y = some .free → Vis X.env.scope y := fun {y} k => (L.fr _ (PySem.mem_of_lookup k) rfl).elim (fun q => .inr (.inl q)) fun q => .inr (.inr q)
  have noCell : ∀ y, scope.names.lookup y = some .cell → False := fun y k => L.nc _ (PySem.mem_of_lookup k) rfl
  have ok : (lmCx X N A X.stack s H scope f c').Ok := by
    constructor
    case mod => exact e0.mod
    case kind => exact L.kd
    case glob => rfl
    case blt => rfl
    case above => exact Nat.le_refl _
    case inj => exact fun y z c e1 e2 => I.ok.inj y z c (up e1) (up e2)
    case has =>
      intro y hy
      rcases (show scope.names.lookup y = some .cell ∨ scope.names.lookup y = some .free from hy) with k | k
      · exact (noCell y k).elim
      · exact down k
    case cab => exact fun y c z _ => Bool.noConfusion (show false = true from z)
    case hd => exact fun _ => hd
    case frames => exact Around.frames_deeper hA
    case stk => exact .inr ⟨rfl, rfl⟩
    case exf => exact fun b z => absurd z (nex b)
    case bs => exact e0.bs
    case bsz => exact e0.bsz
    case noex => exact fun b _ _ => nex b
    case exfs => exact fun b z => absurd z (nex b)
    case funs => exact e0.funs
    case frf => exact e0.frf
  constructor
  case ok => exact ok
  case os => rfl
  case bare => exact e0.bare
  case base => exact Un.kept kp
  case loc =>
    refine ⟨_, hns, fun i y v e1 e2 e3 => ?_⟩
    have e1 : N[i]? = some y := e1
    cases i with
    | zero =>
      rw [L.hd] at e1
      cases e1
      have e2 : some (some x) = some (some v) := e2
      cases e2
      refine ⟨u, rx, .inl ⟨L.pr, ?_⟩⟩
      simp [List.lookup_cons]
    | succ i =>
      have kf := L.tl i y e1
      have e2 : (capS σ js)[i]? = some (some v) := by simpa using e2
      unfold capS at e2
      rw [List.getElem?_map] at e2
      obtain ⟨j, ej, e4⟩ := Option.map_eq_some_iff.mp e2
      have q : (js.map (X.N[·]?))[i]? = (N.tail.map some)[i]? := by rw [hN]
      have et : N.tail[i]? = some y := by
        cases N with
        | nil => simp at e1
        | cons b N => simpa using e1
      rw [List.getElem?_map, List.getElem?_map, ej, et] at q
      have q : X.N[j]? = some y := Option.some.inj q
      have e5 : σ[j]? = some (some v) := by
        cases z : σ[j]? with
        | none => rw [z] at e4; cases e4
        | some o => rw [z] at e4; exact congrArg some e4
      obtain ⟨m, _, hl⟩ := I.loc
      obtain ⟨w, rw_, lk⟩ := hl j y v q e5 (visF kf)
      obtain ⟨c2, h2⟩ := down kf
      refine ⟨w, rw_, .inr ⟨.inr kf, c2, h2, ?_⟩⟩
      have h3 := up h2
      rcases lk with ⟨k2, _⟩ | ⟨_, c3, h4, ⟨o, o1, o2⟩⟩
      · have k2 : X.env.scope.names.lookup y = some .local := k2
        rcases L.fr _ (PySem.mem_of_lookup kf) rfl with k3 | k3
        · rw [show X.env.scope.names.lookup y = _ from k3] at k2; cases k2
        · rw [show X.env.scope.names.lookup y = _ from k3] at k2; cases k2
      · rw [h3] at h4
        cases h4
        exact ⟨o, kp _ _ o1, o2⟩
  case cell =>
    intro y c e
    obtain ⟨v, o, o1, o2⟩ := I.cell y c (up e)
    exact ⟨v, o, kp _ _ o1, o2⟩
  case free => exact I.hok.fresh (Nat.le_refl _)
  case freeC => exact fun y c e => I.freeC y c (up e)
  case pin => exact fun p hp => absurd (show p ∈ ([] : List (Addr × Obj)) ++ [] from hp) (by simp)
  case hok => exact I.hok.kept kp
  case len =>
    show (some x :: capS σ js).length = N.length
    unfold capS
    have q := congrArg List.length hN
    rw [List.length_map, List.length_map, List.length_tail] at q
    have z : 0 < N.length := (List.getElem?_eq_some_iff.mp L.hd).1
    rw [List.length_cons, List.length_map]
    omega
/-- one call of it -/
theorem lm_turn {k : Nat} {params : Arguments} {body : Expr} {pm ctv : Value} {tb : TE} {x : V} {u : Value} {Q : VK} (I : Inv X pins σ H s) (L : LmScope N a X.env.scope scope) (hN : js.map (X.N[·]?) = N.tail.map some) (A : Around) (hA : A.frames = some X.stack) (hr : Room (k + 1) A)
    (hf : s.heap.get? f = some (lmObj X params body scope pm c' ctv)) (hc : H c' = some (LamX.CodeO c' (X.env.qual ++ "<lambda>"))) (hb : ∀ u : Value, bindArgs (PySem.W.kla_fn "<lambda>" (X.env.qual ++ "<lambda>") params body scope (cloFrom X.env.cells scope.names []) pm (.ref c') ctv) ⟨[u], []⟩ = pure [(a, u)])
    (hbody : ∀ (A : Around) (outer : List PySem.Env) (s : Shared) (H : Hp), Room k (A.deeper (lmEnv X scope s.heap.objs.size f c')) → PE (lmCx X N A outer s H scope f c') body tb) (rx : RelV x u) (h : tb (some x :: capS σ js) H Q) :
    wpAny (model X.prog X.w) A (call (.ref f) [u]) (fun y z => ∃ v H', Inv X pins σ H' z ∧ RelV v y ∧ Q v H' ∧ Un (frs X.stack) [] H H' s.heap z.heap) (fun _ _ => False) s := by
  obtain ⟨⟨oc, vs, t, e1, e2, e3⟩, _, _⟩ := I.hok c' _ hc
  have run : codeAny (model X.prog X.w) A (.call (.ref f) ⟨[u], []⟩) (CR (L2.CX X.prog X.w) X.stack X.prog X.w H s Q fun _ _ _ => False) s := by
    refine PySem.W.kla_callFunE hr.depth hf rfl L.nco L.ngen rfl ⟨c', oc, vs, t, rfl, e1, e2, e3⟩ ?_
    rw [hb u]
    refine wpAny_pure (wpAny_newFunctionEnv L.nc (fun y hy => ?_) (fun g hns sb => ⟨I.nolimit.fresh _ sb, ?_⟩) L.kd)
    · rw [List.mem_singleton.mp hy]; exact L.pr
    · show codeAny _ _ (.expr body (lmEnv X scope s.heap.objs.size f c')) _ _
      have kp : ∀ b o, s.heap.get? b = some o → g.get? b = some o := fun b o e => sb.extBut b o (Nat.ne_of_lt (Heap.lt_size e)) (Heap.get?_push_of_some _ e)
      have J := lm_start (f := f) (c' := c') (tk := s.toks + ([(a, u)] : List (Str × Value)).length) I L hN A hA hr.hd rx hns kp
      refine PySem.W.kla_codeExpr (wpAny_mono ((hbody A X.stack s H (hr.deeper _)).run [] _ _ H Q J h) (fun y z hz => ?_) fun _ _ e => e)
      obtain ⟨v, H', J', rv, q⟩ := hz
      exact ⟨v, H', J'.os, J'.bare, J'.base, J'.hok, rv, q⟩
  refine wpAny_call (codeAny_mono run fun r z hz => ?_)
  cases r with
  | error e =>
    obtain ⟨_, _, _, _, _, _, _, _, _, _, _, _, _, z⟩ := hz
  | ok fl =>
    cases fl with
    | ret y =>
      obtain ⟨v, H', os, bare, un, hok, rv, q⟩ := hz
      exact ⟨v, H', I.call' os un hok bare (fun b z => absurd z (by simp)), rv, q, un⟩
    | next => exact False.elim hz
    | brk => exact False.elim hz
    | cont => exact False.elim hz
end
end Bk

set_option Elab.async false
set_option linter.all false
set_option maxRecDepth 100000
set_option maxHeartbeats 4000000
namespace Bk
open PySem PySem.Spec PyProof.Rows L2
variable [Cls]
/-- from H to H1 nothing but the tables has changed -/
structure LmStp (H H1 : Hp) : Prop where
  keep : ∀ b o, H b = some o → (∀ q ∈ Cls.tabs, b ≠ q.1) → H1 b = some o
  tab : ∀ F, TbOk F H → TbOk F H1
  there : ∀ b, H b ≠ none → H1 b ≠ none
section
variable {X : Cx} {pins : List (Addr × Obj)} {σ : Sl} {H : Hp} {s : Shared}
/-- things that nobody tracks, newer than the frame, are changed -/
theorem inv_loose {ch : List Addr} {g : Heap} {tk n0 : Nat} (I : Inv X pins σ H s) (hs : X.s_0.heap.objs.size ≤ n0) (hl : X.env.locals < n0) (hc : ∀ x c, X.env.cells.lookup x = some c → c < n0) (hp : ∀ p ∈ X.pn ++ pins, p.1 < n0) (hb : ∀ b ∈ ch, n0 ≤ b ∧ H b = none)
    (k : ∀ b o, b ∉ ch → s.heap.get? b = some o → g.get? b = some o) : Inv X pins σ H { s with heap := g, toks := tk } := by
  have nt : ∀ b u, H b = some u → b ∉ ch := fun b u e z => by rw [(hb b z).2] at e; cases e
  refine I.step (ch := ch) (g' := s.gens) (d' := s.drawn) (fun b q => ?_) (fun b o _ _ n e _ => k b o n e) (fun b o _ _ n e _ => ⟨o.slots, k b o n e⟩) (fun _ _ _ _ e => e) (fun b o n e => ⟨o, k b o n e⟩) (fun _ _ e => e) (fun _ _ _ e => e) (fun _ ps e => ⟨#[], by rw [Array.append_empty]; exact e⟩) (fun m hm => ?_) (fun b u e => ?_) I.bare
  · have ge := (hb b q).1
    exact ⟨.inr (Nat.le_trans hs ge), Nat.ne_of_gt (Nat.lt_of_lt_of_le hl ge), fun x c e => Nat.ne_of_lt (Nat.lt_of_lt_of_le (hc x c e) ge), fun p q => Nat.ne_of_lt (Nat.lt_of_lt_of_le (hp p q) ge)⟩
  · obtain ⟨o, es, ep, e, d, r⟩ := hm
    exact ⟨o, es, ep, k _ _ (fun z => absurd hl (Nat.not_lt.mpr (hb _ z).1)) e, d, r⟩
  · exact (I.hok b u e).stay (fun d v hd q => k d v (hd.elim (fun z => by rw [z]; exact nt b u e) fun z => nt d _ z) q) (fun _ q => q) fun _ _ q => q
/-- .. and one of them is tracked -/
theorem inv_track {l : Addr} {xs : List V} {out : List Value} {c : Nat} (I : Inv X pins σ H s) (hn : H l = none) (hz : xs.length ≤ sizeLine) (rv : Vals xs out) (ho : s.heap.get? l = some (seqObj "list" out.toArray c)) (n0 : Nat) (hs : X.s_0.heap.objs.size ≤ n0) (hl : X.env.locals < n0) (hc : ∀ x c, X.env.cells.lookup x = some c → c < n0) (hp : ∀ p ∈ X.pn ++ pins, p.1 < n0) (h0 : n0 ≤ l) :
    Inv X pins σ (upd H l (.lst xs)) s := by
  have ne : ∀ b u, H b = some u → b ≠ l := fun b u e z => by rw [z, hn] at e; cases e
  refine I.step (ch := [l]) (g' := s.gens) (d' := s.drawn) (t' := s.toks) (h' := s.heap) (fun b q => ?_) (fun b o _ _ _ e _ => e) (fun b o _ _ _ e _ => ⟨o.slots, e⟩) (fun b o n _ e => ?_) (fun b o _ e => ⟨o, e⟩) (fun b ys e => ?_) (fun b o u e => ?_) (fun b ps e => ⟨#[], ?_⟩) (fun m hm => hm) (fun b u e => ?_) I.bare
  · rw [List.mem_singleton.mp q]
    exact ⟨.inr (Nat.le_trans hs h0), Nat.ne_of_gt (Nat.lt_of_lt_of_le hl h0), fun x c e => Nat.ne_of_lt (Nat.lt_of_lt_of_le (hc x c e) h0), fun p q => Nat.ne_of_lt (Nat.lt_of_lt_of_le (hp p q) h0)⟩
  · rw [upd_ne (fun z => n (by rw [z]; exact List.mem_singleton.mpr rfl))]; exact e
  · rw [upd_ne (ne b _ e)]; exact e
  · rw [upd_ne (ne b _ e)]; exact e
  · rw [upd_ne (ne b _ e), Array.append_empty]; exact e
  · by_cases z : b = l
    · subst z
      rw [upd_same] at e
      cases e
      exact ⟨hz, out, c, rv, ho⟩
    · rw [upd_ne z] at e
      exact (I.hok b u e).stay (fun d v _ q => q) (fun d q => by rw [upd_ne (ne d _ q)]; exact q) fun d ys q => by rw [upd_ne (ne d _ q)]; exact q
/-- a lambda is made -/
theorem lam_new {P c : Addr} {F : Hp} {params : Arguments} {body : Expr} {scope : Scope} {pos : Pos} {E : Value → Shared → Prop} {Q : Value → Shared → Prop} (I : Inv X pins σ H s) (B : LamX.TabB X.base X.mg c P) (hcode : X.env.code = .ref c) (hm : (P, X.env.qual ++ "<lambda>") ∈ Cls.tabs) (hone : ∀ q ∈ Cls.tabs, q.1 = P → q.2 = X.env.qual ++ "<lambda>")
    (tb : TbOk F H) (hdef : defaultsOf params X.env = ([], [])) (hfree : ∀ y ∈ scope.names, y.2 = .free → ∃ c, X.env.cells.lookup y.1 = some c)
    (h : ∀ (f c' : Addr) (pm ctv : Value) (H1 : Hp) (z : Shared), Inv X pins σ H1 z → LmStp H H1 → s.heap.objs.size ≤ f → f < z.heap.objs.size → z.heap.get? f = some (lmObj X params body scope pm c' ctv) → H1 f = none → H1 c' = some (LamX.CodeO c' (X.env.qual ++ "<lambda>")) → Q (.ref f) z) :
    wpAny (model X.prog X.w) X.A (eval (.Lambda params body scope pos) X.env) Q E s := by
  obtain ⟨ps, hP, trip, found⟩ := tb.1 _ hm
  refine PySem.W.kla_eval hdef ?_
  have hbi : s.heap.BuiltinsAt X.mg P := B.bm.keeps I.bk
  have hPo : s.heap.get? P = some { cls := .none, data := .fields ps } := I.hok P _ hP
  cases am : codeAmong pos ps.toList with
  | some cv =>
    obtain ⟨c', rfl, hco⟩ := found pos cv am
    refine PySem.W.kla_makeFunctionHit (mg := X.mg) (c := c) (P := P) (ps := ps) (closure_ok hfree) I.ok.glob (I.mod.glob.keeps I.bk) hcode (B.code.keeps I.bk) hPo trip am hbi fun ctv g tk kp sz => ?_
    have J : Inv X pins σ H { s with heap := g.push (lmObj X params body scope ((X.mg "__name__").getD .none) c' ctv), toks := tk } := I.kept fun b o e => Heap.get?_push_of_some _ (kp b o e)
    refine h g.objs.size c' ((X.mg "__name__").getD .none) ctv H _ J ⟨fun _ _ e _ => e, fun _ t => t, fun _ e => e⟩ sz ?_ (Heap.get?_push_size _ rfl) (I.hok.fresh sz) hco
    show g.objs.size < (g.push _).objs.size
    rw [Heap.size_push]
    exact Nat.lt_succ_self _
  | none =>
    refine PySem.W.kla_makeFunction (mg := X.mg) (c := c) (P := P) (ps := ps) (closure_ok hfree) I.ok.glob (I.mod.glob.keeps I.bk) hcode (B.code.keeps I.bk) hPo trip am B.gP hbi fun c' ctv g tk kp cge clt crec gP => ?_
    obtain ⟨_, oc, vs, t, ⟨⟩, o1, o2, o3⟩ := crec
    have nC : H c' = none := I.hok.fresh cge
    have J := LamX.inv_table (t' := tk) (more := #[rawInt pos.line, rawInt pos.col, .ref c']) (h' := g.push (lmObj X params body scope ((X.mg "__name__").getD .none) c' ctv)) I hP (fun b o hb e => Heap.get?_push_of_some _ (kp b o hb e)) (Heap.get?_push_of_some _ gP) cge ⟨oc, vs, t, Heap.get?_push_of_some _ o1, o2, o3⟩
    have eL : (ps ++ #[rawInt pos.line, rawInt pos.col, .ref c']).toList = ps.toList ++ [rawInt pos.line, rawInt pos.col, .ref c'] := by simp
    have nPc : P ≠ c' := ne_of_none hP nC
    have other : ∀ b, b ≠ P → b ≠ c' → upd (upd H P (.tbl (ps ++ #[rawInt pos.line, rawInt pos.col, .ref c']))) c' (LamX.CodeO c' (X.env.qual ++ "<lambda>")) b = H b := fun b h1 h2 => by rw [upd_ne h2, upd_ne h1]
    have old : ∀ b o, H b = some o → b ≠ P → upd (upd H P (.tbl (ps ++ #[rawInt pos.line, rawInt pos.col, .ref c']))) c' (LamX.CodeO c' (X.env.qual ++ "<lambda>")) b = some o := fun b o e hb => (other b hb (ne_of_none e nC)).trans e
    have codes : ∀ d q, H d = some (LamX.CodeO d q) → d ≠ P := fun d q e z => by
      rw [z, hP] at e
      exact LamX.codeO_ne ps (Option.some.inj e).symm
    refine h g.objs.size c' ((X.mg "__name__").getD .none) ctv _ _ J ⟨fun b o e n => old b o e (n _ hm), fun F' t' => ⟨fun p hp => ?_, t'.2⟩, fun b e => ?_⟩ (Nat.le_trans cge (Nat.le_of_lt clt)) ?_ (Heap.get?_push_size _ rfl) ?_ upd_same
    · by_cases hb : p.1 = P
      · have e2 := hone p hp hb
        rw [e2, hb]
        refine ⟨_, (upd_ne nPc).trans upd_same, by rw [eL]; exact PySem.TriplesOk_snoc _ _ _ _ trip, fun p' cv hcv => ?_⟩
        rw [eL] at hcv
        rcases LamX.among_app _ trip hcv with z | z
        · obtain ⟨d, d1, d2⟩ := found p' cv z
          exact ⟨d, d1, old d _ d2 (codes d _ d2)⟩
        · exact ⟨c', z, upd_same⟩
      · obtain ⟨qs, q1, q2, q3⟩ := t'.1 p hp
        refine ⟨qs, old _ _ q1 hb, q2, fun p' cv hcv => ?_⟩
        obtain ⟨d, d1, d2⟩ := q3 p' cv hcv
        exact ⟨d, d1, old d _ d2 (codes d _ d2)⟩
    · by_cases z1 : b = c'
      · rw [z1, upd_same]; exact Option.some_ne_none _
      · by_cases z2 : b = P
        · rw [z2, upd_ne nPc, upd_same]; exact Option.some_ne_none _
        · rw [other b z2 z1]; exact e
    · show g.objs.size < (g.push _).objs.size
      rw [Heap.size_push]
      exact Nat.lt_succ_self _
    · have n1 : g.objs.size ≠ c' := Nat.ne_of_gt clt
      have n2 : g.objs.size ≠ P := Nat.ne_of_gt (Nat.lt_of_lt_of_le (Heap.lt_size hPo) (Nat.le_trans cge (Nat.le_of_lt clt)))
      rw [other _ n2 n1]
      exact I.hok.fresh (Nat.le_trans cge (Nat.le_of_lt clt))
end
end Bk

set_option Elab.async false
set_option linter.all false
set_option maxRecDepth 100000
set_option maxHeartbeats 4000000
namespace Bk
open PySem PySem.Spec PyProof.Rows L2
variable [Cls]
/-! ### sorted(x, key=lambda a: e) -/
/-- what a list, or a dict whose keys are tuples, gives when it is walked -/
def rItems (K : PySem.W.Frag) (x : V) (H : Hp) (C : List V → Prop) : Prop := ∃ a, x = .ref a ∧ ((∃ us, SqL K H a us ∧ C us) ∨ ∃ kvs, Rd H a (.dT kvs) ∧ ∀ bs : List (Addr × List Key), bs.map (·.2) = kvs.map (·.1) → (∀ b ∈ bs, H b.1 = some (.tup (b.2.map kV))) → C (bs.map fun b => V.ref b.1))
def tSortK (K : PySem.W.Frag) (q : Str) (tb : TE) (js : List Nat) (ta : TE) : TE := fun σ H Q => ta σ H fun x H1 => (∃ F, TbOk F H1) ∧ ∀ H2 c', LmStp H1 H2 → H2 c' = some (LamX.CodeO c' q) → rItems K x H2 fun us => ∃ W : List V → Hp → Prop, W [] H2 ∧ (∀ ks H3, W ks H3 → H3 c' = some (LamX.CodeO c' q)) ∧
  (∀ ks H3 u, W ks H3 → us[ks.length]? = some u → tb (some u :: capS σ js) H3 fun y H4 => W (ks ++ [y]) H4) ∧
  ∀ ks H3, W ks H3 → ks.length = us.length → ∃ ds : List PyData, DpAll K H3 ks ds ∧ PySem.W.AllAlike ds ∧ PySem.W.Sortable ds ∧ (∀ d ∈ ds, d.depth ≤ 60) ∧ ∀ p, H3 p = none → Q (.ref p) (upd H3 p (.lst (((us.zip ds).mergeSort (PySem.W.dataLe false fun b => b.2)).map (·.1))))
section
variable {X : Cx}
theorem eachK {pins : List (Addr × Obj)} {σ : Sl} {H : Hp} {s : Shared} (I : Inv X pins σ H s) : ∀ {vs : List V} {us : List Value} {ds : List PyData}, Vals vs us → DpAll X.K H vs ds → PySem.W.EachIs (fun u d => ∃ as, Reads s.heap u d as) us ds
  | _, _, _, .nil, .nil => .nil
  | _, _, _, .cons r t, .cons d e => .cons (Dp.reads I _ _ _ d r) (eachK I t e)
theorem eachZ : ∀ {vs : List V} {us : List Value} {ds : List PyData}, Vals vs us → vs.length = ds.length → PySem.W.EachIs (fun u (b : V × PyData) => RelV b.1 u) us (vs.zip ds)
  | _, _, [], .nil, _ => .nil
  | _, _, d :: ds, .cons r t, h => .cons r (eachZ t (by simpa using h))
theorem vals_snoc : ∀ {vs : List V} {us : List Value} {v : V} {u : Value}, Vals vs us → RelV v u → Vals (vs ++ [v]) (us ++ [u])
  | _, _, _, _, .nil, r => .cons r .nil
  | _, _, _, _, .cons q t, r => .cons q (vals_snoc t r)
theorem dpAll_len {K : PySem.W.Frag} {H : Hp} : ∀ {vs : List V} {ds : List PyData}, DpAll K H vs ds → vs.length = ds.length
  | _, _, .nil => rfl
  | _, _, .cons _ t => congrArg Nat.succ (dpAll_len t)
/-- the sort behind the copy at l -/
theorem keyed_core {N : List Str} {a : Str} {params : Arguments} {body : Expr} {scope : Scope} {js : List Nat} {k : Nat} {tb : TE} {pins : List (Addr × Obj)} {σ : Sl} {H2 : Hp} {s : Shared} {f c' l m : Addr} {pm ctv : Value} {us : List V} {its : List Value} {Q : VK} {E' : Value → Shared → Prop} {g : Heap} {tk : Nat}
    (L : LmScope N a X.env.scope scope) (hN : js.map (X.N[·]?) = N.tail.map some) (hr : Room (k + 3) X.A) (hb : ∀ u : Value, bindArgs (PySem.W.kla_fn "<lambda>" (X.env.qual ++ "<lambda>") params body scope (cloFrom X.env.cells scope.names []) pm (.ref c') ctv) ⟨[u], []⟩ = pure [(a, u)])
    (hbody : ∀ (A : Around) (outer : List PySem.Env) (s : Shared) (H : Hp), Room k (A.deeper (lmEnv X scope s.heap.objs.size f c')) → PE (lmCx X N A outer s H scope f c') body tb)
    (I : Inv X pins σ H2 s) (hf : s.heap.get? f = some (lmObj X params body scope pm c' ctv)) (hfn : H2 f = none) (hfr : f ∉ frs X.stack) (rv : Vals us its) (hz : its.length ≤ sizeLine)
    (kp : ∀ b o, s.heap.get? b = some o → g.get? b = some o) (hl : s.heap.objs.size ≤ l) (hg : g.get? l = some (seqObj "list" its.toArray m))
    (h : ∃ W : List V → Hp → Prop, W [] H2 ∧ (∀ ks H3, W ks H3 → H3 c' = some (LamX.CodeO c' (X.env.qual ++ "<lambda>"))) ∧ (∀ ks H3 u, W ks H3 → us[ks.length]? = some u → tb (some u :: capS σ js) H3 fun y H4 => W (ks ++ [y]) H4) ∧
      ∀ ks H3, W ks H3 → ks.length = us.length → ∃ ds : List PyData, DpAll X.K H3 ks ds ∧ PySem.W.AllAlike ds ∧ PySem.W.Sortable ds ∧ (∀ d ∈ ds, d.depth ≤ 60) ∧ ∀ p, H3 p = none → Q (.ref p) (upd H3 p (.lst (((us.zip ds).mergeSort (PySem.W.dataLe false fun b => b.2)).map (·.1))))) :
    wpAny (model X.prog X.w) X.A.in1.in1 (ksk_tree l (.ref f) false) (fun r z => r = .done (.ret .none) ∧ EP X pins σ Q (.ref l) z) E' { s with heap := g, toks := tk } := by
  obtain ⟨W, w0, wc, wt, wf⟩ := h
  have hs := I.sz
  have hlo := I.lt
  have hce : ∀ x c, X.env.cells.lookup x = some c → c < s.heap.objs.size := fun x c e => by
    obtain ⟨v, o, o1, _⟩ := I.cell x c e
    exact Heap.lt_size o1
  have hpi : ∀ p ∈ X.pn ++ pins, p.1 < s.heap.objs.size := fun p hp => Heap.lt_size (I.pin p hp).1
  have nofr : ∀ b, s.heap.objs.size ≤ b → b ∉ frs X.stack := fun b hb z => by
    rcases List.mem_cons.mp (I.stkSub _ z) with e | e
    · rw [e] at hb
      exact absurd hlo (Nat.not_lt.mpr hb)
    · exact I.nofs hb e
  have el : us.length = its.length := rv.length
  refine Bs.keyed_run (fun kS e1 ks z => ∃ (H3 : Hp) (xs : List V), Inv X pins σ H3 z ∧ W xs H3 ∧ Vals xs ks ∧ H3 kS = none ∧ H3 l = none ∧ H3 f = none ∧ z.heap.get? f = some (lmObj X params body scope pm c' ctv) ∧ z.heap.get? l = some (seqObj "list" #[] e1) ∧ s.heap.objs.size ≤ kS ∧ kS ≠ l ∧ kS ≠ f) hg hz (fun kS e1 g2 kp2 hk na nk => ?_) (fun kS e1 ks u z n ⟨H3, xs, I3, w3, r3, n1, n2, n3, f3, l3, b1, b2, b3⟩ hu nk => ?_) (fun kS e1 ks z ⟨H3, xs, I3, w3, r3, n1, n2, n3, f3, l3, b1, b2, b3⟩ hlen => ?_)
  · have gl : l < g.objs.size := Heap.lt_size hg
    have gf : f < g.objs.size := Heap.lt_size (kp _ _ hf)
    have hk' : g.objs.size ≤ kS := hk
    have fl : f ≠ l := Nat.ne_of_lt (Nat.lt_of_lt_of_le (Heap.lt_size hf) hl)
    have ge : s.heap.objs.size ≤ kS := Nat.le_trans (Nat.le_trans hl (Nat.le_of_lt gl)) hk'
    refine ⟨H2, [], I.kept (t' := tk) fun b o e => kp2 b o (Nat.ne_of_lt (Nat.lt_of_lt_of_le (Heap.lt_size e) hl)) (kp b o e), w0, .nil, I.hok.fresh ge, I.hok.fresh hl, hfn, kp2 _ _ fl (kp _ _ hf), na, ge, Nat.ne_of_gt (Nat.lt_of_lt_of_le gl hk'), Nat.ne_of_gt (Nat.lt_of_lt_of_le gf hk')⟩
  · have ek : xs.length = ks.length := r3.length
    obtain ⟨x, hx, rx⟩ : ∃ x, us[xs.length]? = some x ∧ RelV x u := by
      have hlt : ks.length < us.length := by rw [el]; exact (List.getElem?_eq_some_iff.mp hu).1
      have e1 : us[xs.length]? = some us[ks.length] := by rw [ek]; exact List.getElem?_eq_getElem hlt
      obtain ⟨v, e2, e3⟩ := rv.get e1
      rw [ek, hu] at e2
      cases e2
      exact ⟨_, e1, e3⟩
    have rA : Room (k + 1) X.A.in1.in1 := ⟨hr.hd, by have := hr.dp; show X.A.depth + 3 * (k + 1) + 5 < recursionLimit; omega, by have := hr.un; show X.A.units + 1 + 1 + 16 * (k + 1) + 200 < cLine; omega⟩
    refine wpAny_mono (lm_turn (tb := tb) I3 L hN X.A.in1.in1 I3.ok.frames rA f3 (wc _ _ w3) hb hbody rx (wt xs H3 x w3 hx)) (fun y z' hz' => ?_) fun _ _ q => q
    obtain ⟨v, H4, I4, ry, w4, un⟩ := hz'
    have kk : ∀ b o, z.heap.get? b = some o → H3 b = none → b ∉ frs X.stack → z'.heap.get? b = some o := fun b o e n nf => un.keep b o e n nf (by simp)
    have fk : ∀ b o, z.heap.get? b = some o → H3 b = none → H4 b = none := fun b o e n => un.free b o e n (by simp)
    refine ⟨kk _ _ nk n1 (nofr _ b1), fun g3 sb ⟨m3, hm3⟩ => ?_⟩
    refine ⟨H4, xs ++ [v], ?_, w4, vals_snoc r3 ry, fk _ _ nk n1, fk _ _ l3 n2, fk _ _ f3 n3, ?_, ?_, b1, b2, b3⟩
    · exact inv_loose (ch := [kS]) (tk := z'.toks) I4 hs hlo hce hpi (fun b hb => by rw [List.mem_singleton.mp hb]; exact ⟨b1, fk _ _ nk n1⟩) fun b o nb e => (sb.2 b (fun z => nb (by rw [z]; exact List.mem_singleton.mpr rfl))).trans e
    · exact (sb.2 f b3.symm).trans (kk _ _ f3 n3 hfr)
    · exact (sb.2 l b2.symm).trans (kk _ _ l3 n2 (nofr _ hl))
  · have ek : xs.length = ks.length := r3.length
    obtain ⟨ds, dp, al, so, dep, fin⟩ := wf xs H3 w3 (by omega)
    have ed : us.length = ds.length := by have := dpAll_len dp; omega
    refine ⟨l3, b2, ds, eachK I3 r3 dp, al, so, fun d hd => ?_, fun g4 tk4 c4 out kp4 hg4 ko => ⟨rfl, ?_⟩⟩
    · have := hr.un
      have := dep d hd
      show X.A.units + 1 + 1 + d.depth < cLine
      omega
    · have ez : (us.zip ds).map (fun b => b.2) = ds := List.map_snd_zip (by omega)
      have eo := PySem.W.keyedOut_each (R := fun u (b : V × PyData) => RelV b.1 u) (bs := us.zip ds) (fun b => b.2) (by rw [ez]; exact ko) (eachZ rv ed)
      have ov : Vals (((us.zip ds).mergeSort (PySem.W.dataLe false fun b => b.2)).map (·.1)) out := each_vals (f := fun b : V × PyData => b.1) eo
      have lz : (((us.zip ds).mergeSort (PySem.W.dataLe false fun b => b.2)).map (·.1)).length ≤ sizeLine := by
        rw [List.length_map, (List.mergeSort_perm _ _).length_eq, List.length_zip]
        omega
      have J : Inv X pins σ H3 { z with heap := g4, toks := tk4 } := inv_loose (ch := [kS, l]) (tk := tk4) I3 hs hlo hce hpi (fun b hb => by
        rcases List.mem_cons.mp hb with e | e
        · rw [e]; exact ⟨b1, n1⟩
        · rw [List.mem_singleton.mp e]; exact ⟨hl, n2⟩) fun b o nb e => kp4 b o (fun q => nb (by rw [q]; simp)) (fun q => nb (by rw [q]; simp)) e
      exact ⟨.ref l, _, inv_track J n2 lz ov hg4 s.heap.objs.size hs hlo hce hpi hl, rfl, fin l n2⟩
theorem pe_sortK {N : List Str} {a : Str} {P c : Addr} {params : Arguments} {body : Expr} {scope : Scope} {js : List Nat} {k : Nat} {ta tb : TE} {p lpos kpos pos : Pos} {e : Expr} (B : LamX.TabB X.base X.mg c P) (hcode : X.env.code = .ref c) (hm : (P, X.env.qual ++ "<lambda>") ∈ Cls.tabs) (hone : ∀ q ∈ Cls.tabs, q.1 = P → q.2 = X.env.qual ++ "<lambda>")
    (L : LmScope N a X.env.scope scope) (hN : js.map (X.N[·]?) = N.tail.map some) (hr : Room (k + 3) X.A) (hcalm : X.calm = true) (hg : Gl X "sorted") (hmg : X.mg "sorted" = none) (hdef : defaultsOf params X.env = ([], []))
    (hb : ∀ (q : Str) (cl : List (Str × Addr)) (pm cd ctv u : Value), bindArgs (PySem.W.kla_fn "<lambda>" q params body scope cl pm cd ctv) ⟨[u], []⟩ = pure [(a, u)])
    (hbody : ∀ (A : Around) (outer : List PySem.Env) (s : Shared) (H : Hp) (f c' : Addr), Room k (A.deeper (lmEnv X scope s.heap.objs.size f c')) → PE (lmCx X N A outer s H scope f c') body tb) (ha : PA X [e] (tCons ta tNil))
    (he : backTo pos (starEach [e] X.env) = (false, eval e X.env) :: backTo pos (starEach [] X.env) := by rfl) (hpl : (backTo pos (starEach [e] X.env)).any (·.1) = false := by rfl) :
    PE X (.Call (.Name "sorted" p) [e] [⟨some "key", .Lambda params body scope lpos, kpos⟩] pos) (tSortK X.K (X.env.qual ++ "<lambda>") tb js ta) := by
  refine ⟨fun pins s σ H Q I h => ?_⟩
  refine wpAny_Call_Name_kw (ld_blt I hg hmg (u := .builtin "sorted") rfl ?_)
  refine PyProof.Rows.callWith_kw (thn (ha.run pos pins s σ H (fun vs H1 => match vs with
    | [x] => (∃ F, TbOk F H1) ∧ ∀ H2 c', LmStp H1 H2 → H2 c' = some (LamX.CodeO c' (X.env.qual ++ "<lambda>")) → rItems X.K x H2 fun us => ∃ W : List V → Hp → Prop, W [] H2 ∧ (∀ ks H3, W ks H3 → H3 c' = some (LamX.CodeO c' (X.env.qual ++ "<lambda>"))) ∧ (∀ ks H3 u, W ks H3 → us[ks.length]? = some u → tb (some u :: capS σ js) H3 fun y H4 => W (ks ++ [y]) H4) ∧
        ∀ ks H3, W ks H3 → ks.length = us.length → ∃ ds : List PyData, DpAll X.K H3 ks ds ∧ PySem.W.AllAlike ds ∧ PySem.W.Sortable ds ∧ (∀ d ∈ ds, d.depth ≤ 60) ∧ ∀ p, H3 p = none → Q (.ref p) (upd H3 p (.lst (((us.zip ds).mergeSort (PySem.W.dataLe false fun b => b.2)).map (·.1))))
    | _ => False) I h) fun us s1 hus => ?_) he hpl rfl rfl
  obtain ⟨vs, H1, I1, r1, q1⟩ := hus
  match vs, r1, q1 with
  | [x], r1, q1 =>
    obtain ⟨⟨F, tb1⟩, q1⟩ := q1
    show wpAny _ _ (evalAll [do let v ← eval (.Lambda params body scope lpos) X.env; standAt pos; pure v]) _ _ s1
    refine wpAny_evalAll_cons (wpAny_bind (lam_new I1 B hcode hm hone tb1 hdef (L.cells I1.ok) fun f c' pm ctv H2 z I2 st hge hlt hf hfn hc => wpAny_bind (wpAny_standAt (wpAny_pure (wpAny_evalAll_nil ?_)))))
    have hfr : f ∉ frs X.stack := fun z => by
      rcases List.mem_cons.mp (I1.stkSub _ z) with e | e
      · rw [e] at hge
        exact absurd I1.lt (Nat.not_lt.mpr hge)
      · exact I1.nofs hge e
    obtain ⟨r, rfl, it⟩ := q1 H2 c' st hc
    obtain ⟨u, rfl, ru⟩ := vals1 r1
    obtain rfl : u = Value.ref r := ru
    show wpAny _ _ (call (.builtin "sorted") [.ref r] [(Str.ofString "key", .ref f)]) _ _ z
    rcases it with ⟨us2, hs, hw⟩ | ⟨kvs, hd, hw⟩
    · obtain ⟨its, rv, hl, hz⟩ := I2.list hs
      exact Bs.keyed_list hl.isList (by rw [← rv.length]; exact hz) fun l n g tk E' kp hl hgl => keyed_core L hN hr (hb _ _ _ _ _) (fun A o s H => hbody A o s H f c') I2 hf hfn hfr rv (by rw [← rv.length]; exact hz) kp hl hgl hw
    · obtain ⟨z1, hs, ks, pr, o, es, ep, ho, hx, hdt, he, hn⟩ := (show ObjOk X.prog X.w H2 z.heap r (.dT kvs) from hd.ok I2.hok)
      have l1 : es.size = ks.length := size_of_entries he
      have l2 : kvs.length = ks.length := Paired.length pr
      have hk : (ks.map fun x => ((x.2.1, x.1) : Addr × List Key)).map (·.2) = kvs.map (·.1) ∧ ∀ b ∈ ks.map (fun x => ((x.2.1, x.1) : Addr × List Key)), H2 b.1 = some (.tup (b.2.map kV)) := by
        clear hw hd l1 l2 he hn z1
        induction pr with
        | nil => exact ⟨rfl, fun b hb => by cases hb⟩
        | cons h t ih =>
          refine ⟨by rw [List.map_cons, List.map_cons, List.map_cons, ih.1]; exact congrArg (· :: _) h.1.symm, fun b hb => ?_⟩
          rcases List.mem_cons.mp hb with e | hb
          · rw [e]
            have h2 := h.2.1
            rw [h.1] at h2
            exact h2
          · exact ih.2 b hb
      have hw' := hw _ hk.1 hk.2
      refine Bs.keyed_walk (kdl_raw hs hx hdt) (I2.ok.hd hcalm) ho (by omega) fun its l m g tk E' hlen hits kp hl hgl => ?_
      have rv : Vals ((ks.map fun x => ((x.2.1, x.1) : Addr × List Key)).map fun b => V.ref b.1) its := by
        have ev : its = (ks.map fun x => ((x.2.1, x.1) : Addr × List Key)).map fun b => Value.ref b.1 := by
          rw [List.map_map]
          apply List.ext_getElem?
          intro j
          rw [List.getElem?_map]
          cases hj : its[j]? with
          | none =>
            have := List.getElem?_eq_none_iff.mp hj
            rw [List.getElem?_eq_none (by omega)]
            rfl
          | some v =>
            obtain ⟨en, hen, rfl⟩ := hits j v hj
            have qe := entry_at he j
            rw [hen] at qe
            cases hb : ks[j]? with
            | none =>
              rw [hb] at qe
              exact nomatch (show some en = none from qe)
            | some b =>
              rw [hb] at qe
              rw [show en = entryOfKey (tupleKind (mixKind X.prog X.w)) b from Option.some.inj qe]
              rfl
        rw [ev]
        clear hits hgl hw' hw hk hd he hn z1 hlen kp hl l1 l2 pr ev
        generalize (ks.map fun x => ((x.2.1, x.1) : Addr × List Key)) = bs
        induction bs with
        | nil => exact .nil
        | cons b bs ih => exact .cons rfl ih
      exact keyed_core L hN hr (hb _ _ _ _ _) (fun A o s H => hbody A o s H f c') I2 hf hfn hfr rv (by omega) kp hl hgl hw'
end
end Bk

set_option Elab.async false
set_option linter.all false
set_option maxRecDepth 100000
set_option maxHeartbeats 4000000
namespace Bk
open PySem PySem.Spec PyProof.Rows L2
variable [Cls]
/-! ### sorted by a lambda's key, mirrored -/
/-- the key of d: the lambda's body kb over its argument and the captured slots js -/
def keyM (kb : M) (js : List Nat) (s : Env) (d : D) : Option D := match kb (some d :: js.map fun j => (s[j]?).join) with
  | .ok z _ => some z
  | _ => none
def keysM (k : D → Option D) : List D → Option (List D)
  | [] => some []
  | d :: ds => match k d, keysM k ds with
    | some z, some zs => some (z :: zs)
    | _, _ => none
def itemsD : D → Option (List D)
  | .lst ds => some ds
  | .dct ks _ => some (ks.map kDs)
  | _ => none
def sortK (ds zs : List D) : List D := ((ds.zip zs).mergeSort fun a b => dSle a.2 b.2).map (·.1)
def mSortK (ma kb : M) (js : List Nat) : M := fun s => (ma s).bind fun d s1 => match itemsD d with
  | some ds => match keysM (keyM kb js s1) ds with
    | some zs => if sortOk zs = true then .ok (.lst (sortK ds zs)) s1 else .stuck
    | none => .stuck
  | none => .stuck
theorem keysM_get {k : D → Option D} : ∀ {ds zs : List D}, keysM k ds = some zs → ds.length = zs.length ∧ ∀ (i : Nat) (d : D), ds[i]? = some d → ∃ z, zs[i]? = some z ∧ k d = some z
  | [], zs, h => by cases h; exact ⟨rfl, fun i d e => by simp at e⟩
  | d :: ds, zs, h => by
    unfold keysM at h
    cases e1 : k d with
    | none => rw [e1] at h; cases h
    | some z =>
      cases e2 : keysM k ds with
      | none => rw [e1, e2] at h; cases h
      | some zs' =>
        rw [e1, e2] at h
        cases h
        obtain ⟨l, q⟩ := keysM_get e2
        refine ⟨congrArg Nat.succ l, fun i d' e => ?_⟩
        cases i with
        | zero => simp at e; subst e; exact ⟨z, rfl, e1⟩
        | succ i => simpa using q i d' (by simpa using e)
theorem reps_of {F : Hp} {α : Type} {f : α → D} {g : α → V} : ∀ {T : List α}, (∀ t ∈ T, Rep F (f t) (g t)) → Reps F (T.map f) (T.map g)
  | [], _ => .nil
  | t :: T, h => .cons (h t List.mem_cons_self) (reps_of fun u hu => h u (List.mem_cons_of_mem _ hu))
theorem zip_all {F : Hp} : ∀ {ds : List D} {us : List V}, Reps F ds us → ∀ t ∈ ds.zip us, Rep F t.1 t.2
  | _, _, .nil, t, h => by cases h
  | _, _, .cons r q, t, h => by
    rcases List.mem_cons.mp h with e | h
    · rw [e]; exact r
    · exact zip_all q t h
theorem sortK_rep {F : Hp} {ds zs : List D} {us : List V} (r : Reps F ds us) (hl : ds.length = zs.length) : Reps F (sortK ds zs) (((us.zip (D.pys zs)).mergeSort (PySem.W.dataLe false fun b => b.2)).map (·.1)) := by
  have el := r.len
  have e1 : ds.zip zs = ((ds.zip us).zip zs).map fun t => (t.1.1, t.2) := by
    clear r
    induction ds generalizing us zs with
    | nil => rfl
    | cons d ds ih => match us, zs, el, hl with
      | u :: us, z :: zs, el, hl => rw [List.zip_cons_cons, List.zip_cons_cons, List.zip_cons_cons, List.map_cons, ← ih (by simpa using hl) (by simpa using el)]
  have e2 : us.zip (D.pys zs) = ((ds.zip us).zip zs).map fun t => (t.1.2, t.2.py) := by
    rw [pys_map]
    clear r e1
    induction ds generalizing us zs with
    | nil => match us, el with
      | [], _ => rfl
    | cons d ds ih => match us, zs, el, hl with
      | u :: us, z :: zs, el, hl => rw [List.map_cons, List.zip_cons_cons, List.zip_cons_cons, List.zip_cons_cons, List.map_cons, ← ih (by simpa using hl) (by simpa using el)]
  have h1 : (ds.zip zs).mergeSort (fun a b => dSle a.2 b.2) = (((ds.zip us).zip zs).mergeSort fun a b => dSle a.2 b.2).map fun t => (t.1.1, t.2) := by
    rw [e1]
    exact (List.map_mergeSort (f := fun t : (D × V) × D => (t.1.1, t.2)) (r := fun a b => dSle a.2 b.2) (s := fun a b => dSle a.2 b.2) fun _ _ _ _ => rfl).symm
  have h2 : (us.zip (D.pys zs)).mergeSort (PySem.W.dataLe false fun b => b.2) = (((ds.zip us).zip zs).mergeSort fun a b => dSle a.2 b.2).map fun t => (t.1.2, t.2.py) := by
    rw [e2]
    exact (List.map_mergeSort (f := fun t : (D × V) × D => (t.1.2, t.2.py)) (r := fun a b => dSle a.2 b.2) (s := PySem.W.dataLe false fun b => b.2) fun _ _ _ _ => rfl).symm
  unfold sortK
  rw [h1, h2, List.map_map, List.map_map]
  exact reps_of fun t ht => zip_all r t.1 (List.of_mem_zip ((List.mergeSort_perm _ _).mem_iff.mp ht)).1
section
variable {n : Nat} {G : Gr n} {Γ : List Ty} {s : Env} {σ : Sl} {F H : Hp} {fp : Fp}
theorem LmStp.stp {H1 : Hp} (x : LmStp H H1) (R : Rel G Γ s σ F fp H) : Rel G Γ s σ F fp H1 ∧ Stp L0 F fp H F fp H1 := by
  have y : Stp L0 F fp H F fp H1 := ⟨Same.refl F, fun a o e z _ => x.keep a o e z, fun i a h => .inl ⟨i, h⟩, fun _ _ e _ => e, x.there, fun a ⟨o, e, t⟩ => ⟨o, x.keep a o e (Nt.ntab ⟨o, e, t⟩ R.tb), t⟩, x.tab F⟩
  exact ⟨R.step y (fun i a h o e => x.keep a o e ((R.oh i a h).ntab R.tb)) R.nF (fun a o e1 e2 => by rw [e1] at e2; cases e2), y⟩
theorem Rel.lam (R : Rel G Γ s σ F fp H) {d : D} {x : V} {js : List Nat} (r : Rep F d x) (hj : ∀ j ∈ js, Γ[j]? = some .fr) :
    Rel (⟨some x :: capS σ js, F, fun _ => [], H, G.L, L0⟩ : Gr 0) (List.replicate (js.length + 1) .fr) (some d :: js.map fun j => (s[j]?).join) (some x :: capS σ js) F (fun _ => []) H := by
  refine ⟨by simp, by simp [capS], fun i t d' ht hs => ?_, fun i j a h => (by cases h), fun i a h => (by cases h), fun i a h => (by cases h), R.ext, R.lkd, Stp.refl F _ H, fun i h => absurd h (Nat.not_lt_zero i), fun i a h => (by cases h), R.tb⟩
  have ht : t = .fr := by
    rw [List.getElem?_replicate] at ht
    split at ht
    · exact (Option.some.inj ht).symm
    · cases ht
  subst ht
  cases i with
  | zero =>
    have hs : some (some d) = some (some d') := hs
    cases hs
    exact ⟨x, rfl, r, rfl⟩
  | succ i =>
    have hs : (js.map fun j => (s[j]?).join)[i]? = some (some d') := by simpa using hs
    rw [List.getElem?_map] at hs
    obtain ⟨j, ej, e2⟩ := Option.map_eq_some_iff.mp hs
    have e3 : s[j]? = some (some d') := by
      cases z : s[j]? with
      | none => rw [z] at e2; cases e2
      | some o => rw [z] at e2; exact congrArg some e2
    obtain ⟨v, h1, h2⟩ := R.slot j _ d' (hj j (List.mem_of_getElem? ej)) e3
    refine ⟨v, ?_, h2.1, rfl⟩
    show (capS σ js)[i]? = some (some v)
    unfold capS
    rw [List.getElem?_map, ej]
    show some ((σ[j]?).join) = _
    rw [h1]
    rfl
theorem Rel.lamBack (R : Rel G Γ s σ F fp H) {m : Nat} {G' : Gr m} {Γ' : List Ty} {s' : Env} {σ' : Sl} {F' H' : Hp} {fp' : Fp} (R' : Rel G' Γ' s' σ' F' fp' H') (x : Stp L0 F (fun _ => []) H F' fp' H') (hL : G'.L = G.L) : Rel G Γ s σ F' fp H' ∧ Stp L0 F fp H F' fp H' := by
  have nil : ∀ (a : Addr) (i : Nat), a ∉ (fun _ => [] : Fp) i := fun a i h => by cases h
  have y : Stp L0 F fp H F' fp H' := ⟨x.f, fun a o e z _ => x.keep a o e z (nil a), fun i a h => .inl ⟨i, h⟩, fun a h e _ => x.nof a h e (nil a), x.there, x.nt, x.tab⟩
  refine ⟨R.step y (fun i a h o e => x.keep a o e ((R.oh i a h).ntab R.tb) (nil a)) (fun i a h => x.nof a (R.oh i a h) (R.nF i a h) (nil a)) (fun a o e1 e2 => ?_), y⟩
  have h := R'.ext a o e2
  rw [hL] at h
  unfold lk at h
  cases z : G.L a with
  | none => rw [z] at h; exact h
  | some ob =>
    obtain ⟨o', e', _⟩ := R.lkd a ob z
    rw [e1] at e'
    cases e'
end
section
variable {X : Cx} {n : Nat} {G : Gr n} {W : WX} {Γ : List Ty}
theorem codeO_no {c : Addr} {q : Str} : ∀ ps, LamX.CodeO c q ≠ .tbl ps := LamX.codeO_ne
/-- behind the source's evaluation -/
theorem sortK_go {K : PySem.W.Frag} {s : Env} {σ : Sl} {F H2 H0 : Hp} {fp fp0 : Fp} {F0 : Hp} {q : Str} {c' : Addr} {js : List Nat} {kb : M} {ds zs : List D} {us : List V} {Q : VK} (R : Rel G Γ s σ F fp H2) (x0 : Stp L0 F0 fp0 H0 F fp H2) (hc : H2 c' = some (LamX.CodeO c' q)) (rs : Reps F ds us) (hj : ∀ j ∈ js, Γ[j]? = some .fr)
    (hk : keysM (keyM kb js s) ds = some zs) (ok : sortOk zs = true) (qq : PostG K G W Γ σ F fp H2 (AE G .ol fp0 H0) Q (.ok (.lst (sortK ds zs)) s)) :
    ∃ V : List V → Hp → Prop, V [] H2 ∧ (∀ ks H3, V ks H3 → H3 c' = some (LamX.CodeO c' q)) ∧ (∀ ks H3 u, V ks H3 → us[ks.length]? = some u → (fun σ H Q => ∃ G' : Gr 0, tM K G' W0 (List.replicate (js.length + 1) .fr) .fr kb σ H Q) (some u :: capS σ js) H3 fun y H4 => V (ks ++ [y]) H4) ∧
      ∀ ks H3, V ks H3 → ks.length = us.length → ∃ dz : List PyData, DpAll K H3 ks dz ∧ PySem.W.AllAlike dz ∧ PySem.W.Sortable dz ∧ (∀ d ∈ dz, d.depth ≤ 60) ∧ ∀ p, H3 p = none → Q (.ref p) (upd H3 p (.lst (((us.zip dz).mergeSort (PySem.W.dataLe false fun b => b.2)).map (·.1)))) := by
  obtain ⟨lz, gz⟩ := keysM_get hk
  have lu := rs.len
  refine ⟨fun ks H3 => ∃ F3, Rel G Γ s σ F3 fp H3 ∧ Stp L0 F fp H2 F3 fp H3 ∧ Reps F3 (zs.take ks.length) ks ∧ H3 c' = some (LamX.CodeO c' q), ⟨F, R, Stp.refl F fp H2, .nil, hc⟩, fun ks H3 ⟨_, _, _, _, h⟩ => h, fun ks H3 u ⟨F3, R3, x3, r3, c3⟩ hu => ?_, fun ks H3 ⟨F3, R3, x3, r3, c3⟩ hl => ?_⟩
  · have hlt : ks.length < us.length := (List.getElem?_eq_some_iff.mp hu).1
    obtain ⟨d, hd, rd⟩ := rs.get' hu
    obtain ⟨z, hz, ez⟩ := gz _ _ hd
    refine ⟨⟨some u :: capS σ js, F3, fun _ => [], H3, G.L, L0⟩, some d :: js.map (fun j => (s[j]?).join), F3, fun _ => [], R3.lam (rd.mono x3.f) hj, ?_⟩
    unfold keyM at ez
    split at ez
    · rename_i z' s' e
      cases ez
      rw [e]
      intro y F4 fp4 H4 R4 x4 ay
      obtain ⟨R5, x5⟩ := R3.lamBack R4 x4 rfl
      refine ⟨F4, R5, x3.trans x5, ?_, x4.keep _ _ c3 (R3.tb.no c3 codeO_no) fun i h => by cases h⟩
      have et : zs.take (ks ++ [y]).length = zs.take ks.length ++ [z] := by
        rw [List.length_append]
        show zs.take (ks.length + 1) = _
        rw [List.take_add_one, hz]
        rfl
      rw [et]
      exact (r3.mono x4.f).app (.cons ay.rep .nil)
    · cases ez
  · have e1 : zs.take ks.length = zs := List.take_of_length_le (by omega)
    rw [e1] at r3
    obtain ⟨o1, o2, o3, o4⟩ := sort_ok ok
    refine ⟨D.pys zs, R3.dps o1 r3, o2, o3, o4, fun p hp => ?_⟩
    exact new_list (x0.trans x3) R3 hp (qq.shift x3) (sortK_rep (rs.mono x3.f) lz)
theorem me_sortK {N : List Str} {a : Str} {P c : Addr} {params : Arguments} {body : Expr} {scope : Scope} {js : List Nat} {k : Nat} {p lpos kpos pos : Pos} {e : Expr} {ma kb : M} (B : LamX.TabB X.base X.mg c P) (hcode : X.env.code = .ref c) (hm : (P, X.env.qual ++ "<lambda>") ∈ Cls.tabs) (hone : ∀ q ∈ Cls.tabs, q.1 = P → q.2 = X.env.qual ++ "<lambda>")
    (L : LmScope N a X.env.scope scope) (hN : js.map (X.N[·]?) = N.tail.map some) (hr : Room (k + 3) X.A) (hcalm : X.calm = true) (hg : Gl X "sorted") (hmg : X.mg "sorted" = none) (hdef : defaultsOf params X.env = ([], []))
    (hb : ∀ (q : Str) (cl : List (Str × Addr)) (pm cd ctv u : Value), bindArgs (PySem.W.kla_fn "<lambda>" q params body scope cl pm cd ctv) ⟨[u], []⟩ = pure [(a, u)]) (ha : ME X G W Γ e .fr ma)
    (hbody : ∀ (A : Around) (outer : List PySem.Env) (s : Shared) (H : Hp) (f c' : Addr), Room k (A.deeper (lmEnv X scope s.heap.objs.size f c')) → ∀ G' : Gr 0, ME (lmCx X N A outer s H scope f c') G' W0 (List.replicate (js.length + 1) .fr) body .fr kb)
    (hj : ∀ j ∈ js, Γ[j]? = some .fr := by decide) (hst : starEach [e] X.env = (false, eval e X.env) :: starEach [] X.env := by rfl) (he : backTo pos (starEach [e] X.env) = (false, eval e X.env) :: backTo pos (starEach [] X.env) := by rfl) (hpl : (backTo pos (starEach [e] X.env)).any (·.1) = false := by rfl) :
    ME X G W Γ (.Call (.Name "sorted" p) [e] [⟨some "key", .Lambda params body scope lpos, kpos⟩] pos) .ol (mSortK ma kb js) :=
  peI (pe_sortK (tb := fun σ H Q => ∃ G' : Gr 0, tM X.K G' W0 (List.replicate (js.length + 1) .fr) .fr kb σ H Q) B hcode hm hone L hN hr hcalm hg hmg hdef hb (fun A outer s H f c' hk => ⟨fun pins s2 σ H2 Q I ⟨G', q⟩ => (hbody A outer s H f c' hk G').run pins s2 σ H2 Q I q⟩) (pa_cons ha pa_nil hst) he hpl)
  fun σ H Q ⟨s, F, fp, R, q⟩ => ⟨s, F, fp, R, pbind q fun d s1 v F1 fp1 H1 R1 x1 a1 q1 => by
    refine ⟨⟨F1, R1.tb⟩, fun H2 c' st hc => ?_⟩
    obtain ⟨R2, x2⟩ := st.stp R1
    have q2 := q1.shift x2
    cases a1.rep with
    | @lst ds us r er rs =>
      simp only [itemsD] at q2
      cases ek : keysM (keyM kb js s1) ds with
      | none => rw [ek] at q2; exact q2.elim
      | some zs =>
        rw [ek] at q2
        simp only [] at q2
        by_cases ok : sortOk zs = true
        · rw [if_pos ok] at q2
          exact ⟨r, rfl, .inl ⟨us, R2.sqL er, sortK_go R2 (x1.trans x2) hc rs hj ek ok q2⟩⟩
        · rw [if_neg ok] at q2; exact q2.elim
    | @dct ks ds vs r o er el rs =>
      simp only [itemsD] at q2
      cases ek : keysM (keyM kb js s1) (ks.map kDs) with
      | none => rw [ek] at q2; exact q2.elim
      | some zs =>
        rw [ek] at q2
        simp only [] at q2
        by_cases ok : sortOk zs = true
        · rw [if_pos ok] at q2
          refine ⟨r, rfl, .inr ⟨ks.zip vs, R2.rdz er, fun bs eb hbs => ?_⟩⟩
          rw [List.map_fst_zip (by omega)] at eb
          obtain ⟨F3, R3, x3, r3⟩ := R2.seeTs hbs
          have e3 : bs.map (fun b => kDs b.2) = ks.map kDs := by rw [← eb, List.map_map]; rfl
          rw [e3] at r3
          exact sortK_go R3 ((x1.trans x2).trans x3) hc r3 hj ek ok (q2.shift x3)
        · rw [if_neg ok] at q2; exact q2.elim
    | non => exact q2.elim
    | bl _ => exact q2.elim
    | int _ => exact q2.elim
    | str _ => exact q2.elim
    | tup _ _ => exact q2.elim
    | obj _ _ _ => exact q2.elim
    | emp _ => exact q2.elim⟩
end
end Bk

set_option Elab.async false
set_option linter.all false
set_option maxRecDepth 100000
set_option maxHeartbeats 4000000
namespace Bk
open PySem PySem.Spec PyProof.Rows L2
/-! ### all, any -/
def D.bools : List D → Option (List Bool)
  | [] => some []
  | .bl b :: ds => (D.bools ds).map (b :: ·)
  | _ => none
def bAll : List D → Option D
  | [.lst ds] => (D.bools ds).map fun bs => .bl (bs.all id)
  | _ => none
def bAny : List D → Option D
  | [.lst ds] => (D.bools ds).map fun bs => .bl (bs.any id)
  | _ => none
section
variable [Cls]
theorem bools_rep {F : Hp} : ∀ {ds : List D} {bs : List Bool} {vs : List V}, D.bools ds = some bs → Reps F ds vs → vs = bs.map V.bl
  | [], bs, vs, h, r => by cases h; cases r; rfl
  | .bl b :: ds, bs, vs, h, r => by
    unfold D.bools at h
    obtain ⟨ms, e, rfl⟩ := Option.map_eq_some_iff.mp h
    cases r with
    | cons r t =>
      cases r
      rw [bools_rep e t]
      rfl
  | .int _ :: _, _, _, h, _ => by cases h
  | .non :: _, _, _, h, _ => by cases h
  | .str _ :: _, _, _, h, _ => by cases h
  | .tup _ :: _, _, _, h, _ => by cases h
  | .lst _ :: _, _, _, h, _ => by cases h
  | .dct _ _ :: _, _, _, h, _ => by cases h
  | .obj _ _ _ :: _, _, _, h, _ => by cases h
variable {X : Cx} {n : Nat} {G : Gr n} {W : WX} {Γ : List Ty} {rt : Ty}
theorem me_all {e : Expr} {ms : MA} (h : PE X e (tCB (rAll X.K) (tMA X.K G W Γ ms))) : ME X G W Γ e .fr (mCall bAll ms) := peI h fun σ H Q => cb (fun ds z vs s F fp H Q R hz rs k => by
  match ds, hz with
  | [.lst es], hz =>
    obtain ⟨v, rfl, r⟩ := rs.one
    cases r with
    | lst e t =>
      obtain ⟨ms, em, rfl⟩ := Option.map_eq_some_iff.mp (show (D.bools es).map (fun bs => D.bl (bs.all id)) = some z from hz)
      exact ⟨_, ms, rfl, by rw [← bools_rep em t]; exact R.sqL e, k _ (.bl _)⟩)
theorem me_any {e : Expr} {ms : MA} (h : PE X e (tCB (rAny X.K) (tMA X.K G W Γ ms))) : ME X G W Γ e .fr (mCall bAny ms) := peI h fun σ H Q => cb (fun ds z vs s F fp H Q R hz rs k => by
  match ds, hz with
  | [.lst es], hz =>
    obtain ⟨v, rfl, r⟩ := rs.one
    cases r with
    | lst e t =>
      obtain ⟨ms, em, rfl⟩ := Option.map_eq_some_iff.mp (show (D.bools es).map (fun bs => D.bl (bs.any id)) = some z from hz)
      exact ⟨_, ms, rfl, by rw [← bools_rep em t]; exact R.sqL e, k _ (.bl _)⟩)
/-! ### a def that makes lambdas: its code object is told -/
theorem fn_okC {P : Program} {w : World} {K : PySem.W.Frag} {mg : Str → Option Value} {base : Heap} {x qual : Str} {params : Arguments} {body : List Stmt} {scope : Scope} {dvs : List V} {kws : List (Str × V)} {df : Str × Option Str} {fd : FuncData}
    {N ps : List Str} {k : Nat} {ts Γ : List Ty} {rt : Ty} {m : MS} (FD : FunD K x qual params body scope dvs kws (He.fAd K df) fd) (S : FnScope N ps scope) (hts : ts.length = ps.length) (hΓ : Γ.length = N.length) (hpre : Γ.take ts.length = ts) (hl : ts.length ≤ N.length)
    (hb : ∀ (A : Around) (outer : List PySem.Env) (s : Shared) (H : Hp) (E : XK), Room k (A.deeper (envOfC qual scope s.heap.objs.size (He.fAd K df) (.ref (He.codeOf K df)))) → ∀ (G : Gr ts.length) (W : WX), Takes (cxOf (L2.CX P w) P w K mg base N qual scope (He.fAd K df) (.ref (He.codeOf K df)) A outer s H E) W →
      MSs (cxOf (L2.CX P w) P w K mg base N qual scope (He.fAd K df) (.ref (He.codeOf K df)) A outer s H E) G W Γ rt body m) :
    FnOk P w K mg base (L2.CX P w) (k + 1) (He.fAd K df) fd ps (spM K ts rt (runF ts rt N.length m)) := by
  obtain ⟨oc, od, dV, kV, doc, pm, an, cdv, ct, osl, rfl, lk, hcd, _, _⟩ := FD.ex
  obtain ⟨c, rfl⟩ := He.codeIn_ref hcd
  have ec : He.codeOf K df = c := He.codeOf_eq lk rfl
  rw [ec] at hb
  refine fn_of lk hcd S (spM_len hts) fun A outer s H vs Q E hr hsp => ?_
  obtain ⟨ds, F, fp, L, p, q⟩ := hsp
  refine ⟨_, hb A outer s H E hr ⟨L2.start N vs, F, fpCut ts.length fp, H, L, L0⟩ (fun cls d _ H' => E cls d H') (takes_of rfl rfl rfl rfl), ds.map some ++ List.replicate (N.length - ds.length) none, F, fpCut ts.length fp, Rel.begin p hΓ hpre hl, ?_⟩
  unfold runF at q
  cases em : m (ds.map some ++ List.replicate (N.length - ds.length) none) with
  | nx s1 =>
    rw [em] at q
    simp only [] at q
    by_cases z : rt = .fr
    · rw [if_pos z] at q
      exact fun σ1 F1 fp1 H1 R1 x1 => q .non F1 _ H1 [] (R1.ends p hpre x1) (by rw [z]; exact ⟨.non, rfl⟩) fun _ h => by cases h
    · rw [if_neg z] at q; exact q.elim
  | rt d s1 =>
    rw [em] at q
    intro v σ1 F1 fp1 H1 R1 x1 a
    obtain ⟨B, a1, tq⟩ := a
    refine q v F1 _ H1 B (R1.ends p hpre x1) a1 fun b hb => ?_
    obtain ⟨q1, q2, q3, _⟩ := tq b hb
    exact ⟨q1, fun i hi => q2 i (fpCut_mem hi).2, q3⟩
  | err er s1 =>
    rw [em] at q
    exact fun cls od σ1 F1 fp1 H1 R1 x1 z => q cls od F1 _ H1 (R1.ends p hpre x1) z
  | bk s1 => rw [em] at q; exact q.elim
  | ct s1 => rw [em] at q; exact q.elim
  | stuck => rw [em] at q; exact q.elim
end
/-! ### the head with tables -/
/-- a def that makes lambdas, the name that they bear -/
abbrev Tl : Type := List (He.Defn × Str)
def tabsL (K : PySem.W.Frag) (tl : Tl) : List (Addr × Str) := tl.map fun p => ((He.cT K p.1).2, p.2)
def tabsNd (tl : Tl) : Ft := fun K => decide ((tl.map fun p => (He.cT K p.1).2).Nodup)
theorem tabs_one {K : PySem.W.Frag} {tl : Tl} (h : tabsNd tl K = true) {p : He.Defn × Str} (hp : p ∈ tl) : ∀ q ∈ tabsL K tl, q.1 = (He.cT K p.1).2 → q.2 = p.2 := by
  have nd : (tl.map fun p => (He.cT K p.1).2).Nodup := of_decide_eq_true h
  intro q hq e
  obtain ⟨r, hr, rfl⟩ := List.mem_map.mp hq
  have e : (He.cT K r.1).2 = (He.cT K p.1).2 := e
  obtain ⟨i, hi, ei⟩ := List.mem_iff_getElem.mp hr
  obtain ⟨j, hj, ej⟩ := List.mem_iff_getElem.mp hp
  have h1 : (tl.map fun p => (He.cT K p.1).2)[i]'(by rw [List.length_map]; exact hi) = (tl.map fun p => (He.cT K p.1).2)[j]'(by rw [List.length_map]; exact hj) := by
    rw [List.getElem_map, List.getElem_map, ei, ej]
    exact e
  have h2 := (List.getElem_inj nd).mp h1
  subst h2
  rw [ei] at ej
  rw [ej]
structure TabF (tl : Tl) (h : Heap) (K : PySem.W.Frag) : Prop where
  hd : ∀ p ∈ tl, PySem.W.codeHdIn K (He.cT K p.1).1 (He.cT K p.1).2 = true
  out : ∀ p ∈ tl, K.lookup (He.cT K p.1).2 = none
  emp : ∀ p ∈ tl, h.get? (He.cT K p.1).2 = some { cls := .none, data := .fields #[] }
abbrev AlT : Type := AlX × Bool
def obsXT (n : Nat) (fa : List He.Fa) (xs : List Ft) (fn : List He.DefD) (tl : Tl) (g : Addr → Option Obj) : AlT := (obsX fa xs fn (He.frT g (He.asD g n)), He.tabsB g (tl.map (·.1)) (He.frT g (He.asD g n)))
theorem tabF_of {n : Nat} {tl : Tl} {h : Heap} (e : He.tabsB h.get? (tl.map (·.1)) (He.frT h.get? (He.asD h.get? n)) = true) : TabF tl h (He.frT h.get? (He.asD h.get? n)) := by
  generalize hK : He.frT h.get? (He.asD h.get? n) = K at *
  have key : ∀ p ∈ tl, PySem.W.codeHdIn K (He.cT K p.1).1 (He.cT K p.1).2 = true ∧ ∃ o, h.get? (He.cT K p.1).2 = some o ∧ He.emptyTab o = true := fun p hp => by
    obtain ⟨a, b⟩ := Bool.and_eq_true_iff.mp (List.all_eq_true.mp e p.1 (List.mem_map.mpr ⟨p, hp, rfl⟩))
    refine ⟨a, ?_⟩
    cases q : h.get? (He.cT K p.1).2 with
    | none => rw [q] at b; cases b
    | some o => rw [q] at b; exact ⟨o, rfl, b⟩
  refine ⟨fun p hp => (key p hp).1, fun p hp => ?_, fun p hp => ?_⟩
  · obtain ⟨_, o, q, z⟩ := key p hp
    have := He.frT_none (as := He.asD h.get? n) q z
    rw [hK] at this
    exact this
  · obtain ⟨_, o, q, z⟩ := key p hp
    rw [q, He.emptyTab_eq z]
def hookXT (n : Nat) (fa : List He.Fa) (xs : List Ft) (fn : List He.DefD) (tl : Tl) : PySem.W.Hook where
  α := AlT
  obs := fun s => obsXT n fa xs fn tl s.heap.get?
  val := fun _ => (valX fn, true)
  says := fun _ h => ∃ K : PySem.W.Frag, K.In h ∧ SaysX fa xs fn K ∧ TabF tl h K
  of := fun _ _ e => ⟨_, He.frT_in, congrArg (fun z : AlT => z.1) e, tabF_of (congrArg (fun z : AlT => z.2) e)⟩
  keeps := fun _ _ _ ⟨K, hK, c, t⟩ k => ⟨K, PySem.W.Frag.In.keeps hK k, c, t.hd, t.out, fun p hp => k _ _ (t.emp p hp)⟩
theorem obsXT_eq {n : Nat} {fa : List He.Fa} {xs : List Ft} {fn : List He.DefD} {tl : Tl} {g : Addr → Option Obj} {s : Shared} (h : ∀ a, g a = s.heap.get? a) : obsXT n fa xs fn tl g = (hookXT n fa xs fn tl).obs s := by
  have e : g = s.heap.get? := funext h
  rw [e]
  rfl
/-- the end of a law of a script, with tables -/
theorem walk_bkT {law : PySem.W.OpenLaw} {top lv : Nat} {qp : Program} {free : List Str} {XP : (Str → Option Value) → Heap → Prop} {YP : World → Heap → Prop} {dr : DefRec} {p : Str}
    (hmost : law.most = some top) (htop : top ≤ sizeLine) (hdef : dr.params.defaults = []) (hroom : Room lv callerA)
    (F : ∀ (w : World) (mg : Str → Option Value) (at_ : Addr) (hp : Heap), YP w hp → hp.Ns mainGlobals mg → mg dr.name = some (.ref at_) →
      ∃ (K : PySem.W.Frag) (fd : FuncData) (sp : Sp) (tl : Tl), K.In hp ∧ TabF tl hp K ∧ (∀ (sh : Shared) (u : Value), BindsTo sh fd ⟨[u], []⟩ [(p, u)]) ∧
        (∀ (H : Hp) (at2 : Addr) (ns : List Int), ns.length ≤ top → LamX.Tabs (tabsL K tl) H → SqL K H at2 (ns.map V.int) → sp [.ref at2] H (fun v _ => v = .bl true) fun _ _ _ => False) ∧
        ∀ b : Heap, K.In b → b.Ns mainGlobals mg → (∀ p ∈ tl, LamX.TabB b mg (He.cT K p.1).1 (He.cT K p.1).2) → FnOk law.prog w K mg b (L2.CX law.prog w) lv at_ fd [p] sp) :
    PySem.W.WalkO qp free XP YP law.row.toRowW dr [] (fun f vs => PySem.call f vs) := by
  refine Att.attach_call hmost hdef fun w sA sB mg mb at_ ob pm cd dc at2 vs ns Gd Yw h1 h2 h3 hmg h4 h5 h6 h7 => ?_
  obtain ⟨K, fd, sp, tl, KX, T, hb, hsp, hF⟩ := F w mg at_ sB.heap Yw Gd.T.g hmg
  have mem : ∀ {q : Addr × Addr}, q ∈ tl.map (fun p => He.cT K p.1) → ∃ p ∈ tl, He.cT K p.1 = q := fun h => List.mem_map.mp h
  refine LamX.law_callTs (cs := tl.map fun p => He.cT K p.1) KX Gd.T.g Gd.T.b Gd.T.builtins Gd.T.nolimit h7 (fun q hq => ?_) (fun q hq => ?_) (fun q hq => ?_) Gd.T.bmain h4 h5 (Nat.le_trans h6 htop) hroom (fun b kb nb tb => hF b kb nb fun p hp => tb _ (List.mem_map.mpr ⟨p, hp, rfl⟩)) hb (fun H hT hS => hsp H at2 ns h6 (fun q hq => ?_) hS) fun H e s' z => ?_
  · obtain ⟨p, hp, rfl⟩ := mem hq
    exact T.emp p hp
  · obtain ⟨p, hp, rfl⟩ := mem hq
    exact T.out p hp
  · obtain ⟨p, hp, rfl⟩ := mem hq
    exact PySem.W.codeHd_of_K KX (T.hd p hp)
  · obtain ⟨p, hp, rfl⟩ := List.mem_map.mp hq
    exact LamX.TabS.nil (hT _ (List.mem_map.mpr ⟨p, hp, rfl⟩))
  · obtain ⟨_, _, _, _, _, _, _, _, _, _, _, _, _, z⟩ := z
end Bk

set_option Elab.async false
set_option linter.all false
set_option maxRecDepth 100000
set_option maxHeartbeats 4000000
namespace Bs
open PySem PySem.Calls PyProof.Rows PyProof.V PySem.Spec PySem.W
section
variable {prog : Program} {w : World} {A : Around} {E : Value → Shared → Prop} {s : Shared}
/-- one, *others = a list -/
theorem unpack_one {l : Addr} {x : Value} {xs : List Value} {Q : List Value → Shared → Prop} (hl : s.heap.IsList l (x :: xs).toArray) (hh : A.handled = none) (hz : (x :: xs).length ≤ sizeLine)
    (h : ∀ (h' : Heap) (tk : Nat), (∀ b o, s.heap.get? b = some o → h'.get? b = some o) → Q [x, .ref h'.objs.size] { s with heap := h'.push { cls := .type "list", data := .seq xs.toArray }, toks := tk }) :
    wpAny (model prog w) A (unpackItems (.ref l) 2 (some 1)) Q E s := by
  have hlt : l ≠ s.heap.objs.size := by obtain ⟨o, ho, _⟩ := hl; exact Nat.ne_of_lt (Heap.lt_size ho)
  have hll : l < s.heap.objs.size := by obtain ⟨o, ho, _⟩ := hl; exact Heap.lt_size ho
  have hsz : (x :: xs).toArray.size = xs.length + 1 := by simp
  unfold unpackItems notIterableAtAll
  refine wpAny_bind (wpAny_bind (wpAny_specialOf hl.typeIs slot_list_iter.lookup (wpAny_pure ?_)))
  simp only [Bool.false_eq_true, if_false]
  refine wpAny_bind (wpAny_holding (wpAny_pyIter_list hl ?_))
  refine wpAny_bind (wpAny_holding (kun_draw hlt 1 0 _ _ ⟨_, Heap.get?_push_size _ rfl, rfl, rfl⟩ (hl.push _) (by rw [hsz]; omega) fun h1 it1 b1 => ?_))
  have l1 : h1.IsList l (x :: xs).toArray := (hl.push _).extBut b1.extBut hlt
  have it2 := it1
  obtain ⟨oi, hoi, _⟩ := it2
  have l2 := l1
  obtain ⟨ol, hol, _⟩ := l2
  refine wpAny_bind (wpAny_holding (kun_collect (s := { s with heap := h1 }) (T := "list_iterator") (.inr (.inr (.inl rfl))) (Walks.list (A := A.in1) hh s.heap.objs.size l hlt (x :: xs).toArray) (fun j u st => st.1.typeIs) (k := 1) (by rw [hsz]; omega) ⟨it1, l1⟩ (Heap.lt_size hoi) (Heap.lt_size hol) (fun h2 tk hk => ?_) (by rw [hsz]; exact hz)))
  have e1 : (x :: xs).toArray.toList.drop 1 = xs := rfl
  rw [e1]
  show wpAny _ _ (newList (xs.take (xs.length - 0)) >>= fun d => pure ([x] ++ [d] ++ xs.drop (xs.length - 0))) _ _ _
  rw [Nat.sub_zero, List.take_length, List.drop_length]
  have kp : ∀ b o, s.heap.get? b = some o → h2.get? b = some o := fun b o e => hk b o (Nat.ne_of_lt (Heap.lt_size e)) (b1.extBut b o (Nat.ne_of_lt (Heap.lt_size e)) (Heap.get?_push_of_some _ e))
  exact wpAny_bind (wpAny_newList (wpAny_pure (h h2 tk kp)) (Nat.le_trans (Nat.le_succ _) hz))
end
end Bs
namespace Bk
open PySem PySem.Spec PyProof.Rows L2
/-- one, *others = a list of one thing or more -/
def gStar (K : PySem.W.Frag) (t : TGs) : TG := fun v σ H Q => ∃ a x xs, v = .ref a ∧ SqL K H a (x :: xs) ∧ ∀ p, H p = none → t [x, .ref p] σ (upd H p (.lst xs)) Q
section
variable {X : Cx} {pos pos2 : Pos}
theorem pg_star {e1 e2 : Expr} {k : Nat} {t : TGs} (hc : X.calm = true) (h : PGs X [e1, e2] t) (hn : (assignEach [e1, .Starred e2 pos2] X.env).length = 2 := by rfl) (hst : (assignEach [e1, .Starred e2 pos2] X.env).findIdx? (·.1) = some 1 := by rfl)
    (hm : (assignEach [e1, .Starred e2 pos2] X.env).map (·.2) = (assignEach [e1, e2] X.env).map (·.2) := by rfl) : PG X (.Tuple [e1, .Starred e2 pos2] k pos) (gStar X.K t) := by
  refine ⟨fun pins s σ H v u Q I r hw => ?_⟩
  obtain ⟨a, x, xs, e, hq, hw⟩ := hw
  subst e
  cases r
  obtain ⟨its, rv, pl, hz⟩ := I.list hq
  cases rv with
  | @cons x v xs vs rx rs =>
  rw [PyProof.Rows.assign_Tuple]
  refine wpAny_bind (wpAny_standAt ?_)
  unfold unpack
  rw [hn, hst, hm]
  refine wpAny_bind (wpAny_holding (Bs.unpack_one pl.isList (I.ok.hd hc) (by rw [List.length_cons, ← rs.length]; exact hz) fun h' tk kp => ?_))
  have I1 : Inv X pins σ H { s with heap := h' } := I.kept (t' := s.toks) kp
  have I2 : Inv X pins σ (upd H h'.objs.size (.lst xs)) { s with heap := h'.push { cls := .type "list", data := .seq vs.toArray }, toks := tk } :=
    I1.laid (t' := tk) (fun b o e => Heap.get?_push_of_some _ e) (Nat.le_refl _) (show ObjOk X.prog X.w _ _ _ (.lst xs) from ⟨Nat.le_trans (Nat.le_succ _) hz, vs, 0, rs, Heap.get?_push_size _ rfl⟩)
  exact h.run pins _ σ _ [x, .ref h'.objs.size] [v, .ref h'.objs.size] Q I2 (.cons rx (.cons rfl .nil)) (hw _ (I1.hok.fresh (Nat.le_refl _)))
end
variable [Cls]
section
variable {X : Cx} {n : Nat} {G : Gr n} {W : WX} {Γ : List Ty} {rt : Ty}
def sStar (i j : Nat) (m : M) : MS := fun s => (m s).so fun d s1 => match d with
  | .lst (x :: xs) => .nx ((s1.set i (some x)).set j (some (.lst xs)))
  | _ => .stuck
theorem ms_star {st : Stmt} {i j : Nat} {m : M} (h : PS X st (tAsg (tM X.K G W Γ .fr m) (gStar X.K (gCons (gName i) (gCons (gName j) gNil))))) (hi : Γ[i]? = some .fr) (hj : Γ[j]? = some .fr) : MSt X G W Γ rt st (sStar i j m) :=
  psI h fun Dn σ H ⟨s, F, fp, R, q⟩ => ⟨s, F, fp, R, sbind q fun d s1 v F1 fp1 H1 R1 x a q1 => by
    cases a.rep with
    | @lst ds vs p ea rs =>
      cases rs with
      | nil => exact q1.elim
      | @cons d ds v vs r t =>
        refine ⟨p, v, vs, rfl, R1.sqL ea, fun p' hp => ⟨v, [.ref p'], rfl, .ref p', [], rfl, rfl, ?_⟩⟩
        have t1 := R1.nowF hp
        have t2 := R1.newFp hp
        have t3 := R1.newG hp
        obtain ⟨R2, x2⟩ := R1.lay (o := .lst vs) hp
        have R3 := R2.free t1 t2 t3 upd_same
        have x3 := x2.free (o := .lst vs) t1 (.inr hp) (R2.tb.no upd_same)
        have sm : Same F1 (upd F1 p' (.lst vs)) := fun b u e => by rw [upd_ne (ne_of_none e t1)]; exact e
        exact q1 _ _ _ _ ((R3.putF hi (r.mono sm)).putF hj (.lst upd_same (t.mono sm))) x3.putF.putF
    | _ => exact q1.elim⟩
end
end Bk

set_option Elab.async false
set_option linter.all false
set_option maxRecDepth 100000
set_option maxHeartbeats 4000000
namespace Bk
open PySem PySem.Spec PyProof.Rows L2
/-! ### calls by keywords -/
/-- what keywords tell, in the parameters' order -/
def tCallKS (m : Nat) (sp : Sp) (gV : List V → List V → List V) (E : L2.St → XK) (tk : TA) : TE := fun σ H Q => tk σ H fun zs H2 => zs.length = m ∧ sp (gV [] zs) H2 Q (E σ)
section
variable {X : Cx} {CX : CXT} {k n : Nat} {f : Addr} {fd : FuncData} {ps ks : List Str} {sp : Sp} {E : L2.St → XK} {x : Str} {p pos : Pos} {kws : List Keyword} {tk : TA} {g : List Value → List Value → List Value} {gV : List V → List V → List V} {dvs : List V} {ds : List Value}
theorem run_kw {pins : List (Addr × Obj)} {σ : L2.St} {H : Hp} {s : Shared} {Q : VK} {ws : List Value} {zs : List V} (F : FnOk X.prog X.w X.K X.mg X.base CX k f fd ps sp) (hr : Room k X.A) (hb : KBn X.K fd ps 0 ks g gV) (hx : PassesAt CX X σ (E σ))
    (I : Inv X pins σ H s) (rz : Vals zs ws) (hl : zs.length = ks.length) (h : sp (gV [] zs) H Q (E σ)) : wpAny (model X.prog X.w) X.A (call (.ref f) [] (ks.zip ws)) (EP X pins σ Q) X.xe s := by
  have b := hb.to s [] ws I.kIn rfl (rz.length.symm.trans hl)
  have go := F.run X.A X.stack s H ⟨[], ks.zip ws⟩ (g [] ws) (gV [] zs) Q (E σ) hr I.env0 b (hb.rel .nil rz) h
  refine wpAny_call (codeAny_mono go fun r z q => ?_)
  rcases r with e | fl
  · exact hx pins H s e z I q
  · cases fl <;> first | exact I.after q | exact q.elim
theorem pe_kw (F : FnOk X.prog X.w X.K X.mg X.base CX k f fd ps sp) (hr : Room k X.A) (hg : Gl X x) (hm : X.mg x = some (.ref f)) (hk : PySem.W.keepIn X.K (.ref f) = true) (hb : KBn X.K fd ps 0 ks g gV) (hx : ∀ σ, PassesAt CX X σ (E σ)) (hkw : PK X kws tk)
    (h1 : (backToKw pos (keywordEach kws X.env)).all (·.1.isSome) = true := by rfl) (h2 : (backToKw pos (keywordEach kws X.env)).filterMap (·.1) = ks := by rfl) (h3 : (x == ("__debug__" : Str)) = false := by decide)
    (h4 : ((backTo pos (starEach [] X.env)).any (·.1) || (backToKw pos (keywordEach kws X.env)).any (·.1.isNone)) = false := by rfl) : PE X (.Call (.Name x p) [] kws pos) (tCallKS ks.length sp gV E tk) := by
  refine ⟨fun pins s σ H Q I q => wpAny_Call_Name_kw (ld_glob I hg hm ?_ h3)⟩
  refine PySem.W.callWith_KW0 (h₀ := X.base) I.ok.mod.kin hk h1 ?_ h4
  refine thn (hkw.run pos pins s σ H _ I q) fun ws z ⟨zs, H2, J, rz, l, w⟩ => ⟨J.kIn, ?_⟩
  rw [h2]
  exact run_kw F hr hb (hx σ) J rz l w
theorem pe_none (F : FnOk X.prog X.w X.K X.mg X.base CX k f fd ps sp) (hr : Room k X.A) (hg : Gl X x) (hm : X.mg x = some (.ref f)) (hk : PySem.W.keepIn X.K (.ref f) = true) (hb : Binds X.K fd ps ds) (hd : Vals dvs ds) (hx : ∀ σ, PassesAt CX X σ (E σ))
    (h3 : (x == ("__debug__" : Str)) = false := by decide) : PE X (.Call (.Name x p) [] [] pos) (tCallSD sp dvs E tNil) :=
  ⟨fun pins s σ H Q I q => wpAny_Call_Name_kw (ld_glob I hg hm (PySem.W.callWith_K0 I.kIn hk (run_fnSD (us := []) F hr hb hd (hx σ) I .nil q)) h3)⟩
end
variable [Cls]
section
variable {X : Cx} {n : Nat} {G : Gr n} {W : WX} {Γ : List Ty} {rt : Ty}
/-- the values of keywords -/
abbrev MKs (X : Cx) {n : Nat} (G : Gr n) (W : WX) (Γ : List Ty) (kws : List Keyword) (m : MA) : Prop := PK X kws (tMA X.K G W Γ m)
theorem pkI {kws : List Keyword} {t t' : TA} (h : PK X kws t) (f : ∀ σ H Q, t' σ H Q → t σ H Q) : PK X kws t' := ⟨fun po pins s σ H Q I q => h.run po pins s σ H Q I (f σ H Q q)⟩
theorem mk_nil : MKs X G W Γ [] mNil := pkI pk_nil fun σ H Q ⟨s, F, fp, R, q⟩ => pok q R .nil
theorem mk_cons {e : Expr} {nm : Option Str} {kpos : Pos} {kws : List Keyword} {m : M} {ms : MA} (h : ME X G W Γ e .fr m) (hs : MKs X G W Γ kws ms) : MKs X G W Γ (⟨nm, e, kpos⟩ :: kws) (mCons m ms) :=
  pkI (pk_cons h hs) fun σ H Q ⟨s, F, fp, R, q⟩ => ⟨s, F, fp, R, pbind q fun d s1 x F1 fp1 H1 R1 st1 a1 q1 => ⟨s1, F1, fp1, R1, pbind q1 fun ds s2 xs F2 fp2 H2 R2 st2 a2 q2 => pok q2 R2 (.cons (a1.rep.mono st2.f) a2)⟩⟩
/-- the def x, called by the keywords ks alone: gD puts their values and the defaults in the parameters' order -/
structure CalK (P : Program) (w : World) (K : PySem.W.Frag) (mg : Str → Option Value) (base : Heap) (k : Nat) (x : Str) (np : Nat) (f : List D → R D) (ks : List Str) (gD : List D → List D) : Prop where
  ex : ∃ (a : Addr) (fd : FuncData) (ps : List Str) (g : List Value → List Value → List Value) (gV : List V → List V → List V), FnOk P w K mg base (L2.CX P w) k a fd ps (spM K (List.replicate np .fr) .fr f) ∧ mg x = some (.ref a) ∧ PySem.W.keepIn K (.ref a) = true ∧ KBn K fd ps 0 ks g gV ∧
    ∀ F ds vs, Reps F ds vs → vs.length = ks.length → Reps F (gD ds) (gV [] vs) ∧ (gD ds).length = np
def mPm (gD : List D → List D) (ms : MA) : MA := fun s => (ms s).bind fun ds s1 => .ok (gD ds) s1
theorem args_none {σ : L2.St} {F : Hp} : ∀ {ds : List D} {vs : List V}, Reps F ds vs → ArgsOk σ F (List.replicate ds.length none) ds vs
  | _, _, .nil => .nil
  | _, _, .cons r t => .fr r (args_none t)
theorem me_callK {k np : Nat} {x : Str} {kws : List Keyword} {ks : List Str} {p pos : Pos} {f : List D → R D} {gD : List D → List D} {ms : MA} (C : CalK X.prog X.w X.K X.mg X.base k x np f ks gD) (hr : Room k X.A) (tk : Takes X W) (hg : Gl X x) (ha : MKs X G W Γ kws ms) (hl : LenOk ms ks.length)
    (h1 : (backToKw pos (keywordEach kws X.env)).all (·.1.isSome) = true := by rfl) (h2 : (backToKw pos (keywordEach kws X.env)).filterMap (·.1) = ks := by rfl) (h3 : (x == ("__debug__" : Str)) = false := by decide)
    (h4 : ((backTo pos (starEach [] X.env)).any (·.1) || (backToKw pos (keywordEach kws X.env)).any (·.1.isNone)) = false := by rfl)
    (hts : (List.replicate np (none : Option Nat)).map (tyAt Γ) = List.replicate np .fr := by rfl) (hn : nd (List.replicate np none) = true := by rfl) (hj : ∀ j ∈ (List.replicate np (none : Option Nat)).filterMap id, j < Γ.length := by decide) :
    ME X G W Γ (.Call (.Name x p) [] kws pos) .fr (mCallF f (List.replicate np none) [] (mPm gD ms)) := by
  obtain ⟨a, fd, ps, g, gV, F, hm, hk, hb, hre⟩ := C.ex
  have h := pe_kw (E := WE W) (p := p) (pos := pos) F hr hg hm hk hb (fun σ => passAt tk σ) ha h1 h2 h3 h4
  refine peI h fun σ H Q q => ?_
  have q2 := call_go (spa := List.replicate np none) (dflt := []) (dvs := []) (fun F => .nil) (by simp) hn hj hts q
  obtain ⟨s, F0, fp, R, q3⟩ := q2
  refine ⟨s, F0, fp, R, ?_⟩
  unfold mPm at q3
  exact pmapL hl R q3 fun ds s1 vs F1 fp1 H1 el R1 st1 a1 q4 => by
    obtain ⟨r1, l1⟩ := hre F1 ds vs a1 (by rw [← a1.len, el])
    refine ⟨by rw [← a1.len, el], ?_⟩
    have z : spM X.K (List.replicate np .fr) .fr f (gV [] vs ++ []) H1 Q (WE W σ) := q4 (gV [] vs) F1 fp1 H1 R1 (Stp.refl F1 fp1 H1) (by rw [← l1]; exact args_none r1)
    rw [List.append_nil] at z
    exact z
theorem me_call0 {k : Nat} {x : Str} {p pos : Pos} {f : List D → R D} {sp : Spc} {dflt : List D} {dvs : List V} {ts : List Ty} {t : Ty} (C : Cal X.prog X.w X.K X.mg X.base k x ts t f dvs) (hr : Room k X.A) (tk : Takes X W) (hg : Gl X x) (hd : ∀ F, Reps F dflt dvs := by intro F; exact .nil)
    (hsp : sp = [] ++ List.replicate dflt.length none := by rfl) (hn : nd sp = true := by rfl) (hj : ∀ j ∈ sp.filterMap id, j < Γ.length := by decide) (hts : sp.map (tyAt Γ) = ts := by rfl)
    (hdb : (x == ("__debug__" : Str)) = false := by decide) : ME X G W Γ (.Call (.Name x p) [] [] pos) t (mCallF f sp dflt mNil) := by
  obtain ⟨a, fd, ps, ds, F, hm, hk, hb, hv⟩ := C.ex
  have h := pe_none (E := WE W) (p := p) (pos := pos) F hr hg hm hk hb hv (fun σ => passAt tk σ) hdb
  exact me_call (peI h fun σ H Q ⟨s, F, fp, R, q⟩ => pok q R .nil) hd hsp hn hj hts
end
/-! ### a tuple of ints at a name of the module -/
def intsB : List Value → List Int → Bool
  | [], [] => true
  | .int i _ :: us, j :: ns => decide (i = j) && intsB us ns
  | _, _ => false
theorem intsB_ok : ∀ {us : List Value} {ns : List Int}, intsB us ns = true → Vals (ns.map V.int) us
  | [], [], _ => .nil
  | .int i t :: us, j :: ns, h => by
    have h2 : (decide (i = j) && intsB us ns) = true := h
    rw [Bool.and_eq_true, decide_eq_true_iff] at h2
    obtain ⟨rfl, h3⟩ := h2
    exact .cons ⟨t, rfl⟩ (intsB_ok h3)
  | [], _ :: _, h => by cases h
  | .int _ _ :: _, [], h => by cases h
  | .none :: _, _, h => by cases h
def gtupB (x : Str) (ns : List Int) : Ft := fun K => match K.lookup (He.ga K x) with
  | some o => decide (o.cls = .type "tuple") && (match o.data with
    | .seq its _ => decide (its.size ≤ 1000) && intsB its.toList ns
    | _ => false)
  | none => false
theorem gtup_ok {K : PySem.W.Frag} {H : Hp} {x : Str} {ns : List Int} (h : gtupB x ns K = true) : SqT K H (He.ga K x) (ns.map V.int) := by
  unfold gtupB at h
  split at h
  · rename_i o e
    rw [Bool.and_eq_true, decide_eq_true_iff] at h
    obtain ⟨h1, h2⟩ := h
    split at h2
    · rename_i its m e2
      rw [Bool.and_eq_true, decide_eq_true_iff] at h2
      exact .inr ⟨o, its, m, e, h1, e2, small_line h2.1, intsB_ok h2.2⟩
    · cases h2
  · cases h
theorem dp_ints {K : PySem.W.Frag} {H : Hp} : ∀ ns : List Int, DpAll K H (ns.map V.int) (ns.map PyData.int)
  | [] => .nil
  | n :: ns => .cons (.int n) (dp_ints ns)
def mInG (g : Bool → Bool) (ns : List Int) (ma : M) : M := fun s => (ma s).bind fun d s1 => if D.flat 60 d = true then .ok (.bl (g (ns.any fun z => D.eq (.int z) d))) s1 else .stuck
section
variable {X : Cx} {n : Nat} {G : Gr n} {W : WX} {Γ : List Ty} {a : Expr} {ma : M} {pos p2 : Pos}
theorem pys_ints (ns : List Int) : D.pys (ns.map D.int) = ns.map PyData.int := by
  rw [pys_map, List.map_map]
  rfl
theorem two_inG {K : PySem.W.Frag} {σ : Sl} {H : Hp} {Q : VK} {g : Bool → Bool} {T : Addr} {ns : List Int} (ht : ∀ H, SqT K H T (ns.map V.int)) (hs : D.flat 60 (.tup (ns.map D.int)) = true) (h : tM K G W Γ .fr (mInG g ns ma) σ H Q) :
    tM K G W Γ .fr ma σ H fun x H1 => tC (.ref T) σ H1 fun y H2 => rInB K g x y H2 Q := by
  obtain ⟨s, F, fp, R, q⟩ := h
  refine ⟨s, F, fp, R, pbind q fun d s1 x F1 fp1 H1 R1 st1 a1 q1 => ?_⟩
  by_cases hf : D.flat 60 d = true
  · rw [if_pos hf] at q1
    have es : SeqAt.shaped (PyData.tuple (ns.map .int)) = true := by
      have q := D.shaped (d := .tup (ns.map D.int)) hs
      rw [show (D.tup (ns.map D.int)).py = .tuple (ns.map .int) from congrArg PyData.tuple (pys_ints ns)] at q
      exact q
    refine ⟨d.py, .tuple (ns.map .int), ns.map .int, R1.dp hf a1.rep, .tup (ht H1) (dp_ints ns), .inr rfl, D.shaped hf, es, ?_⟩
    have e : ((ns.map PyData.int).any fun z => PyData.eqv z d.py) = ns.any fun z => D.eq (.int z) d := by
      rw [← pys_ints, pys_any, List.any_map]
      rfl
    rw [e]
    exact pok q1 R1 (AE.fr (.bl _))
  · rw [if_neg hf] at q1
    exact q1.elim
theorem mt_notinG {k : Nat} {x : Str} {ns : List Int} (hr : Room k X.A) (hm : X.mg x = some (.ref (He.ga X.K x))) (ht : gtupB x ns X.K = true) (ha : ME X G W Γ a .fr ma) (hg : Gl X x) (hs : D.flat 60 (.tup (ns.map D.int)) = true := by rfl) (hd : (x == ("__debug__" : Str)) = false := by decide) : MT X G W Γ (.Compare a [.NotIn] [.Name x p2] pos) (mTst (mInG (fun k => !k) ns ma)) :=
  ptI (pt_cmpR (op_notInB (units65 hr)) ha (pe_glob (v := .ref (He.ga X.K x)) hg hm rfl hd) (by with_unfolding_all rfl)) fun σ H Q h => two_inG (fun H => gtup_ok ht) hs (tst h)
end
end Bk

set_option Elab.async false
set_option linter.all false
set_option maxRecDepth 100000
set_option maxHeartbeats 4000000
namespace Bk
open PySem PySem.Spec PyProof.Rows L2
/-! ### instances: their making and their methods; what is raised is wished for at the caller's slots -/
/-- a new thing of the class at C -/
def tMakeS (C : Addr) (sp : Sp) (dvs : List V) (E : L2.St → XK) (t : TA) : TE := fun σ H Q => t σ H fun vs Z =>
  ∀ a b, Z a = none → Z b = none → b ≠ a → sp (.ref a :: (vs ++ dvs)) (L2.upd (L2.upd Z b (.own a)) a (.ins C b [])) (fun u Y => u = .non ∧ Q (.ref a) Y) (E σ)
/-- a method of a thing of the class at C -/
def tMethS (C : Addr) (m : Str) (sp : Sp) (dvs : List V) (E : L2.St → XK) (ta : TE) (t : TA) : TE := fun σ H Q => ta σ H fun y Z =>
  ∃ a b fs, y = .ref a ∧ Z a = some (.ins C b fs) ∧ fs.lookup m = none ∧ t σ Z fun vs Y => sp (y :: (vs ++ dvs)) Y Q (E σ)
section
variable {X : Cx} {CX : CXT} {k : Nat} {f C : Addr} {fd : FuncData} {ps : List Str} {sp : Sp} {dvs : List V} {ds : List Value} {E : L2.St → XK} {x m : Str} {p pos apos : Pos} {e o : Expr} {es : List Expr} {t : TA} {ta : TE}
theorem run_mkS {pins : List (Addr × Obj)} {σ : L2.St} {H : Hp} {s : Shared} {Q : VK} {us : List Value} {vs : List V} (M : Mk X.K C f) (F : FnOk X.prog X.w X.K X.mg X.base CX k f fd ps sp) (hr : Room (k + 1) X.A) (hb : Binds X.K fd ps ds) (hd : Vals dvs ds)
    (hx : PassesAt CX X σ (E σ)) (I : Inv X pins σ H s) (r : Vals vs us) (h : ∀ a b, H a = none → H b = none → b ≠ a → sp (.ref a :: (vs ++ dvs)) (L2.upd (L2.upd H b (.own a)) a (.ins C b [])) (fun u Y => u = .non ∧ Q (.ref a) Y) (E σ)) :
    wpAny (model X.prog X.w) X.A (call (.ref C) us) (EP X pins σ Q) X.xe s := by
  have g := h (s.heap.objs.size + 1) s.heap.objs.size (I.hok.fresh (Nat.le_succ _)) (I.hok.fresh (Nat.le_refl _)) (Nat.ne_of_lt (Nat.lt_succ_self _))
  have J := Inv.made (C := C) I
  have rs : Vals (V.ref (s.heap.objs.size + 1) :: (vs ++ dvs)) (Value.ref (s.heap.objs.size + 1) :: (us ++ ds)) := .cons rfl (r.append hd)
  have ln := rs.length.symm.trans (F.len _ _ _ _ g)
  have go := F.run _ X.stack _ _ ⟨Value.ref (s.heap.objs.size + 1) :: us, []⟩ (Value.ref (s.heap.objs.size + 1) :: (us ++ ds)) _ _ (E σ) (hr.make C us []) (J.env0.make C us []) (hb _ (Value.ref (s.heap.objs.size + 1) :: us) J.kIn ln) rs g
  refine wpAny_call (make_map (f := f) I.kIn M.makes M.init (beq_iff_eq.mp M.fn) (codeAny_mono go fun r z q => ?_))
  rcases r with e | fl
  · exact hx pins _ _ e z J q
  · cases fl with
    | ret u =>
      obtain ⟨v, Z, J3, rv, ev, q3⟩ := J.after q
      subst ev
      exact ⟨rv, ⟨V.ref (s.heap.objs.size + 1), Z, J3, rfl, q3⟩⟩
    | next => exact q.elim
    | brk => exact q.elim
    | cont => exact q.elim
theorem pe_mkS (M : Mk X.K C f) (F : FnOk X.prog X.w X.K X.mg X.base CX k f fd ps sp) (hr : Room (k + 1) X.A) (hg : Gl X x) (hm : X.mg x = some (.ref C)) (hb : Binds X.K fd ps ds) (hd : Vals dvs ds) (hx : ∀ σ, PassesAt CX X σ (E σ))
    (ha : PA X (e :: es) t) (h1 : (x == ("__debug__" : Str)) = false := by decide) (h2 : starEach (e :: es) X.env = (false, eval e X.env) :: starEach es X.env := by rfl) (h3 : (backTo pos (starEach es X.env)).any (·.1) = false := by rfl) :
    PE X (.Call (.Name x p) (e :: es) [] pos) (tMakeS C sp dvs E t) :=
  ⟨fun pins s σ H Q I q => wpAny_Call_Name_kw (ld_glob I hg hm (PySem.W.callWith_K (h₀ := X.base) I.ok.mod.kin M.kp (thn (ha.run pos pins s σ H _ I q) fun us z ⟨vs, Z, J, r, w⟩ => ⟨J.kIn, run_mkS M F hr hb hd (hx σ) J r w⟩) h2 h3) h1)⟩
theorem pe_mkS0 (M : Mk X.K C f) (F : FnOk X.prog X.w X.K X.mg X.base CX k f fd ps sp) (hr : Room (k + 1) X.A) (hg : Gl X x) (hm : X.mg x = some (.ref C)) (hb : Binds X.K fd ps ds) (hd : Vals dvs ds) (hx : ∀ σ, PassesAt CX X σ (E σ))
    (h1 : (x == ("__debug__" : Str)) = false := by decide) : PE X (.Call (.Name x p) [] [] pos) (tMakeS C sp dvs E tNil) :=
  ⟨fun pins s σ H Q I q => wpAny_Call_Name_kw (ld_glob I hg hm (PySem.W.callWith_K0 I.kIn M.kp (run_mkS (us := []) M F hr hb hd (hx σ) I .nil q)) h1)⟩
/-- how a method's call is looked up -/
def MethLook (X : Cx) (o : Expr) (m : Str) (apos pos : Pos) (es : List Expr) (pl : Sem Bool) : Prop :=
  eval (.Call (.Attribute o m apos) es [] pos) X.env = (eval o X.env >>= fun ov => standAt apos.atName >>= fun _ => holding [ov] (getMethod ov m pl) >>= fun fm => callWith pos fm.1 fm.2 (backTo pos (starEach es X.env)) (backToKw pos (keywordEach [] X.env)))
theorem pe_methS {pl : Sem Bool} (he : PE X o ta) (c : L2.Cls X.K C) (hm : Meth X.K C m f) (F : FnOk X.prog X.w X.K X.mg X.base CX k f fd ps sp) (hr : Room k X.A) (hb : Binds X.K fd ps ds) (hd : Vals dvs ds) (hx : ∀ σ, PassesAt CX X σ (E σ)) (ha : PA X (e :: es) t)
    (h2 : starEach (e :: es) X.env = (false, eval e X.env) :: starEach es X.env := by rfl) (h3 : (backTo pos (starEach es X.env)).any (·.1) = false := by rfl) (h4 : MethLook X o m apos pos (e :: es) pl := by rfl) :
    PE X (.Call (.Attribute o m apos) (e :: es) [] pos) (tMethS C m sp dvs E ta t) := by
  refine ⟨fun pins s σ H Q I q => PySem.W.methodCall_KW (pl := pl) (thn (he.run pins s σ H _ I q) fun u z ⟨y, Z, J, ry, a, b, fs, ey, ea, l, w⟩ => ?_) h4⟩
  subst ey
  obtain rfl : u = Value.ref a := ry
  exact getmeth_ok J ea c hm l (PySem.W.callWith_K (first := [.ref a]) (h₀ := X.base) I.ok.mod.kin hm.kp (thn (ha.run pos pins z σ Z _ J w) fun us z2 ⟨vs, Y, J2, r, w2⟩ => ⟨J2.kIn, run_fnSD (us := .ref a :: us) (vs := .ref a :: vs) F hr hb hd (hx σ) J2 (.cons rfl r) w2⟩) h2 h3)
theorem pe_methS0 {pl : Sem Bool} (he : PE X o ta) (c : L2.Cls X.K C) (hm : Meth X.K C m f) (F : FnOk X.prog X.w X.K X.mg X.base CX k f fd ps sp) (hr : Room k X.A) (hb : Binds X.K fd ps ds) (hd : Vals dvs ds) (hx : ∀ σ, PassesAt CX X σ (E σ))
    (h4 : MethLook X o m apos pos [] pl := by rfl) : PE X (.Call (.Attribute o m apos) [] [] pos) (tMethS C m sp dvs E ta tNil) := by
  refine ⟨fun pins s σ H Q I q => PySem.W.methodCall_KW (pl := pl) (thn (he.run pins s σ H _ I q) fun u z ⟨y, Z, J, ry, a, b, fs, ey, ea, l, w⟩ => ?_) h4⟩
  subst ey
  obtain rfl : u = Value.ref a := ry
  exact getmeth_ok J ea c hm l (PySem.W.callWith_K0 (first := [.ref a]) J.kIn hm.kp (run_fnSD (us := [.ref a]) (vs := [.ref a]) F hr hb hd (hx σ) J (.cons rfl .nil) w))
end
end Bk

set_option Elab.async false
set_option linter.all false
set_option maxRecDepth 100000
set_option maxHeartbeats 4000000
namespace Bk
open PySem PySem.Spec PyProof.Rows L2
variable [Cls]
/-! ### fields -/
theorem nil_no {a : Addr} (h : a ∈ ([] : List Addr)) : False := by cases h
def fldOf : List Str → List D → Str → Option D
  | n :: ns, d :: ds, f => if (f == n) = true then some d else fldOf ns ds f
  | _, _, _ => none
theorem fld_rep {F : Hp} {f : Str} : ∀ {ns : List Str} {ds : List D} {vs : List V} {d : D}, Reps F ds vs → fldOf ns ds f = some d → ∃ v, (ns.zip vs).lookup f = some v ∧ Rep F d v
  | [], _, _, _, _, h => by cases h
  | _ :: _, [], _, _, _, h => by cases h
  | n :: ns, d0 :: ds, _, d, .cons (v := v) (vs := vs) r t, h => by
    have h : (if (f == n) = true then some d0 else fldOf ns ds f) = some d := h
    show ∃ w, List.lookup f ((n, v) :: ns.zip vs) = some w ∧ Rep F d w
    rw [List.lookup_cons]
    cases q : f == n with
    | true =>
      rw [q, if_pos rfl] at h
      cases h
      exact ⟨v, rfl, r⟩
    | false =>
      rw [q, if_neg (by decide)] at h
      exact fld_rep t h
theorem fld_none {f : Str} : ∀ {ns : List Str} {vs : List V}, f ∉ ns → (ns.zip vs).lookup f = none
  | [], _, _ => rfl
  | _ :: _, [], _ => rfl
  | n :: ns, v :: vs, h => by
    show List.lookup f ((n, v) :: ns.zip vs) = none
    have q : (f == n) = false := beq_false_of_ne fun z => h (by rw [z]; exact List.mem_cons_self)
    rw [List.lookup_cons, q]
    exact fld_none fun z => h (List.mem_cons_of_mem _ z)
/-- o.f, o a fixed thing of the class c -/
def mFld (c f : Str) (m : M) : M := fun s => (m s).bind fun d s1 => match d with
  | .obj c' ns ds => if c' = c then R.opt (fldOf ns ds f) s1 else .stuck
  | _ => .stuck
section
variable {X : Cx} {n : Nat} {G : Gr n} {W : WX} {Γ : List Ty} {rt : Ty} {pos pos' : Pos}
theorem me_fld {e : Expr} {c f : Str} {m : M} (hc : L2.Cls X.K (Cls.ga c)) (hn : NoAttr X.K (Cls.ga c) f) (he : ME X G W Γ e .fr m) (hb : attributeBase e f X.env (eval e X.env) = eval e X.env := by rfl) : ME X G W Γ (.Attribute e f pos) .fr (mFld c f m) :=
  peI (pe_fld he hb) fun σ H Q ⟨s, F, fp, R, q⟩ => ⟨s, F, fp, R, pbind q fun d s1 v F1 fp1 H1 R1 st1 a1 q1 => by
    cases a1.rep with
    | @obj c' ns ds vs a dx ea l rs =>
      by_cases hcc : c' = c
      · subst hcc
        have q1 : PostG X.K G W Γ σ F1 fp1 H1 (AE G .fr fp H) Q (if c' = c' then Bk.R.opt (fldOf ns ds f) s1 else .stuck) := q1
        rw [if_pos rfl] at q1
        obtain ⟨z, ez, q2⟩ := opt_post q1
        obtain ⟨w, hl, rw⟩ := fld_rep rs ez
        exact ⟨a, _, dx, _, w, rfl, R1.at ea rfl, hc, hn, hl, pok q2 R1 (AE.fr rw)⟩
      · have q1 : PostG X.K G W Γ σ F1 fp1 H1 (AE G .fr fp H) Q (if c' = c then Bk.R.opt (fldOf ns ds f) s1 else .stuck) := q1
        rw [if_neg hcc] at q1
        exact q1.elim
    | emp _ =>
      have q1 : PostG X.K G W Γ σ F1 fp1 H1 (AE G .fr fp H) Q (if ("()" : Str) = c then Bk.R.opt (fldOf [] [.non] f) s1 else .stuck) := q1
      by_cases hcc : ("()" : Str) = c
      · rw [if_pos hcc] at q1
        exact q1.elim
      · rw [if_neg hcc] at q1
        exact q1.elim
    | _ => exact q1.elim⟩
/-! ### an own instance whose fields are all fixed -/
theorem atFs_fr {F H : Hp} {ns : List Str} {ds : List D} {vs : List V} {B : List Addr} (x : AtFs F H [] ns ds vs B) : Reps F ds vs ∧ B = [] ∧ ns.length = ds.length := by
  induction x with
  | nil => exact ⟨.nil, rfl, rfl⟩
  | cons a t n ih =>
    obtain ⟨r, eb⟩ := a
    subst eb
    obtain ⟨i1, i2, i3⟩ := ih
    exact ⟨.cons r i1, i2, congrArg Nat.succ i3⟩
theorem fr_atFs {F H : Hp} : ∀ {ns : List Str} {ds : List D} {vs : List V}, Reps F ds vs → ns.length = ds.length → AtFs F H [] ns ds vs []
  | [], _, _, .nil, _ => .nil
  | _ :: _, _, _, .cons r t, h => .cons (B := []) (Bs := []) ⟨r, rfl⟩ (fr_atFs t (Nat.succ.inj h)) fun _ z => (nil_no z).elim
  | [], _, _, .cons _ _, h => by cases h
  | _ :: _, _, _, .nil, h => by cases h
/-- o.f, o an own thing -/
def mFldO (i : Nat) (f : Str) : M := fun s => match s[i]? with
  | some (some (.obj _ ns ds)) => R.opt (fldOf ns ds f) s
  | _ => .stuck
theorem me_fldO {e : Expr} {i : Nat} {c f : Str} (hc : L2.Cls X.K (Cls.ga c)) (hn : NoAttr X.K (Cls.ga c) f) (he : PE X e (tVar i)) (ht : Γ[i]? = some (.ob c [])) (hb : attributeBase e f X.env (eval e X.env) = eval e X.env := by rfl) : ME X G W Γ (.Attribute e f pos) .fr (mFldO i f) :=
  peI (pe_fld he hb) fun σ H Q ⟨s, F, fp, R, q⟩ => by
    unfold mFldO at q
    split at q
    · rename_i c' ns ds e0
      obtain ⟨v, hv, p, dx, ns2, ds2, vs, Bs, e1, e2, e3, e4, l, x, _⟩ := R.slot i _ _ ht e0
      cases e1
      subst e2
      obtain ⟨rs, _, _⟩ := atFs_fr x
      obtain ⟨z, ez, q2⟩ := opt_post q
      obtain ⟨w, hl, rw⟩ := fld_rep rs ez
      exact ⟨_, hv, p, _, dx, _, w, rfl, e3, hc, hn, hl, pok q2 R (AE.fr rw)⟩
    · exact q.elim
/-- o.f = e, o an own thing without such a field so far -/
def sFldO (i : Nat) (f : Str) (m : M) : MS := fun s => (m s).so fun d s1 => match s1[i]? with
  | some (some (.obj c ns ds)) => if f ∉ ns ∧ ns.length < 900 then .nx (s1.set i (some (.obj c (ns ++ [f]) (ds ++ [d])))) else .stuck
  | _ => .stuck
theorem put_new {f : Str} {v : V} : ∀ {ns : List Str} {vs : List V}, f ∉ ns → ns.length = vs.length → putF f v (ns.zip vs) = (ns ++ [f]).zip (vs ++ [v])
  | [], [], _, _ => rfl
  | n :: ns, w :: vs, h, l => by
    show (if n = f then (n, v) :: ns.zip vs else (n, w) :: putF f v (ns.zip vs)) = (n, w) :: (ns ++ [f]).zip (vs ++ [v])
    rw [if_neg fun z => h (by rw [z]; exact List.mem_cons_self), put_new (fun z => h (List.mem_cons_of_mem _ z)) (Nat.succ.inj l)]
  | [], _ :: _, _, l => by cases l
  | _ :: _, [], _, l => by cases l
theorem ms_fldO {o e : Expr} {i : Nat} {c f : Str} {m : M} (hc : L2.Cls X.K (Cls.ga c)) (hn : NoAttr X.K (Cls.ga c) f) (ho : PE X o (tVar i)) (ht : Γ[i]? = some (.ob c [])) (he : ME X G W Γ e .fr m) (hs : swapsWith e (some (.Attribute o f pos')) pos.line X.env = pure false := by rfl) : MSt X G W Γ rt (.Assign [.Attribute o f pos'] e pos) (sFldO i f m) :=
  psI (ps_fld ho he hs) fun Dn σ H ⟨s, F, fp, R, q⟩ => ⟨s, F, fp, R, sbind q fun d s1 y F1 fp1 H1 R1 x a q1 => by
    split at q1
    · rename_i c' ns ds e0
      obtain ⟨v, hv, p, dx, ns2, ds2, vs, Bs, e1, e2, e3, e4, l, xf, n1, n2, n3, e5⟩ := R1.slot i _ _ ht e0
      cases e1
      subst e2
      obtain ⟨rs, eb, ll⟩ := atFs_fr xf
      subst eb
      by_cases hh : f ∉ ns ∧ ns.length < 900
      · rw [if_pos hh] at q1
        have hz : (ns.zip vs).length < 1000 := by rw [List.length_zip]; omega
        have hpF : p ∈ fp1 i := by rw [e5]; exact List.mem_cons_self
        have hat : At F1 (L2.upd H1 p (.ins (Cls.ga c) dx (putF f y (ns.zip vs)))) (.ob c []) (.obj c (ns ++ [f]) (ds ++ [d])) (.ref p) (fp1 i) := by
          refine ⟨p, dx, ns ++ [f], ds ++ [d], vs ++ [y], [], rfl, rfl, ?_, ?_, ?_, fr_atFs (rs.app (.cons a.rep .nil)) ?_, n1, n2, n3, e5⟩
          · rw [upd_same, put_new hh.1 l]
          · rw [upd_ne (Ne.symm n3)]; exact e4
          · rw [List.length_append, List.length_append, l]; rfl
          · rw [List.length_append, List.length_append, ll]; rfl
        obtain ⟨R2, x2⟩ := R1.own ht hpF _ hv hat
        exact ⟨_, hv, p, _, dx, _, rfl, e3, hc, hn, hz, q1 _ _ _ _ R2 x2⟩
      · rw [if_neg hh] at q1
        exact q1.elim
    · exact q1.elim⟩
end
/-! ### calls of methods -/
theorem PostG.wk {α β : Type} {K : PySem.W.Frag} {n : Nat} {G : Gr n} {W : WX} {Γ : List Ty} {σ : Sl} {F H : Hp} {fp : Fp} {A : α → β → Hp → Fp → Hp → Prop} {Q Q' : β → Hp → Prop} (f : ∀ b Z, Q b Z → Q' b Z) : ∀ {r : R α}, PostG K G W Γ σ F fp H A Q r → PostG K G W Γ σ F fp H A Q' r
  | .ok _ _, h => fun b F' fp' H' R y z => f b H' (h b F' fp' H' R y z)
  | .err _ _, h => h
  | .stuck, h => h
theorem call_fr {K : PySem.W.Frag} {n : Nat} {G : Gr n} {W : WX} {Γ : List Ty} {s : Env} {σ : Sl} {F H : Hp} {fp : Fp} {Q : VK} {f : List D → R D} {t : Ty} {ds : List D} {vs : List V} {np : Nat} (R : Rel G Γ s σ F fp H) (rs : Reps F ds vs) (hl : ds.length = np)
    (q : PostG K G W Γ σ F fp H (AE G t fp H) Q (match f ds with
      | .ok r _ => .ok r s
      | .err er _ => .err er s
      | .stuck => .stuck)) : spM K (List.replicate np .fr) t f vs H Q (WE W σ) := by
  have seen : ∀ {e' : Env} {F' H' : Hp} {fp' : Fp}, Pst G.L (List.replicate np .fr) vs e' F (fun _ => []) H F' fp' H' → Rel G Γ s σ F' fp H' ∧ Stp L0 F fp H F' fp H' := fun {e' F' H' fp'} p => by
    have x : Stp L0 F fp H F' fp H' := ⟨p.stp.f, fun a o e hz _ => p.stp.keep a o e hz fun _ z => nil_no z, fun i a h => .inl ⟨i, h⟩, fun a h e _ => p.stp.nof a h e fun _ z => nil_no z, p.stp.there, p.stp.nt, p.stp.tab⟩
    refine ⟨R.step x (fun i a h o e => p.stp.keep a o e ((R.oh i a h).ntab R.tb) fun _ z => nil_no z) (fun i a h => p.stp.nof a (R.oh i a h) (R.nF i a h) fun _ z => nil_no z) (fun a o e1 e2 => ?_), x⟩
    have z := p.ext a o e2
    unfold lk at z
    cases zL : G.L a with
    | none => rw [zL] at z; exact z
    | some ob =>
      obtain ⟨o', e', _⟩ := R.lkd a ob zL
      rw [e1] at e'
      cases e'
  refine ⟨ds, F, fun _ => [], G.L, ⟨by rw [hl, List.length_replicate], by rw [← rs.len, hl, List.length_replicate], fun i t d v ht hd hv => ?_, fun _ _ _ z => (nil_no z).elim, fun _ _ z => (nil_no z).elim, fun _ _ z => (nil_no z).elim, R.ext, R.lkd, R.tb⟩, ?_⟩
  · rw [List.getElem?_replicate] at ht
    split at ht
    · cases ht
      obtain ⟨v', h1, h2⟩ := rs.get hd
      rw [hv] at h1
      cases h1
      exact ⟨h2, rfl⟩
    · cases ht
  · cases ef : f ds with
    | ok r e' =>
      rw [ef] at q
      intro v F' fp' H' B p aB tq
      obtain ⟨R2, x2⟩ := seen p
      exact q v F' fp H' R2 x2 ⟨B, aB, fun b hb => ⟨(tq b hb).1, fun i hi => (R.oh i b hi).ne (tq b hb).2.2, R.newG (tq b hb).2.2, .inr (tq b hb).2.2⟩⟩
    | err er e' =>
      rw [ef] at q
      intro cls od F' fp' H' p z
      obtain ⟨R2, x2⟩ := seen p
      exact q cls od F' fp H' R2 x2 z
    | stuck => rw [ef] at q; exact q.elim
/-- the method m of the class c -/
structure CalM (P : Program) (w : World) (K : PySem.W.Frag) (mg : Str → Option Value) (base : Heap) (k : Nat) (c m : Str) (np : Nat) (t : Ty) (f : List D → R D) (dvs : List V) : Prop where
  ex : ∃ (a : Addr) (fd : FuncData) (ps : List Str) (ds : List Value), FnOk P w K mg base (L2.CX P w) k a fd ps (spM K (List.replicate (np + 1) .fr) t f) ∧ L2.Cls K (Cls.ga c) ∧ Meth K (Cls.ga c) m a ∧ Binds K fd ps ds ∧ Vals dvs ds
def mMeth (c m : Str) (f : List D → R D) (dflt : List D) (mo : M) (ms : MA) : M := fun s => (mo s).bind fun d s1 => match d with
  | .obj c' ns fs => if (c' = c ∧ m ∉ ns) ∧ c' ≠ "()" then (ms s1).bind fun ds s2 => match f (.obj c' ns fs :: (ds ++ dflt)) with
      | .ok r _ => .ok r s2
      | .err er _ => .err er s2
      | .stuck => .stuck
    else .stuck
  | _ => .stuck
section
variable {X : Cx} {n : Nat} {G : Gr n} {W : WX} {Γ : List Ty} {rt : Ty} {pos apos : Pos}
theorem meth_go {K : PySem.W.Frag} {σ : L2.St} {H : Hp} {Q : VK} {c m : Str} {f : List D → R D} {dflt : List D} {dvs : List V} {mo : M} {ms : MA} {t : Ty} {np j : Nat} (hl : LenOk ms j) (hj : j + dflt.length = np) (hd : ∀ F, Reps F dflt dvs) (h : tM K G W Γ t (mMeth c m f dflt mo ms) σ H Q) :
    tMethS (Cls.ga c) m (spM K (List.replicate (np + 1) .fr) t f) dvs (WE W) (tM K G W Γ .fr mo) (tMA K G W Γ ms) σ H Q := by
  obtain ⟨s, F, fp, R, q⟩ := h
  refine ⟨s, F, fp, R, pbind q fun d s1 v F1 fp1 H1 R1 st1 a1 q1 => ?_⟩
  have ar := a1.rep
  cases ar with
  | @obj c' ns fs vs a dx ea l rs =>
    by_cases hc : (c' = c ∧ m ∉ ns) ∧ c' ≠ "()"
    · have q2 : PostG K G W Γ σ F1 fp1 H1 (AE G t fp H) Q (if (c' = c ∧ m ∉ ns) ∧ c' ≠ "()" then (ms s1).bind fun ds s2 => match f (.obj c' ns fs :: (ds ++ dflt)) with
          | .ok r _ => .ok r s2
          | .err er _ => .err er s2
          | .stuck => .stuck
        else .stuck) := q1
      rw [if_pos hc] at q2
      obtain ⟨⟨rfl, hm⟩, _⟩ := hc
      refine ⟨a, dx, _, rfl, R1.at ea rfl, fld_none hm, s1, F1, fp1, R1, pmapL hl R1 q2 fun ds s2 us F2 fp2 H2 el R2 st2 r2 q3 => ?_⟩
      refine call_fr R2 (ds := .obj c' ns fs :: (ds ++ dflt)) (.cons (a1.rep.mono st2.f) (r2.app (hd F2))) (by rw [List.length_cons, List.length_append, el, hj]) ?_
      exact q3.imp fun r v F' fp' H' z => z.back (st1.trans st2)
    · have q2 : PostG K G W Γ σ F1 fp1 H1 (AE G t fp H) Q (if (c' = c ∧ m ∉ ns) ∧ c' ≠ "()" then (ms s1).bind fun ds s2 => match f (.obj c' ns fs :: (ds ++ dflt)) with
          | .ok r _ => .ok r s2
          | .err er _ => .err er s2
          | .stuck => .stuck
        else .stuck) := q1
      rw [if_neg hc] at q2
      exact q2.elim
  | emp _ =>
    have q2 : PostG K G W Γ σ F1 fp1 H1 (AE G t fp H) Q (if (("()" : Str) = c ∧ m ∉ ([] : List Str)) ∧ ("()" : Str) ≠ "()" then (ms s1).bind fun ds s2 => match f (.obj "()" [] [.non] :: (ds ++ dflt)) with
          | .ok r _ => .ok r s2
          | .err er _ => .err er s2
          | .stuck => .stuck
        else .stuck) := q1
    rw [if_neg fun z => z.2 rfl] at q2
    exact q2.elim
  | _ => exact q1.elim
theorem me_meth {k np j : Nat} {c m : Str} {o e : Expr} {es : List Expr} {f : List D → R D} {dflt : List D} {dvs : List V} {mo : M} {ms : MA} {t : Ty} {pl : Sem Bool} (C : CalM X.prog X.w X.K X.mg X.base k c m np t f dvs) (hr : Room k X.A) (tk : Takes X W) (ho : ME X G W Γ o .fr mo) (ha : MAs X G W Γ (e :: es) ms) (hl : LenOk ms j)
    (hj : j + dflt.length = np := by rfl) (hd : ∀ F, Reps F dflt dvs := by intro F; exact .nil) (h2 : starEach (e :: es) X.env = (false, eval e X.env) :: starEach es X.env := by rfl) (h3 : (backTo pos (starEach es X.env)).any (·.1) = false := by rfl) (h4 : MethLook X o m apos pos (e :: es) pl := by rfl) :
    ME X G W Γ (.Call (.Attribute o m apos) (e :: es) [] pos) t (mMeth c m f dflt mo ms) := by
  obtain ⟨a, fd, ps, ds, F, hc, hm, hb, hv⟩ := C.ex
  exact peI (pe_methS ho hc hm F hr hb hv (fun σ => passAt tk σ) ha h2 h3 h4) fun σ H Q h => meth_go hl hj hd h
theorem me_meth0 {k np : Nat} {c m : Str} {o : Expr} {f : List D → R D} {dflt : List D} {dvs : List V} {mo : M} {t : Ty} {pl : Sem Bool} (C : CalM X.prog X.w X.K X.mg X.base k c m np t f dvs) (hr : Room k X.A) (tk : Takes X W) (ho : ME X G W Γ o .fr mo)
    (hj : 0 + dflt.length = np := by rfl) (hd : ∀ F, Reps F dflt dvs := by intro F; exact .nil) (h4 : MethLook X o m apos pos [] pl := by rfl) :
    ME X G W Γ (.Call (.Attribute o m apos) [] [] pos) t (mMeth c m f dflt mo mNil) := by
  obtain ⟨a, fd, ps, ds, F, hc, hm, hb, hv⟩ := C.ex
  refine peI (pe_methS0 ho hc hm F hr hb hv (fun σ => passAt tk σ) h4) fun σ H Q h => ?_
  obtain ⟨s, F, fp, R, q⟩ := meth_go len_nil hj hd h
  exact ⟨s, F, fp, R, PostG.wk (fun v Z ⟨a, b, fs, e1, e2, e3, s, F, fp, R, q⟩ => ⟨a, b, fs, e1, e2, e3, pok q R .nil⟩) q⟩
end
end Bk

set_option Elab.async false
set_option linter.all false
set_option maxRecDepth 100000
set_option maxHeartbeats 4000000
namespace Bk
open PySem PySem.Spec PyProof.Rows L2
variable [Cls]
/-! ### the making of an instance; behind its __init__ it is fixed -/
structure CalI (P : Program) (w : World) (K : PySem.W.Frag) (mg : Str → Option Value) (base : Heap) (k : Nat) (c : Str) (np : Nat) (f : List D → R D) (dvs : List V) : Prop where
  ex : ∃ (a : Addr) (fd : FuncData) (ps : List Str) (ds : List Value), FnOk P w K mg base (L2.CX P w) k a fd ps (spM K (.ob c [] :: List.replicate np .fr) .fr f) ∧ mg c = some (.ref (Cls.ga c)) ∧ Mk K (Cls.ga c) a ∧ Binds K fd ps ds ∧ Vals dvs ds
def mMake (c : Str) (f : List D → R D) (dflt : List D) (ms : MA) : M := fun s => (ms s).bind fun ds s1 => match f (.obj c [] [] :: (ds ++ dflt)) with
  | .ok .non (some (.obj c' ns fs) :: _) => .ok (.obj c' ns fs) s1
  | .ok _ _ => .stuck
  | .err er _ => .err er s1
  | .stuck => .stuck
def fpN (a b : Addr) : Fp := fun i => if i = 0 then [a, b] else []
theorem fpN_mem {a b x : Addr} {i : Nat} (h : x ∈ fpN a b i) : i = 0 ∧ (x = a ∨ x = b) := by
  unfold fpN at h
  by_cases z : i = 0
  · rw [if_pos z] at h
    refine ⟨z, ?_⟩
    rcases List.mem_cons.mp h with q | q
    · exact .inl q
    · exact .inr (List.mem_singleton.mp q)
  · rw [if_neg z] at h; cases h
theorem make_go {K : PySem.W.Frag} {n : Nat} {G : Gr n} {W : WX} {Γ : List Ty} {s : Env} {σ : Sl} {F H : Hp} {fp : Fp} {Q : VK} {f : List D → R D} {c : Str} {ds : List D} {vs : List V} {np : Nat} (R : Rel G Γ s σ F fp H) (rs : Reps F ds vs) (hl : ds.length = np) {a b : Addr} (ha : H a = none) (hb : H b = none) (hne : b ≠ a)
    (q : PostG K G W Γ σ F fp H (AE G .fr fp H) Q (match f (.obj c [] [] :: ds) with
      | .ok .non (some (.obj c' ns fs) :: _) => .ok (.obj c' ns fs) s
      | .ok _ _ => .stuck
      | .err er _ => .err er s
      | .stuck => .stuck)) : spM K (.ob c [] :: List.replicate np .fr) .fr f (.ref a :: vs) (L2.upd (L2.upd H b (.own a)) a (.ins (Cls.ga c) b [])) (fun u Y => u = .non ∧ Q (.ref a) Y) (WE W σ) := by
  have h2a : L2.upd H b (.own a) a = none := by rw [upd_ne (Ne.symm hne)]; exact ha
  have up : ∀ {x : Addr} {o : HO}, H x = some o → L2.upd (L2.upd H b (.own a)) a (.ins (Cls.ga c) b []) x = some o := fun {x o} e => by
    rw [upd_ne (ne_of_none e ha), upd_ne (ne_of_none e hb)]
    exact e
  have atb : L2.upd (L2.upd H b (.own a)) a (.ins (Cls.ga c) b []) b = some (.own a) := by rw [upd_ne hne]; exact upd_same
  have np' : ∀ {x : Addr}, H x ≠ none → ∀ i, x ∉ fpN a b i := fun {x} h i hi => by
    rcases (fpN_mem hi).2 with rfl | rfl
    · exact h ha
    · exact h hb
  have ntu : ∀ {x : Addr}, Nt H x → Nt (L2.upd (L2.upd H b (.own a)) a (.ins (Cls.ga c) b [])) x := fun h => (h.upd hb).upd h2a
  have seen : ∀ {e' : Env} {F' H' : Hp} {fp' : Fp}, Pst G.L (.ob c [] :: List.replicate np .fr) (.ref a :: vs) e' F (fpN a b) (L2.upd (L2.upd H b (.own a)) a (.ins (Cls.ga c) b [])) F' fp' H' → Rel G Γ s σ F' fp H' ∧ Stp L0 F fp H F' fp H' := fun {e' F' H' fp'} p => by
    have x : Stp L0 F fp H F' fp H' := ⟨p.stp.f, fun x o e hz _ => p.stp.keep x o (up e) hz (np' (by rw [e]; exact Option.some_ne_none _)), fun i x h => .inl ⟨i, h⟩, fun x h e _ => p.stp.nof x (ntu h) e (np' h.ne), fun x h => p.stp.there x (by
      obtain ⟨o, eo⟩ := Option.ne_none_iff_exists'.mp h
      rw [up eo]
      exact Option.some_ne_none _), fun x h => p.stp.nt x (ntu h), fun t => p.stp.tab ((t.lay hb).lay h2a)⟩
    refine ⟨R.step x (fun i x h o e => p.stp.keep x o (up e) ((R.oh i x h).ntab R.tb) (np' (R.oh i x h).ne)) (fun i x h => p.stp.nof x (ntu (R.oh i x h)) (R.nF i x h) (np' (R.oh i x h).ne)) (fun x o e1 e2 => ?_), x⟩
    have z := p.ext x o e2
    unfold lk at z
    cases zL : G.L x with
    | none => rw [zL] at z; exact z
    | some ob =>
      obtain ⟨o', e', _⟩ := R.lkd x ob zL
      rw [e1] at e'
      cases e'
  refine ⟨.obj c [] [] :: ds, F, fpN a b, G.L, ⟨by rw [List.length_cons, List.length_cons, hl, List.length_replicate], by rw [List.length_cons, List.length_cons, ← rs.len, hl, List.length_replicate], fun i t d v ht hd hv => ?_, fun i j x hi hj => (fpN_mem hi).1.trans (fpN_mem hj).1.symm, fun i x h => ?_, fun i x h => ?_, fun x o e => up (R.ext x o e), R.lkd, (R.tb.lay hb).lay h2a⟩, ?_⟩
  · cases i with
    | zero =>
      cases ht
      cases hd
      cases hv
      exact ⟨a, b, [], [], [], [], rfl, rfl, upd_same, atb, rfl, .nil, fun z => nil_no z, fun z => nil_no z, Ne.symm hne, rfl⟩
    | succ i =>
      have ht : (List.replicate np Ty.fr)[i]? = some t := by simpa using ht
      have hd : ds[i]? = some d := by simpa using hd
      have hv : vs[i]? = some v := by simpa using hv
      rw [List.getElem?_replicate] at ht
      split at ht
      · cases ht
        obtain ⟨v', h1, h2⟩ := rs.get hd
        rw [hv] at h1
        cases h1
        exact ⟨h2, if_neg (Nat.succ_ne_zero i)⟩
      · cases ht
  · rcases (fpN_mem h).2 with rfl | rfl
    · exact R.nowF ha
    · exact R.nowF hb
  · rcases (fpN_mem h).2 with rfl | rfl
    · exact ⟨_, upd_same, rfl⟩
    · exact ⟨_, atb, rfl⟩
  · cases ef : f (.obj c [] [] :: ds) with
    | ok r e' =>
      rw [ef] at q
      split at q
      · rename_i heq
        cases heq
        rename_i c' ns fs rest
        intro v F' fp' H' B p aB tq
        obtain ⟨R2, x2⟩ := seen p
        have hv : v = .non := by
          obtain ⟨rv, _⟩ := aB
          cases rv
          rfl
        obtain ⟨p0, dx0, ns0, ds0, vs0, Bs, e1, e2, e3, e4, l, xf, n1, n2, n3, e5⟩ := p.slot 0 (.ob c []) (.obj c' ns fs) (.ref a) rfl rfl rfl
        cases e1
        cases e2
        obtain ⟨rs0, _, _⟩ := atFs_fr xf
        have hF : F' a = none := p.nF 0 a (by rw [e5]; exact List.mem_cons_self)
        have R3 := R2.free hF (R.newFp ha) (R.newG ha) e3
        have x3 := x2.free (o := .ins (Cls.ga c) dx0 (ns.zip vs0)) hF (.inr ha) (R2.tb.no e3)
        exact ⟨hv, q _ _ _ _ R3 x3 (AE.fr (.obj upd_same l (rs0.mono fun x u e => by rw [upd_ne (ne_of_none e hF)]; exact e)))⟩
      · exact q.elim
      · rename_i heq
        cases heq
      · rename_i heq
        cases heq
    | err er e' =>
      rw [ef] at q
      intro cls od F' fp' H' p z
      obtain ⟨R2, x2⟩ := seen p
      exact q cls od F' fp H' R2 x2 z
    | stuck => rw [ef] at q; exact q.elim
section
variable {X : Cx} {n : Nat} {G : Gr n} {W : WX} {Γ : List Ty} {rt : Ty} {pos p : Pos}
theorem mk_go {K : PySem.W.Frag} {σ : L2.St} {H : Hp} {Q : VK} {c : Str} {f : List D → R D} {dflt : List D} {dvs : List V} {ms : MA} {np j : Nat} (hl : LenOk ms j) (hj : j + dflt.length = np) (hd : ∀ F, Reps F dflt dvs) (h : tM K G W Γ .fr (mMake c f dflt ms) σ H Q) :
    tMakeS (Cls.ga c) (spM K (.ob c [] :: List.replicate np .fr) .fr f) dvs (WE W) (tMA K G W Γ ms) σ H Q := by
  obtain ⟨s, F, fp, R, q⟩ := h
  exact ⟨s, F, fp, R, pmapL hl R q fun ds s1 us F1 fp1 H1 el R1 st1 r1 q1 a b ha hb hne => make_go R1 (r1.app (hd F1)) (by rw [List.length_append, el, hj]) ha hb hne (q1.imp fun r v F' fp' H' z => z.back st1)⟩
theorem me_make {k np j : Nat} {c : Str} {e : Expr} {es : List Expr} {f : List D → R D} {dflt : List D} {dvs : List V} {ms : MA} (C : CalI X.prog X.w X.K X.mg X.base k c np f dvs) (hr : Room (k + 1) X.A) (tk : Takes X W) (hg : Gl X c) (ha : MAs X G W Γ (e :: es) ms) (hl : LenOk ms j)
    (hj : j + dflt.length = np := by rfl) (hd : ∀ F, Reps F dflt dvs := by intro F; exact .nil) (h1 : (c == ("__debug__" : Str)) = false := by decide) (h2 : starEach (e :: es) X.env = (false, eval e X.env) :: starEach es X.env := by rfl) (h3 : (backTo pos (starEach es X.env)).any (·.1) = false := by rfl) :
    ME X G W Γ (.Call (.Name c p) (e :: es) [] pos) .fr (mMake c f dflt ms) := by
  obtain ⟨a, fd, ps, ds, F, hm, hk, hb, hv⟩ := C.ex
  exact peI (pe_mkS hk F hr hg hm hb hv (fun σ => passAt tk σ) ha h1 h2 h3) fun σ H Q h => mk_go hl hj hd h
end
end Bk

set_option Elab.async false
set_option linter.all false
set_option maxRecDepth 100000
set_option maxHeartbeats 4000000
namespace Bs
open PySem PySem.Calls PyProof.Rows PyProof.V PySem.Spec PySem.W
section
variable {prog : Program} {w : World} {A : Around} {E : Value → Shared → Prop} {s : Shared}
/-- sorted of a tuple: of its items, as data -/
theorem sorted_tupd {r : Addr} {o : Obj} {items : Array Value} {m : Nat} {Q : Value → Shared → Prop} {β : Type} {bs : List β} {enc : β → PyData} {R : Value → β → Prop}
    (ht : s.heap.get? r = some o) (hc : o.cls = .type "tuple") (hd : o.data = .seq items m) (e1 : EachIs R items.toList bs) (e2 : EachIs (fun v b => ∃ as, Reads s.heap v (enc b) as) items.toList bs) (hz : items.toList.length ≤ sizeLine)
    (hal : AllAlike (bs.map enc)) (hk : Sortable (bs.map enc)) (hu : ∀ b, b ∈ bs → A.units + 2 + (enc b).depth < cLine)
    (h : ∀ (h1 h' : Heap) (out : List Value), (∀ b o, s.heap.get? b = some o → h1.get? b = some o) → (∀ b o, h1.get? b = some o → h'.get? b = some o) → (∃ c, h'.get? h1.objs.size = some (seqObj "list" out.toArray c)) → out.length = bs.length → EachIs R out (bs.mergeSort (dataLe false enc)) → Q (.ref h1.objs.size) { s with heap := h' }) :
    wpAny (model prog w) A (call (.builtin "sorted") [.ref r]) Q E s := by
  refine call_function_entry kind_sorted plain_sorted entry_sorted (args_sorted1 _) (?_ : wpAny _ _ (Builtin.«sorted» _) _ _ _)
  unfold Builtin.«sorted»
  refine wpAny_bind (m := checkCount "sorted" 1 1 _) (wpAny_pure (wpAny_bind (wpAny_collect_seq (A := A.in1) r (.inr rfl) ht hc hd (fun h1 kp => ?_) (by rw [← Array.length_toList]; exact hz))))
  have lz : bs.length ≤ sizeLine := by rw [← e1.length]; exact hz
  refine wpAny_bind (wpAny_newList (?_ : wpAny _ _ _ _ _ _) hz)
  have ho : (h1.push (seqObj "list" items.toList.toArray 0)).get? h1.objs.size = some (seqObj "list" items.toList.toArray 0) := Heap.get?_push_size _ rfl
  have keep : ∀ b o, s.heap.get? b = some o → b ≠ h1.objs.size ∧ (h1.push (seqObj "list" items.toList.toArray 0)).get? b = some o := fun b o q => ⟨Nat.ne_of_lt (Heap.lt_size (kp b o q)), Heap.get?_push_of_some _ (kp b o q)⟩
  have er : EachIs (fun v b => ∃ as, Reads (sortingHeap (h1.push (seqObj "list" items.toList.toArray 0)) h1.objs.size items.toList) v (enc b) as) items.toList bs :=
    e2.mono fun _ _ ⟨as, rr⟩ => ⟨as, PyProof.Rows.Reads.keeps (fun b o q => sortingHeap_old (keep b o q).1 (keep b o q).2) rr⟩
  have bd : ∀ d, d ∈ bs.map enc → A.in1.in1.units + d.depth < cLine := fun d hd => by
    obtain ⟨b, hb', rfl⟩ := List.mem_map.mp hd
    exact hu b hb'
  show wpAny _ _ _ _ _ { s with heap := h1.push (seqObj "list" items.toList.toArray 0) }
  refine wpAny_bind (wpAny_holding (wpAny_call_entry slot_list_sort ⟨_, ho, rfl⟩ entry_list_sort
    (list_sort_vals (s := { s with heap := h1.push (seqObj "list" items.toList.toArray 0) }) (κ := dataKind (sortingHeap (h1.push (seqObj "list" items.toList.toArray 0)) h1.objs.size items.toList) (bs.map enc)) ho
      (SortsAt.data (s := { s with heap := sortingHeap (h1.push (seqObj "list" items.toList.toArray 0)) h1.objs.size items.toList }) (each_map (R := fun v d => ∃ as, Reads (sortingHeap (h1.push (seqObj "list" items.toList.toArray 0)) h1.objs.size items.toList) v d as) enc er) hal hk bd) hz ⟨_, rfl, ?_⟩) (args_list_sort _)))
  refine wpAny_pure ⟨_, rfl, h _ _ (sortVals (dataKind (sortingHeap (h1.push (seqObj "list" items.toList.toArray 0)) h1.objs.size items.toList) (bs.map enc)) false items.toList items.toList) kp (fun b o q => ?_) ?_ ?_ (sortVals_data false e1 er hal)⟩
  · rw [sortedHeap_old (Nat.ne_of_lt (Heap.lt_size q)) (by rw [Heap.size_push]; exact Nat.lt_succ_of_lt (Heap.lt_size q))]
    exact Heap.get?_push_of_some _ q
  · exact sortedHeap_at ho
  · rw [sortVals_length false rfl]
    exact e1.length
end
end Bs
namespace Bk
open PySem PySem.Spec PyProof.Rows L2
variable [Cls]
section
variable {X : Cx}
def rSortT (K : PySem.W.Frag) : List V → Hp → VK → Prop := fun xs H Q => ∃ (a : Addr) (vs : List V) (ds : List PyData), xs = [.ref a] ∧ SqT K H a vs ∧ DpAll K H vs ds ∧ PySem.W.AllAlike ds ∧ PySem.W.Sortable ds ∧ (∀ d ∈ ds, d.depth ≤ 60) ∧
  ∀ p : Addr, H p = none → Q (.ref p) (upd H p (.lst (((vs.zip ds).mergeSort (PySem.W.dataLe false fun b => b.2)).map (·.1))))
theorem call_sortT {k : Nat} (hr : Room k X.A) : CallR X (.builtin "sorted") (rSortT X.K) := by
  intro pins s σ H xs us Q I r h
  obtain ⟨a, vs, ds, rfl, hs, hd, al, so, dep, q⟩ := h
  obtain ⟨its, rv, hl, hz⟩ := I.tuple hs
  obtain ⟨o, ho, hc, m, hdt⟩ := hl
  obtain ⟨u, rfl, ru⟩ := vals1 r
  obtain rfl : u = Value.ref a := ru
  obtain ⟨e1, e2, e3⟩ := each3 I rv hd
  have ez : (vs.zip ds).map (fun b => b.2) = ds := List.map_snd_zip (by omega)
  have lz : (vs.zip ds).length = vs.length := by rw [List.length_zip]; omega
  have lv := rv.length
  refine Bs.sorted_tupd (enc := fun b : V × PyData => b.2) (bs := vs.zip ds) (R := fun u b => RelV b.1 u) ho hc hdt e1 e2 (by show its.length ≤ _; omega) (by rw [ez]; exact al) (by rw [ez]; exact so) (fun b hb => ?_) fun h1 h' out k1 k2 hc' hlen eo => ?_
  · have := hr.un
    have h1 := dep b.2 (List.of_mem_zip hb).2
    omega
  · obtain ⟨c, hc'⟩ := hc'
    have I1 : Inv X pins σ H { s with heap := h1 } := I.kept (t' := s.toks) k1
    refine ⟨.ref h1.objs.size, _, I1.laid (t' := s.toks) (o := .lst (((vs.zip ds).mergeSort (PySem.W.dataLe false fun b => b.2)).map (·.1))) k2 (Nat.le_refl _) ⟨?_, out, c, each_vals eo, hc'⟩, rfl, q _ (I1.hok.fresh (Nat.le_refl _))⟩
    rw [List.length_map, (List.mergeSort_perm _ _).length_eq, lz]
    exact hz
end
/-- sorted of a list, a tuple, the empty tuple of the module, a dict -/
def dSortedA : D → Option (List D)
  | .tup ds => if sortOk ds = true then some (ds.mergeSort dSle) else none
  | .obj _ ns ds => if ns.length = 0 ∧ ds.length = 1 then some [] else none
  | d => dSorted d
section
variable {X : Cx} {n : Nat} {G : Gr n} {W : WX} {Γ : List Ty} {rt : Ty}
theorem me_sortedA {e : Expr} {m : M} (hE : ∀ a, Cls.emp = some a → ∀ H, SqT X.K H a []) (hL : PE X e (tCB (rSortL X.K) (tCons (tM X.K G W Γ .fr m) tNil))) (hD : PE X e (tCB rSortD (tCons (tM X.K G W Γ .fr m) tNil))) (hT : PE X e (tCB (rSortT X.K) (tCons (tM X.K G W Γ .fr m) tNil))) : ME X G W Γ e .ol (mNewL dSortedA m) :=
  peI (pe_orr (me_sorted hL hD) hT) fun σ H Q ⟨s, F, fp, R, q⟩ => by
    unfold mNewL at q
    cases em : m s with
    | err er s1 => rw [em] at q; exact .inr ⟨s, F, fp, R, by rw [em]; exact q⟩
    | stuck => rw [em] at q; exact q.elim
    | ok d s1 =>
      rw [em, Bk.R.bind_ok] at q
      obtain ⟨z, ez, q2⟩ := opt_post q
      obtain ⟨zs, ez2, rfl⟩ := Option.map_eq_some_iff.mp ez
      have old : dSorted d = some zs → tM X.K G W Γ .ol (mNewL dSorted m) σ H Q := fun e => ⟨s, F, fp, R, by
        unfold mNewL
        rw [em, Bk.R.bind_ok, e]
        exact q2⟩
      cases d with
      | tup ds =>
        refine .inr ⟨s, F, fp, R, ?_⟩
        rw [em]
        intro v F1 fp1 H1 R1 x a
        obtain ⟨ok, rfl⟩ := if_some (show (if sortOk ds = true then some (ds.mergeSort dSle) else none) = some zs from ez2)
        obtain ⟨o1, o2, o3, o4⟩ := sort_ok ok
        cases a.rep with
        | @tup ds vs p ea rs =>
          exact ⟨p, vs, D.pys ds, rfl, R1.sqT ea, R1.dps o1 rs, o2, o3, o4, fun p' hp => new_list x R1 hp (q2.shift x) (sort_rep rs)⟩
      | obj c ns ds =>
        obtain ⟨ec, rfl⟩ := if_some (show (if ns.length = 0 ∧ ds.length = 1 then some [] else none) = some zs from ez2)
        refine .inr ⟨s, F, fp, R, ?_⟩
        rw [em]
        intro v F1 fp1 H1 R1 x a
        cases a.rep with
        | obj e1 l rs =>
          have := rs.len
          omega
        | @emp p ea =>
          exact ⟨p, [], [], rfl, hE p ea H1, .nil, (fun _ z => by cases z), .inl (fun _ z => by cases z), (fun _ z => by cases z), fun p' hp => new_list x R1 hp (q2.shift x) (show Reps F1 [] (([] : List (V × PyData)).mergeSort (PySem.W.dataLe false fun b => b.2) |>.map (·.1)) by rw [List.mergeSort_nil]; exact .nil)⟩
      | _ => exact .inl (old ez2)
end
end Bk

set_option Elab.async false
set_option linter.all false
set_option maxRecDepth 100000
set_option maxHeartbeats 4000000
namespace Bs
open PySem PySem.Calls PyProof.Rows PyProof.V PySem.Spec PySem.W SeqAt
section
variable {prog : Program} {w : World} {A : Around} {E : Value → Shared → Prop} {s : Shared} {K : Type} [DecidableEq K] {knd : HeapKind prog w K}
/-- None is looked for in a dict whose keys are things -/
theorem find_none {d : Addr} {o : Obj} {es : Array DictEntry} {ep : Nat} {xs : List (K × Addr × Value)} {h : Int} {Q : Option Nat → Shared → Prop} (ho : s.heap.get? d = some o) (hd : o.data = .dict es ep) (he : es.toList = xs.map (entryOfKey knd))
    (hk : ∀ x ∈ xs, knd.is s.heap x.1 x.2.1) (heq : ∀ x ∈ xs, EqAt A s (.ref x.2.1) .none false) (hq : Q none s) : wpAny (model prog w) A (dictFind d .none h) Q E s := by
  have mem : ∀ {i : Nat} {e : DictEntry}, es[i]? = some e → ∃ x ∈ xs, e.key = .ref x.2.1 := fun {i e} hi => by
    have : e ∈ xs.map (entryOfKey knd) := he ▸ Array.mem_toList_iff.mpr (Array.mem_of_getElem? hi)
    obtain ⟨x, hx, rfl⟩ := List.mem_map.mp this
    exact ⟨x, hx, rfl⟩
  have hst : ∀ v ∈ (placesWithHash es.size (fun i => es[i]?.map (·.hash)) h).filterMap (fun i => es[i]?.map (·.key)), ∃ x ∈ xs, v = .ref x.2.1 := fun v hv => by
    obtain ⟨i, _, hi⟩ := List.mem_filterMap.mp hv
    cases hei : es[i]? with
    | none => rw [hei] at hi; cases hi
    | some e =>
      rw [hei] at hi
      obtain rfl : e.key = v := by simpa using hi
      exact mem hei
  have hte : ∀ (stored : List Value) {R : Bool → Shared → Prop}, (∀ v ∈ stored, ∃ x ∈ xs, v = .ref x.2.1) → R false s → wpAny (model prog w) A (tableMayTell .none stored) R E s := fun stored {R} hs hR => by
    unfold tableMayTell
    split
    · exact wpAny_pure hR
    · refine wpAny_bind (show wpAny _ _ (pure true) _ _ _ from wpAny_pure ?_)
      simp only [Bool.not_true, Bool.false_eq_true, if_false]
      refine wpAny_bind (wpAny_forIn_list _ (fun rest r s' => s' = s ∧ r = (none, ()) ∧ ∀ v ∈ rest, ∃ x ∈ xs, v = .ref x.2.1) _ ?_ ?_ _ _ ⟨rfl, rfl, hs⟩)
      · rintro v rest r s' ⟨rfl, rfl, hr⟩
        obtain ⟨x, hx, rfl⟩ := hr v List.mem_cons_self
        refine wpAny_bind (knd.quiet (hk x hx) ?_)
        simp only [Bool.not_true, Bool.false_eq_true, if_false]
        exact wpAny_pure ⟨rfl, rfl, fun v hv => hr v (List.mem_cons_of_mem _ hv)⟩
      · rintro r s' ⟨rfl, rfl, _⟩
        exact wpAny_pure hR
  unfold dictFind
  try with_reducible refine wpAny_holding ?_
  refine wpAny_bind (wpAny_dictEntries ho hd ?_)
  dsimp only
  by_cases hall : ((Value.none :: (placesWithHash es.size (fun i => es[i]?.map (·.hash)) h).filterMap (fun i => es[i]?.map (·.key))).all carriedByValue) = true
  · rw [if_pos hall]
    refine wpAny_bind (wpAny_forIn_list _ (fun rest b s' => s' = s ∧ b = (none, ())) _ ?_ ?_ _ _ ⟨rfl, rfl⟩)
    · rintro x rest b s' ⟨rfl, rfl⟩
      cases hx : es[x]? with
      | none => exact wpAny_pure ⟨rfl, rfl⟩
      | some e =>
        dsimp only
        by_cases hh : (e.hash == h) = true
        · rw [if_pos hh]
          obtain ⟨y, hy, ey⟩ := mem hx
          rw [ey]
          refine wpAny_bind (wpAny_dictEpoch ho hd (wpAny_bind (heq y hy _ _ _ _ (wpAny_bind (wpAny_dictEpoch ho hd ?_)))))
          show wpAny _ _ (if (ep != ep) = true then _ else _) _ E _
          rw [if_neg (by simp)]
          simp only [Bool.false_eq_true, if_false]
          exact wpAny_bind (wpAny_rule (wpAny_pure ⟨rfl, rfl⟩))
        · rw [if_neg hh]
          exact wpAny_pure ⟨rfl, rfl⟩
    · rintro b s' ⟨rfl, rfl⟩
      exact wpAny_pure hq
  · rw [if_neg hall]
    by_cases hone : ((placesWithHash es.size (fun i => es[i]?.map (·.hash)) h).filterMap (fun i => es[i]?.map (·.key)) == [Value.none]) = true <;>
    (first | rw [if_pos hone] | rw [if_neg hone]) <;> (first | refine wpAny_bind (wpAny_pure ?_) | refine wpAny_bind (hte _ hst ?_)) <;> (
      rw [if_neg (by simp)]
      refine wpAny_bind (wpAny_forIn_list _ (fun rest b s' => s' = s ∧ b = (none, none)) _ ?_ ?_ _ _ ⟨rfl, rfl⟩)
      · rintro x rest b s' ⟨rfl, rfl⟩
        cases hx : es[x]? with
        | none => exact wpAny_pure ⟨rfl, rfl⟩
        | some e =>
          dsimp only
          by_cases hh : (e.hash == h) = true
          · rw [if_pos hh]
            obtain ⟨y, hy, ey⟩ := mem hx
            rw [ey]
            refine wpAny_bind (wpAny_dictEpoch ho hd (wpAny_bind (heq y hy _ _ _ _ (wpAny_bind (wpAny_dictEpoch ho hd ?_)))))
            show wpAny _ _ (if (ep != ep) = true then _ else _) _ E _
            rw [if_neg (by simp)]
            simp only [Bool.false_eq_true, if_false]
            refine wpAny_bind (wpAny_rule ?_)
            first
              | exact wpAny_pure ⟨rfl, rfl⟩
              | (rw [if_neg (by simp)]; exact wpAny_pure ⟨rfl, rfl⟩)
              | (simp only [Bool.false_and, Bool.false_eq_true, if_false]; exact wpAny_pure ⟨rfl, rfl⟩)
          · rw [if_neg hh]
            exact wpAny_pure ⟨rfl, rfl⟩
      · rintro b s' ⟨rfl, rfl⟩
        exact wpAny_pure hq)
theorem get_none {d : Addr} {xs : List (K × Addr × Value)} {Q : Option Value → Shared → Prop} (hm : s.heap.DictOfH knd d xs) (heq : ∀ (s' : Shared), s'.heap = s.heap → ∀ x ∈ xs, EqAt A s' (.ref x.2.1) .none false) (hQ : ∀ tk, Q none { s with toks := tk }) : wpAny (model prog w) A (dictGet d .none) Q E s := by
  obtain ⟨o, es, ep, ho, _, hd, he, his, hn⟩ := hm
  unfold dictGet
  try with_reducible refine wpAny_holding ?_
  refine wpAny_bind (PySem.W.pyHash_slot (T := "NoneType") rfl PySem.F.slot_NoneType_hash PySem.F.entry_NoneType_hash (PySem.F.args_NoneType_hash_1 _) (beq_builtin_none _) (.inl rfl) (wpAny_bind (wpAny_pure (wpAny_bind (wpAny_mkInt (wpAny_pure ⟨_, _, rfl, ?_⟩))))))
  exact wpAny_bind (find_none (s := { s with toks := _ }) ho hd he his (heq _ rfl) (wpAny_pure (hQ _)))
theorem in_none {d : Addr} {xs : List (K × Addr × Value)} {Q : Value → Shared → Prop} (hd : (d == sysModules) = false) (hm : s.heap.DictOfH knd d xs) (heq : ∀ (s' : Shared), s'.heap = s.heap → ∀ x ∈ xs, EqAt A.in1 s' (.ref x.2.1) .none false) (hQ : ∀ tk, Q (.bool false) { s with toks := tk }) :
    wpAny (model prog w) A (compareOp .In .none (.ref d)) Q E s := by
  show wpAny _ _ (contains (.ref d) .none >>= fun b => pure (.bool b)) Q E s
  refine wpAny_bind ?_
  unfold contains
  try with_reducible refine wpAny_holding ?_
  refine wpAny_bind (wpAny_specialOf hm.typeIs slot_dict_contains.lookup ?_)
  show wpAny _ _ (if (some (Value.builtin "dict.__contains__") == some Value.none) = true then _ else _) _ E s
  rw [if_neg (by rw [beq_builtin_none]; exact Bool.false_ne_true)]
  refine wpAny_bind (wpAny_callSpecialUnlessNone?_slot (name := Str.ofString "__contains__") hm.typeIs slot_dict_contains (wpAny_call_entry slot_dict_contains hm.typeIs entry_dict_contains ?_ (args_dict_contains _ _)))
  show wpAny _ _ (dictGet d .none >>= _) _ _ s
  refine wpAny_bind (get_none hm heq fun tk => ?_)
  show wpAny _ _ (Builtin.Dict.pendingKey? d .none >>= _) _ _ _
  exact wpAny_bind (wpAny_pendingKey_other hd (wpAny_pure ⟨_, rfl, wpAny_truthy_bool (wpAny_pure (hQ tk))⟩))
end
end Bs
namespace Bk
open PySem PySem.Spec PyProof.Rows L2
section
variable {X : Cx}
/-- k in d; k may be None -/
def rInDN : R2 := fun x y H Q => (∃ a o, y = .ref a ∧ DGet H a x o ∧ Q (.bl o.isSome) H) ∨ (x = .non ∧ ∃ a kvs, y = .ref a ∧ Rd H a (.dT kvs) ∧ Q (.bl false) H)
theorem op_inDN (hu : X.A.units + 1 < cLine) : OpR X (compareOp .In) rInDN := by
  intro pins s σ H x y v u Q I rx ry h
  rcases h with ⟨a, o, rfl, g, q⟩ | ⟨rfl, a, kvs, rfl, hr, q⟩
  · obtain rfl : u = Value.ref a := ry
    exact d_in hu I g rx fun s' I' => ⟨.bl _, H, I', rfl, q⟩
  · obtain rfl : u = Value.ref a := ry
    obtain rfl : v = Value.none := rx
    obtain ⟨z, hd, xs, rel, dd⟩ := dt_rd I.hok hr
    have dd2 := dd
    obtain ⟨o, es, ep, ho, _, hdt, he, his, hn⟩ := dd2
    refine Bs.in_none hd dd (fun s' e x hx => ?_) fun tk => ⟨.bl _, H, I.tok tk, rfl, q⟩
    obtain ⟨o2, items, m, h1, h2, h3, _⟩ := his x hx
    exact SeqAt.EqAt.tuple_none ⟨o2, by rw [e]; exact h1, h2, m, h3⟩ hu
end
variable [Cls]
def dInDN : D → D → Option Bool
  | .non, .dct _ _ => some false
  | d, e => dInD d e
def mInDN (ma mb : M) : M := fun s => (ma s).bind fun d s1 => (mb s1).bind fun e s2 => R.opt ((dInDN d e).map D.bl) s2
section
variable {X : Cx} {n : Nat} {G : Gr n} {W : WX} {Γ : List Ty} {a b : Expr} {ma mb : M} {pos : Pos}
theorem two_inDN {K : PySem.W.Frag} {σ : Sl} {H : Hp} {Q : VK} (h : tM K G W Γ .fr (mInDN ma mb) σ H Q) : tM K G W Γ .fr ma σ H fun x H1 => tM K G W Γ .fr mb σ H1 fun y H2 => rInDN x y H2 Q := by
  obtain ⟨s, F, fp, R, q⟩ := h
  refine ⟨s, F, fp, R, pbind q fun d s1 y F1 fp1 H1 R1 st1 a1 q1 => ⟨s1, F1, fp1, R1, pbind q1 fun e s2 x F2 fp2 H2 R2 st2 a2 q2 => ?_⟩⟩
  obtain ⟨z, ez, q3⟩ := opt_post q2
  obtain ⟨c, ec, rfl⟩ := Option.map_eq_some_iff.mp ez
  have r1 := a1.rep.mono st2.f
  cases a2.rep with
  | @dct ks ds vs a ob ea el rs =>
    have key : dInD d (.dct ks ds) = some c → rInDN y (.ref a) H2 Q := fun ec => by
      unfold dInD at ec
      simp only [] at ec
      cases ek : keyOf d with
      | none => rw [ek] at ec; cases ec
      | some kk =>
        rw [ek] at ec
        cases ec
        obtain ⟨b, rfl, eb⟩ := keyOf_rep ek r1
        refine .inl ⟨a, valV (ks.zip vs) kk, rfl, .inr ⟨ks.zip vs, kk, b, R2.rdz ea, rfl, R2.at eb rfl, rfl⟩, ?_⟩
        have e5 : (valV (ks.zip vs) kk).isSome = memK ks kk := getV_isSome (vs := vs) el
        rw [e5]
        exact pok q3 R2 (AE.fr (.bl _))
    cases d with
    | non =>
      cases ec
      cases r1
      exact .inr ⟨rfl, a, _, rfl, R2.rdz ea, pok q3 R2 (AE.fr (.bl _))⟩
    | _ => exact key ec
  | _ => cases d <;> cases ec
theorem mt_inDN {k : Nat} (hr : Room k X.A) (ha : ME X G W Γ a .fr ma) (hb : ME X G W Γ b .fr mb) (hm : behindInMarks .In b = false := by with_unfolding_all rfl) : MT X G W Γ (.Compare a [.In] [b] pos) (mTst (mInDN ma mb)) :=
  ptI (pt_cmpR (op_inDN (units1 hr)) ha hb hm) fun σ H Q h => two_inDN (tst h)
end
end Bk

set_option Elab.async false
set_option linter.all false
set_option maxRecDepth 100000
set_option maxHeartbeats 4000000
namespace Bk
open PySem PySem.Spec PyProof.Rows L2
/-- a class of things: its fields, its methods -/
def objB (c : Str) (fs ms : List Str) : Ft := fun K => (He.Fa.cls c).ok K && ((fs.all fun f => (He.Fa.noat c f).ok K) && ((ms.all fun m => (He.Fa.meth c m).ok K) && (He.Fa.mkr c).ok K))
variable [Cls]
structure ObjC (K : PySem.W.Frag) (mg : Str → Option Value) (c : Str) (fs ms : List Str) : Prop where
  cls : L2.Cls K (Cls.ga c)
  no : ∀ f ∈ fs, NoAttr K (Cls.ga c) f
  me : ∀ m ∈ ms, Meth K (Cls.ga c) m (He.fAd K (c, some m))
  mk_ : Mk K (Cls.ga c) (He.fAd K (c, some "__init__"))
  mg_ : mg c = some (.ref (Cls.ga c))
theorem objC_of {K : PySem.W.Frag} {mg : Str → Option Value} {c : Str} {fs ms : List Str} (hA : Cls.ga = He.ga K) (h : objB c fs ms K = true) (hm : mg c = some (.ref (He.ga K c))) : ObjC K mg c fs ms := by
  unfold objB at h
  obtain ⟨h1, h⟩ := Bool.and_eq_true_iff.mp h
  obtain ⟨h2, h⟩ := Bool.and_eq_true_iff.mp h
  obtain ⟨h3, h4⟩ := Bool.and_eq_true_iff.mp h
  refine ⟨?_, fun f hf => ?_, fun m hm => ?_, ?_, ?_⟩
  · rw [hA]; exact He.cls_ok h1
  · rw [hA]; exact He.noat_ok (List.all_eq_true.mp h2 f hf)
  · rw [hA]; exact He.meth_ok (List.all_eq_true.mp h3 m hm)
  · rw [hA]; exact He.mkr_ok h4
  · rw [hA]; exact hm
/-- an empty tuple that is a default -/
def empB (p : Str × Option Str) (i : Nat) : Ft := fun K => match K.lookup (He.dflAt p i K) with
  | some o => decide (o.cls = .type "tuple") && (match o.data with
    | .seq its _ => decide (its.size = 0)
    | _ => false)
  | none => false
theorem emp_ok {K : PySem.W.Frag} {p : Str × Option Str} {i : Nat} (h : empB p i K = true) (H : Hp) : SqT K H (He.dflAt p i K) [] := by
  unfold empB at h
  split at h
  · rename_i o e
    rw [Bool.and_eq_true, decide_eq_true_iff] at h
    obtain ⟨h1, h2⟩ := h
    split at h2
    · rename_i its m e2
      have h3 : its.size = 0 := of_decide_eq_true h2
      have h4 : its.toList = [] := List.length_eq_zero_iff.mp (by rw [Array.length_toList]; exact h3)
      exact .inr ⟨o, its, m, e, h1, e2, by rw [h3]; exact Nat.zero_le _, by rw [h4]; exact .nil⟩
    · cases h2
  · cases h
/-- a walk over a list, a tuple or the empty tuple of the module -/
def mSeqE (m : M) : MA := fun s => (m s).bind fun d s1 => match d with
  | .tup ds => .ok ds s1
  | .lst ds => .ok ds s1
  | .obj _ ns ds => if ns.length = 0 ∧ ds.length = 1 then .ok [] s1 else .stuck
  | _ => .stuck
section
variable {X : Cx} {n : Nat} {G : Gr n} {W : WX} {Γ : List Ty}
theorem wk_emp {K : PySem.W.Frag} {F : Hp} {a : Addr} (hq : ∀ H, SqT K H a []) : Wk G Γ (Itt K a) F [] := fun i s σ F' fp' H' R x => ⟨fun d hd => by simp at hd, fun _ => ⟨[], hq H', Nat.zero_le _⟩⟩
theorem mi_seqE {tg e : Expr} {m : M} (hE : ∀ a, Cls.emp = some a → ∀ H, SqT X.K H a []) (h : ME X G W Γ e .fr m) : MI X G W Γ tg e (mSeqE m) :=
  piI (pi_or (mi_seq h) (pi_tup h)) fun σ H Q ⟨s, F, fp, R, q⟩ => by
    unfold mSeqE at q
    cases em : m s with
    | err er s1 => rw [em] at q; exact .inr ⟨s, F, fp, R, by rw [em]; exact q⟩
    | stuck => rw [em] at q; exact q.elim
    | ok d s1 =>
      rw [em, Bk.R.bind_ok] at q
      cases d with
      | tup ds => exact .inl ⟨s, F, fp, R, by unfold mSeqI; rw [em, Bk.R.bind_ok]; exact q⟩
      | lst ds => exact .inl ⟨s, F, fp, R, by unfold mSeqI; rw [em, Bk.R.bind_ok]; exact q⟩
      | obj c ns ds =>
        have q : PostG X.K G W Γ σ F fp H (fun ds J F' _ _ => Wk G Γ J F' ds) Q (if ns.length = 0 ∧ ds.length = 1 then Bk.R.ok [] s1 else .stuck) := q
        by_cases hz : ns.length = 0 ∧ ds.length = 1
        · rw [if_pos hz] at q
          refine .inr ⟨s, F, fp, R, ?_⟩
          rw [em]
          intro v F1 fp1 H1 R1 x a
          cases a.rep with
          | obj _ l rs =>
            have := rs.len
            omega
          | @emp p ea => exact ⟨_, rfl, ⟨_, hE p ea H1⟩, q _ F1 fp1 H1 R1 x (wk_emp (hE p ea))⟩
        · rw [if_neg hz] at q
          exact q.elim
      | _ => exact q.elim
end
end Bk

set_option Elab.async false
set_option linter.all false
set_option maxRecDepth 100000
set_option maxHeartbeats 4000000
namespace Bs
open PySem PySem.Calls PyProof.Rows PyProof.V PySem.Spec PySem.W
section
variable {prog : Program} {w : World} {A : Around} {E : Value → Shared → Prop} {s : Shared}
/-- len of a thing with its own __len__ -/
theorem len_own {K : Frag} {x C f : Addr} {ox : Obj} {od : Option Obj} {Q : Value → Shared → Prop} (X : K.In s.heap) (I : InstAt s.heap x ox C od) (hs : findIn K (.ref C) "__len__" = some (some (.ref f))) (hf : isFn K (.ref f) = true)
    (h : wpAny (model prog w) A.in1 (call (.ref f) [.ref x]) (fun v z => ∃ n u, v = .int n u ∧ 0 ≤ n ∧ n < 2 ^ 63 ∧ Q (.int n z.toks) { z with toks := z.toks + 1 }) E s) : wpAny (model prog w) A (call (.builtin "len") [.ref x]) Q E s := by
  refine call_function_entry kind_len plain_len entry_len (args_len1 _) ?_
  unfold Builtin.«len»
  refine wpAny_bind (m := oneArg "len" _) (wpAny_pure (wpAny_bind (m := callSpecial? (.ref x) (Str.ofString "__len__")) (special_fn X I hs (beq_iff_eq.mp hf) (wpAny_mono h (fun v z q => ?_) fun _ _ y => y))))
  obtain ⟨n, u, rfl, h0, h1, q⟩ := q
  refine wpAny_bind (wpAny_holding (wpAny_pure (wpAny_bind (wpAny_letGo ?_))))
  show wpAny _ _ (if n < 0 then _ else _) _ _ _
  rw [if_neg (by omega)]
  show wpAny _ _ (if n ≥ 2 ^ 63 then _ else _) _ _ _
  rw [if_neg (by omega)]
  exact wpAny_bind (wpAny_mkInt (wpAny_pure ⟨_, rfl, q⟩))
end
end Bs
namespace Bk
open PySem PySem.Spec PyProof.Rows L2
/-- the rule of a def whose code object is told, for any promise -/
theorem okC {P : Program} {w : World} {K : PySem.W.Frag} {mg : Str → Option Value} {base : Heap} {CX : CXT} {x qual : Str} {params : Arguments} {body : List Stmt} {scope : Scope} {dvs : List V} {kws : List (Str × V)} {df : Str × Option Str} {fd : FuncData} {N ps : List Str} {k : Nat} {sp : Sp}
    (FD : FunD K x qual params body scope dvs kws (He.fAd K df) fd) (S : FnScope N ps scope) (len : ∀ vs H Q E, sp vs H Q E → vs.length = ps.length)
    (hbody : ∀ (A : Around) (outer : List PySem.Env) (s : Shared) (H : Hp) (vs : List V) (Q : VK) (E : XK), Room k (A.deeper (envOfC qual scope s.heap.objs.size (He.fAd K df) (.ref (He.codeOf K df)))) → sp vs H Q E →
      ∃ t, PSs (cxOf CX P w K mg base N qual scope (He.fAd K df) (.ref (He.codeOf K df)) A outer s H E) body t ∧ t { nx := fun _ H' => Q .non H', rt := Q } (L2.start N vs) H) : FnOk P w K mg base CX (k + 1) (He.fAd K df) fd ps sp := by
  obtain ⟨oc, od, dV, kV, doc, pm, an, cdv, ct, osl, rfl, lk, hcd, _, _⟩ := FD.ex
  obtain ⟨c, rfl⟩ := He.codeIn_ref hcd
  have ec : He.codeOf K df = c := He.codeOf_eq lk rfl
  rw [ec] at hbody
  exact fn_of lk hcd S len fun A outer s H vs Q E hr hsp => hbody A outer s H vs Q E hr hsp
section
variable {X : Cx}
def rLenM (C : Addr) (sp : Sp) : List V → Hp → VK → Prop := fun xs H Q => ∃ a b fs, xs = [.ref a] ∧ H a = some (.ins C b fs) ∧ sp [.ref a] H (fun v Z => ∃ i, v = .int i ∧ 0 ≤ i ∧ i < 2 ^ 63 ∧ Q (.int i) Z) fun _ _ _ => False
theorem call_lenM {CX : CXT} {k : Nat} {C f : Addr} {fd : FuncData} {ps : List Str} {sp : Sp} (F : FnOk X.prog X.w X.K X.mg X.base CX k f fd ps sp) (hr : Room (k + 1) X.A) (hm : Meth X.K C "__len__" f) (hb : Binds X.K fd ps []) (hx : Passes CX X fun _ _ _ => False) : CallR X (.builtin "len") (rLenM C sp) := by
  intro pins s σ H xs us Q I r h
  obtain ⟨a, b, fs, rfl, ha, hsp⟩ := h
  obtain ⟨u, rfl, ru⟩ := vals1 r
  obtain rfl : u = Value.ref a := ru
  obtain ⟨mA, J, _⟩ := ins_get I.hok ha
  obtain ⟨od, J, _⟩ := J.look
  have fr : X.A.in1.frames = some X.stack := I.ok.frames
  have e0 : Env0 X.prog X.w X.K X.mg X.base X.A.in1 X.stack s H := by
    have e := I.env0
    exact ⟨fr.trans (by first | rfl | exact I.ok.frames.symm.trans e.frames), e.mod, e.bs, e.bsz, e.funs, e.frf, e.hok, e.bare⟩
  have hl := F.len _ _ _ _ hsp
  have bt := hb s [.ref a] I.kIn (by simpa using hl)
  refine Bs.len_own I.kIn J hm.at_ hm.fn (wpAny_call (codeAny_mono (F.run X.A.in1 X.stack s H ⟨[.ref a], []⟩ [.ref a] [.ref a] _ (fun _ _ _ => False) hr.in1 e0 (by simpa using bt) (.cons rfl .nil) hsp) fun r z q => ?_))
  rcases r with e | fl
  · exact hx pins σ H s e z I q
  · cases fl with
    | ret v =>
      obtain ⟨y, Z, I', ry, i, rfl, h0, h1, q5⟩ := I.after q
      obtain ⟨t, rfl⟩ := ry
      exact ⟨i, t, rfl, h0, h1, ⟨.int i, Z, I'.tok _, ⟨_, rfl⟩, q5⟩⟩
    | next => exact q.elim
    | brk => exact q.elim
    | cont => exact q.elim
end
variable [Cls]
def mLenM (c : Str) (f : List D → R D) (m : M) : M := fun s => (m s).bind fun d s1 => match d with
  | .obj c' ns ds => if c' = c ∧ c' ≠ "()" then match f [.obj c' ns ds] with
      | .ok (.int i) _ => if 0 ≤ i ∧ i < 2 ^ 63 then .ok (.int i) s1 else .stuck
      | _ => .stuck
    else .stuck
  | _ => .stuck
section
variable {X : Cx} {n : Nat} {G : Gr n} {W : WX} {Γ : List Ty}
theorem call_lenC {k : Nat} {c : Str} {f : List D → R D} (C : CalM X.prog X.w X.K X.mg X.base k c "__len__" 0 .fr f []) (hr : Room (k + 1) X.A) (hx : Passes (L2.CX X.prog X.w) X fun _ _ _ => False) : CallR X (.builtin "len") (rLenM (Cls.ga c) (spM X.K [.fr] .fr f)) := by
  obtain ⟨a, fd, ps, ds, F, hc, hm, hb, hv⟩ := C.ex
  cases hv
  exact call_lenM F hr hm hb hx
theorem me_lenM {e : Expr} {c : Str} {f : List D → R D} {m : M} (h : PE X e (tCB (rLenM (Cls.ga c) (spM X.K [.fr] .fr f)) (tCons (tM X.K G W Γ .fr m) tNil))) : ME X G W Γ e .fr (mLenM c f m) :=
  peI h fun σ H Q ⟨s, F, fp, R, q⟩ => ⟨s, F, fp, R, pbind q fun d s1 v F1 fp1 H1 R1 st1 a1 q1 => by
    have ar := a1.rep
    cases ar with
    | @obj c' ns ds vs a dx ea l rs =>
      have q2 : PostG X.K G W Γ σ F1 fp1 H1 (AE G .fr fp H) Q (if c' = c ∧ c' ≠ "()" then match f [.obj c' ns ds] with
        | .ok (.int i) _ => if 0 ≤ i ∧ i < 2 ^ 63 then .ok (.int i) s1 else .stuck
        | _ => .stuck
      else .stuck) := q1
      by_cases hc : c' = c ∧ c' ≠ "()"
      · rw [if_pos hc] at q2
        obtain ⟨rfl, _⟩ := hc
        refine ⟨a, dx, _, rfl, R1.at ea rfl, ?_⟩
        cases ef : f [.obj c' ns ds] with
        | ok r e' =>
          rw [ef] at q2
          cases r with
          | int i =>
            by_cases hi : 0 ≤ i ∧ i < 2 ^ 63
            · have q3 : PostG X.K G W Γ σ F1 fp1 H1 (AE G .fr fp H) Q (.ok (.int i) s1) := by
                have q4 : PostG X.K G W Γ σ F1 fp1 H1 (AE G .fr fp H) Q (if 0 ≤ i ∧ i < 2 ^ 63 then .ok (.int i) s1 else .stuck) := q2
                rw [if_pos hi] at q4
                exact q4
              refine call_fr (W := fun _ _ _ _ => False) (σ := σ) R1 (ds := [.obj c' ns ds]) (.cons a1.rep .nil) rfl ?_
              rw [ef]
              intro v F' fp' H' R2 x2 a2
              have hv : v = .int i := by
                have z := a2.rep
                cases z
                rfl
              subst hv
              exact ⟨i, rfl, hi.1, hi.2, q3 _ F' fp' H' R2 x2 (a2.back st1)⟩
            · have q4 : PostG X.K G W Γ σ F1 fp1 H1 (AE G .fr fp H) Q (if 0 ≤ i ∧ i < 2 ^ 63 then .ok (.int i) s1 else .stuck) := q2
              rw [if_neg hi] at q4
              exact q4.elim
          | _ => exact q2.elim
        | err er e' => rw [ef] at q2; exact q2.elim
        | stuck => rw [ef] at q2; exact q2.elim
      · rw [if_neg hc] at q2
        exact q2.elim
    | emp _ =>
      have q2 : PostG X.K G W Γ σ F1 fp1 H1 (AE G .fr fp H) Q (if ("()" : Str) = c ∧ ("()" : Str) ≠ "()" then match f [.obj "()" [] [.non]] with
        | .ok (.int i) _ => if 0 ≤ i ∧ i < 2 ^ 63 then .ok (.int i) s1 else .stuck
        | _ => .stuck
      else .stuck) := q1
      rw [if_neg fun z => z.2 rfl] at q2
      exact q2.elim
    | _ => exact q1.elim⟩
end
end Bk

set_option Elab.async false
set_option linter.all false
set_option maxRecDepth 100000
set_option maxHeartbeats 4000000
namespace Bk
open PySem PySem.Spec PyProof.Rows L2
variable [Cls]
/-! ### min, max of two or three ints; int of a truth -/
def bPick2 (f : Int → Int → Int) : List D → Option D
  | [.int i, .int j] => some (.int (f i j))
  | _ => none
def mn2 (i j : Int) : Int := if j < i then j else i
def mx2 (i j : Int) : Int := if j > i then j else i
def bPick3 (f : V → V → V → Option V) : List D → Option D
  | [.int i, .int j, .int k] => match f (.int i) (.int j) (.int k) with
    | some (.int m) => some (.int m)
    | _ => none
  | _ => none
def bInt1 : List D → Option D
  | [.int i] => some (.int i)
  | [.bl k] => some (.int (if k then 1 else 0))
  | _ => none
section
variable {X : Cx} {n : Nat} {G : Gr n} {W : WX} {Γ : List Ty} {e : Expr} {ms : MA}
theorem me_min2 (h : PE X e (tCB (fun xs H Q => ∃ i j, xs = [.int i, .int j] ∧ Q (.int (if j < i then j else i)) H) (tMA X.K G W Γ ms))) : ME X G W Γ e .fr (mCall (bPick2 mn2) ms) := peI h fun _ _ _ q => cb (fun ds z vs s F fp H Q R hz rs k => by
  match ds, hz with
  | [.int i, .int j], hz =>
    cases hz
    cases rs with
    | cons r1 t => cases t with
      | cons r2 t => cases t; cases r1; cases r2; exact ⟨i, j, rfl, k _ (.int _)⟩) q
theorem me_max2 (h : PE X e (tCB (fun xs H Q => ∃ i j, xs = [.int i, .int j] ∧ Q (.int (if j > i then j else i)) H) (tMA X.K G W Γ ms))) : ME X G W Γ e .fr (mCall (bPick2 mx2) ms) := peI h fun _ _ _ q => cb (fun ds z vs s F fp H Q R hz rs k => by
  match ds, hz with
  | [.int i, .int j], hz =>
    cases hz
    cases rs with
    | cons r1 t => cases t with
      | cons r2 t => cases t; cases r1; cases r2; exact ⟨i, j, rfl, k _ (.int _)⟩) q
theorem me_pick3 {f : V → V → V → Option V} (h : PE X e (tCB (rNuC3 f) (tMA X.K G W Γ ms))) : ME X G W Γ e .fr (mCall (bPick3 f) ms) := peI h fun _ _ _ q => cb (fun ds z vs s F fp H Q R hz rs k => by
  match ds, hz with
  | [.int i, .int j, .int l], hz =>
    cases rs with
    | cons r1 t => cases t with
      | cons r2 t => cases t with
        | cons r3 t =>
          cases t; cases r1; cases r2; cases r3
          have hz : (match f (.int i) (.int j) (.int l) with
            | some (.int m) => some (D.int m)
            | _ => none) = some z := hz
          cases ef : f (.int i) (.int j) (.int l) with
          | none => rw [ef] at hz; cases hz
          | some v => cases v with
            | int m =>
              rw [ef] at hz
              cases hz
              exact ⟨_, _, _, _, rfl, ef, k _ (.int _)⟩
            | _ => rw [ef] at hz; cases hz) q
theorem me_int1 (h : PE X e (tCB (fun xs H Q => (∃ i, xs = [.int i] ∧ Q (.int i) H) ∨ ∃ k, xs = [.bl k] ∧ Q (.int (if k then 1 else 0)) H) (tMA X.K G W Γ ms))) : ME X G W Γ e .fr (mCall bInt1 ms) := peI h fun _ _ _ q => cb (fun ds z vs s F fp H Q R hz rs k => by
  match ds, hz with
  | [.int i], hz =>
    cases hz
    obtain ⟨v, rfl, r⟩ := rs.one
    cases r
    exact .inl ⟨i, rfl, k _ (.int _)⟩
  | [.bl b], hz =>
    cases hz
    obtain ⟨v, rfl, r⟩ := rs.one
    cases r
    exact .inr ⟨b, rfl, k _ (.int _)⟩) q
end
end Bk

set_option Elab.async false
set_option linter.all false
set_option maxRecDepth 100000
set_option maxHeartbeats 4000000
namespace Bk
open PySem PySem.Spec PyProof.Rows L2
/-! ### isinstance with an own class of things -/
def isiB (c : Str) : Ft := fun K => decide (PySem.W.kitOne K (.ref (He.ga K c)) (.ref (He.ga K c)) = some true) && ((["NoneType", "bool", "int", "str", "tuple", "list"].all fun t => decide (PySem.W.kitOne K (.type t) (.ref (He.ga K c)) = some false)) &&
  (He.eqO (PySem.W.findIn K (.ref (He.ga K c)) "__class__") (some (some (.builtin "object.__class__"))) && (He.eqO (PySem.W.specialIn K (.builtin "object.__class__") "__get__") (some (some (.builtin "getset_descriptor.__get__"))) &&
    (decide (PySem.W.takesIn K (.builtin "object.__class__") = some true) && decide (PySem.W.mroIn K (He.ga K c) (.type "object") = some true)))))
variable [Cls]
structure IsiC (K : PySem.W.Frag) (c : Str) : Prop where
  self : PySem.W.kitOne K (.ref (Cls.ga c)) (.ref (Cls.ga c)) = some true
  not_ : ∀ t ∈ ["NoneType", "bool", "int", "str", "tuple", "list"], PySem.W.kitOne K (.type t) (.ref (Cls.ga c)) = some false
  ha : PySem.W.findIn K (.ref (Cls.ga c)) "__class__" = some (some (.builtin "object.__class__"))
  hn : PySem.W.specialIn K (.builtin "object.__class__") "__get__" = some (some (.builtin "getset_descriptor.__get__"))
  htk : PySem.W.takesIn K (.builtin "object.__class__") = some true
  hm : PySem.W.mroIn K (Cls.ga c) (.type "object") = some true
theorem isiC_of {K : PySem.W.Frag} {c : Str} (hA : Cls.ga = He.ga K) (h : isiB c K = true) : IsiC K c := by
  unfold isiB at h
  obtain ⟨h1, h⟩ := Bool.and_eq_true_iff.mp h
  obtain ⟨h2, h⟩ := Bool.and_eq_true_iff.mp h
  obtain ⟨h3, h⟩ := Bool.and_eq_true_iff.mp h
  obtain ⟨h4, h⟩ := Bool.and_eq_true_iff.mp h
  obtain ⟨h5, h6⟩ := Bool.and_eq_true_iff.mp h
  refine ⟨by rw [hA]; exact of_decide_eq_true h1, fun t ht => by rw [hA]; exact of_decide_eq_true (List.all_eq_true.mp h2 t ht), by rw [hA]; exact He.eqO_ok h3, He.eqO_ok h4, of_decide_eq_true h5, by rw [hA]; exact of_decide_eq_true h6⟩
def mIsiC (c : Str) (m : M) : M := fun s => (m s).bind fun d s1 => match d with
  | .obj c' _ _ => if c' = c ∧ c' ≠ "()" then .ok (.bl true) s1 else .stuck
  | .dct _ _ => .stuck
  | _ => .ok (.bl false) s1
section
variable {X : Cx} {n : Nat} {G : Gr n} {W : WX} {Γ : List Ty}
theorem me_isiC {e : Expr} {c : Str} {m : M} (hc : L2.Cls X.K (Cls.ga c)) (hi : IsiC X.K c) (h : PE X e (tCB (rIsi X.K) (tCons (tM X.K G W Γ .fr m) (tCons (tC (.ref (Cls.ga c))) tNil)))) : ME X G W Γ e .fr (mIsiC c m) :=
  peI h fun σ H Q ⟨s, F, fp, R, q⟩ => ⟨s, F, fp, R, pbind q fun d s1 x F1 fp1 H1 R1 st1 a1 q1 => by
    have ar := a1.rep
    have no : d.isDct = false → (d.ty ∈ ["NoneType", "bool", "int", "str", "tuple", "list"]) → PostG X.K G W Γ σ F1 fp1 H1 (AE G .fr fp H) Q (.ok (.bl false) s1) → rIsi X.K [x, .ref (Cls.ga c)] H1 Q := fun h1 h2 q2 =>
      ⟨x, .ref (Cls.ga c), .type d.ty, .ref (Cls.ga c), false, rfl, .own _, R1.tyX h1 ar, hi.not_ _ h2, pok q2 R1 (AE.fr (.bl _))⟩
    cases ar with
    | non => exact no rfl (by simp [D.ty]) q1
    | bl b => exact no rfl (by simp [D.ty]) q1
    | int i => exact no rfl (by simp [D.ty]) q1
    | str y => exact no rfl (by simp [D.ty]) q1
    | tup _ _ => exact no rfl (by simp [D.ty]) q1
    | lst _ _ => exact no rfl (by simp [D.ty]) q1
    | dct _ _ _ => exact q1.elim
    | @obj c' ns ds vs a dx ea l rs =>
      have q2 : PostG X.K G W Γ σ F1 fp1 H1 (AE G .fr fp H) Q (if c' = c ∧ c' ≠ "()" then .ok (.bl true) s1 else .stuck) := q1
      by_cases hz : c' = c ∧ c' ≠ "()"
      · rw [if_pos hz] at q2
        obtain ⟨rfl, _⟩ := hz
        exact ⟨_, .ref (Cls.ga c'), .ref (Cls.ga c'), .ref (Cls.ga c'), true, rfl, .own _, .base (.ins (R1.at ea rfl) hc hi.ha hi.hn hi.htk hi.hm), hi.self, pok q2 R1 (AE.fr (.bl _))⟩
      · rw [if_neg hz] at q2
        exact q2.elim
    | emp _ =>
      have q2 : PostG X.K G W Γ σ F1 fp1 H1 (AE G .fr fp H) Q (if ("()" : Str) = c ∧ ("()" : Str) ≠ "()" then .ok (.bl true) s1 else .stuck) := q1
      rw [if_neg fun z => z.2 rfl] at q2
      exact q2.elim⟩
end
end Bk

set_option Elab.async false
set_option linter.all false
set_option maxRecDepth 100000
set_option maxHeartbeats 4000000
namespace Bk
open PySem PySem.Spec PyProof.Rows L2
variable [Cls]
/-! ### try with a row of clauses, each of them 'except C as e' -/
structure Hd where
  cl : Value
  ix : Nat
  ts : Addr → Value → Option Addr → TS
/-- a clause's name goes at the end of its suite -/
def goneE (i : Nat) (D : Ends) : Ends where
  nx σ H := D.nx (σ.set i none) H
  rt := D.rt
  bk σ H := D.bk (σ.set i none) H
  ct σ H := D.ct (σ.set i none) H
/-- the row's wish -/
def wRow (K : PySem.W.Frag) (Wo : WX) (D : Ends) : List Hd → WX
  | [] => Wo
  | p :: ps => fun k od σ H => ∃ b, PySem.W.exmOne K k p.cl = some b ∧
      (b = false → wRow K Wo D ps k od σ H) ∧
      (b = true → ∀ a, H a = none → p.ts a k od (goneE p.ix D) (σ.set p.ix (some (.ref a))) H)
inductive RowOk (X : Cx) : List ExceptHandler → List Hd → Prop
  | nil : RowOk X [] []
  | cons {x y : Str} {p : Hd} {t : Stmt} {ts : List Stmt} {q q' : Pos} {es : List ExceptHandler} {ps : List Hd} (iy : X.N[p.ix]? = some y) (ly : X.env.kindOf y = some .local) (nx : Names X x p.cl)
      (su : ∀ (a : Addr) (ob : Obj) (k : Value) (od : Option Addr) (pn : List (Addr × Obj)), Zc k od ob → (∃ vs, ob.data = .fields vs) → PSs (X.suite a ((a, ob) :: pn)) (t :: ts) (p.ts a k od))
      (more : RowOk X es ps) : RowOk X (.ExceptHandler (some (.Name x q)) (some y) (t :: ts) q' :: es) (p :: ps)
section
variable {X : Cx} {body : List Stmt} {e₀ : ExceptHandler} {es : List ExceptHandler} {ps : List Hd} {pos : Pos} {tb : WX → TS} {Wo : WX}
theorem ps_try_row (hs : X.stack = X.env :: X.outer) (hf : X.env.frame = some X.env.locals) (hN : X.N.Nodup) (tk : Takes X Wo) (hh : RowOk X (e₀ :: es) ps)
    (hb : ∀ (V : WX) (pn : List (Addr × Obj)) (xe : Value → Shared → Prop), Takes (X.tr pn xe) V → PSs (X.tr pn xe) body (tb V)) :
    PS X (.Try body (e₀ :: es) [] [] pos) (fun D σ H => tb (wRow X.K Wo D ps) D σ H) := by
  constructor
  intro pins s σ H D I w0
  have k0 := I.ok
  have frs0 : X.A.frames = some (X.env :: X.outer) := k0.frames.trans (by rw [hs])
  apply wpAny_Try_except
  refine wpAny_mono ((hb (wRow X.K Wo D ps) (X.pn ++ pins) (fun u z => wpAny (model X.prog X.w) X.A (noteFrame u X.env) (fun _ z1 => wpAny (model X.prog X.w) X.A (setFlight u none)
      (fun _ z2 => wpAny (model X.prog X.w) X.A (handleBy u X.env (e₀ :: es)) (SP X pins D) X.xe z2) X.xe z1) X.xe z)
    (fun u z c => ?_)).run [] s σ H D (I.toTry _) w0) (fun fl z c => ?_) (fun _ _ c => c)
  · obtain ⟨a, B, z0, pins2, σ2, H2, k, od, rfl, Jt, nb, up, sk, na, os, ag, w⟩ := c
    have J := Jt.ofTry k0
    rw [hs] at sk
    show wpAny (model X.prog X.w) X.A (noteFrame (.ref a) X.env) _ _ _
    apply Sky.land Zc.steady frs0 hf sk
    intro g fg ug
    have up1 := up.trans ug
    have Jg : Inv X pins σ2 H2 { z with heap := g } := by
      exact J.landed nb fg.1 up1 os ag
    have hid : a ∉ frs (X.env :: X.outer) := by
      obtain ⟨o1, w1, g1, _, d1⟩ := fg.there
      intro hm
      obtain ⟨_, o2, g2, nf⟩ := fg.2.2.1.mem hm
      rw [g1] at g2
      cases g2
      exact nf _ d1
    have aL : a ≠ X.env.locals := fun c => hid (List.mem_filterMap.mpr ⟨_, List.mem_cons_self, hf.trans (congrArg some c.symm)⟩)
    have aF : a ∉ X.fs := by
      intro hm
      obtain ⟨en, m1, m2⟩ := List.mem_filterMap.mp hm
      exact hid (List.mem_filterMap.mpr ⟨en, .tail _ m1, m2⟩)
    have all : ∀ {rs : List ExceptHandler} {ls : List Hd}, RowOk X rs ls → wRow X.K Wo D ls k od σ2 H2 →
        wpAny (model X.prog X.w) X.A (handleBy (.ref a) X.env rs) (SP X pins D) X.xe { z with heap := g } := by
      intro rs ls r
      induction r with
      | nil =>
        intro w
        apply wpAny_handleBy_nil
        have rest : wpAny (model X.prog X.w) X.A (setFlight (.ref a) X.env.frame) (fun _ z4 => wpAny (model X.prog X.w) X.A (throw (.ref a) : Sem Flow) (SP X pins D) X.xe z4) X.xe { z with heap := g } := by
          rw [hf]
          apply HandSPX.setFlight_upZ fg
          intro g4 hg4 ug4
          apply wpAny_throw
          apply tk
          rw [← hs] at hg4
          exact ⟨a, B, z0, pins, σ2, H2, k, od, rfl, J, nb, up1.trans ug4, .inr (.inr hg4), na, os, ag, w⟩
        obtain ⟨_, _, _, o, vs, T, _, _, g1, _, g2, g3, _⟩ := id fg
        have nn : ¬ ((Value.ref T == Value.none) = true) := by simp
        unfold PySem.passOn
        refine wpAny_bind (wpAny_field g1 g2 g3 ?_)
        rw [if_neg nn]
        first
          | exact wpAny_bind (wpAny_pure (wpAny_bind rest))
          | exact wpAny_bind rest
      | @cons x y p t ts q q' es2 ps2 iy ly nx su more ih =>
        intro ⟨b, m, no, yes⟩
        obtain ⟨o1, w1, g1, z1, d1⟩ := fg.there
        have Sg := Jg.suite g1 d1 na aL aF
        have look : PySem.W.Looks (model X.prog X.w) g (typeOf (.ref a)) k := fun A Q E st kk qq => wpAny_typeOf_ref (kk _ _ g1) (by rw [z1.1]; exact qq)
        have match_ := PySem.W.exm_one (M := model X.prog X.w) Jg.kIn look m
        have nb1 : Value.ref a ≠ byPass := by intro c; cases c
        refine wpAny_handleBy_cons (codeAny_handlers_test ?_) nb1
        have named : ∀ {Q E : Value → Shared → Prop}, Q p.cl { z with heap := g } → wpAny (model X.prog X.w) (X.A.mark (some (.ref a))) (eval (.Name x q) X.env) Q E { z with heap := g } := by
          intro Q E qq
          obtain ⟨n1, n2, n3 | ⟨n3, n4, n5⟩⟩ := nx
          · exact ld_glob (X := X.suite a ((a, o1) :: (X.pn ++ pins))) Sg n1 n3 qq n2
          · exact ld_blt (X := X.suite a ((a, o1) :: (X.pn ++ pins))) Sg n1 n3 n4 qq n5 n2
        refine named (match_.here ?_)
        cases b
        · exact ih (no rfl)
        · apply codeAny_handlers_suite_as
          apply HandSPX.lands_againZ fg
          intro g4 fg4 ug4
          obtain ⟨o4, w4, h4, z4, d4⟩ := fg4.there
          have J4 : Inv X pins σ2 H2 { z with heap := g4 } := by
            exact J.landed nb fg4.1 (up1.trans ug4) os ag
          have S4 := J4.suite h4 d4 na aL aF
          refine store_ok (X := X.suite a ((a, o4) :: (X.pn ++ pins))) (v := .ref a) S4 hN iy (.inl ly) rfl (fun s5 S5 => ?_) (.inr ly)
          refine wpAny_mono ((su a o4 k od (X.pn ++ pins) z4 ⟨_, d4⟩).run [] s5 _ H2 _ S5 (yes rfl a na)) (fun fl s6 c => ?_) (fun _ _ c => c.elim)
          have bye : ∀ {σ6 : Sl} {H6 : Hp} {Q : Shared → Prop}, Inv (X.suite a ((a, o4) :: (X.pn ++ pins))) [] σ6 H6 s6 → (∀ s7, Inv X pins (σ6.set p.ix none) H6 s7 → Q s7) →
              wpAny (model X.prog X.w) X.A (do bindName X.env y .none; unbindBehindTheSuite X.env y q') (fun _ s7 => Q s7) X.xe s6 := fun S6 hq => gone_ok (S6.unsuite k0) hN iy ly hq
          cases fl with
          | next => exact c.elim fun σ6 c => c.elim fun H6 c => bye c.1 fun s7 J7 => ⟨_, _, J7, c.2⟩
          | brk => exact c.elim fun σ6 c => c.elim fun H6 c => bye c.1 fun s7 J7 => ⟨_, _, J7, c.2⟩
          | cont => exact c.elim fun σ6 c => c.elim fun H6 c => bye c.1 fun s7 J7 => ⟨_, _, J7, c.2⟩
          | ret u =>
            obtain ⟨v, σ6, H6, S6, r6, c⟩ := c
            exact bye S6 fun s7 J7 => ⟨_, _, _, J7, r6, c⟩
    exact all hh w
  · cases fl with
    | next => exact c.elim fun σ2 c => c.elim fun H2 c => wpAny_execs_nil ⟨σ2, H2, c.1.ofTry k0, c.2⟩
    | brk => exact c.elim fun σ2 c => c.elim fun H2 c => ⟨σ2, H2, c.1.ofTry k0, c.2⟩
    | cont => exact c.elim fun σ2 c => c.elim fun H2 c => ⟨σ2, H2, c.1.ofTry k0, c.2⟩
    | ret u =>
      obtain ⟨v, σ2, H2, J2, r2, c⟩ := c
      exact ⟨v, σ2, H2, J2.ofTry k0, r2, c⟩
end
end Bk

set_option Elab.async false
set_option linter.all false
set_option maxRecDepth 100000
set_option maxHeartbeats 4000000
namespace Bk
open PySem PySem.Spec PyProof.Rows L2
variable [Cls]
/-! ### the row of clauses over data: each sets a name to a tuple of what the error says -/
structure HdM where
  isa : Str → Option Bool
  i : Nat
  j : Nat
  vals : Err → Option (List D)
def rowM : List HdM → Err → Env → SO
  | [], er, s => .err er s
  | p :: ps, er, s => match p.isa er.c with
    | some true => match p.vals er with
      | some ds => if ds.length ≤ 1000 then .nx (((s.set p.i none).set p.j (some (.tup ds))).set p.i none) else .stuck
      | none => .stuck
    | some false => rowM ps er s
    | none => .stuck
def sTryRow (mb : MS) (ps : List HdM) : MS := fun s => match mb s with
  | .err er s1 => rowM ps er s1
  | o => o
section
variable {X : Cx} {n : Nat} {G : Gr n} {Γ : List Ty}
/-- clauses, their wishes and their mirrors -/
inductive RowD (X : Cx) {n : Nat} (G : Gr n) (Γ : List Ty) : List ExceptHandler → List Hd → List HdM → Prop
  | nil : RowD X G Γ [] [] []
  | cons {x y : Str} {c : Value} {p : HdM} {t : Stmt} {ts : List Stmt} {q q' : Pos} {es : List ExceptHandler} {hs : List Hd} {ps : List HdM} (iy : X.N[p.i]? = some y) (ly : X.env.kindOf y = some .local) (nx : Names X x c)
      (su : ∀ (a : Addr) (ob : Obj) (k : Value) (od : Option Addr) (pn : List (Addr × Obj)), Zc k od ob → (∃ vs, ob.data = .fields vs) → PSs (X.suite a ((a, ob) :: pn)) (t :: ts) (tES X.K G Γ p.i p.j p.vals a k od))
      (ti : Γ[p.i]? = some .fr) (ni : n ≤ p.i) (T : ∀ k b, p.isa k = some b → PySem.W.exmOne X.K (.ref (He.ga X.K k)) c = some b)
      (more : RowD X G Γ es hs ps) : RowD X G Γ (.ExceptHandler (some (.Name x q)) (some y) (t :: ts) q' :: es) (⟨c, p.i, tES X.K G Γ p.i p.j p.vals⟩ :: hs) (p :: ps)
theorem RowD.ok {es : List ExceptHandler} {hs : List Hd} {ps : List HdM} (r : RowD X G Γ es hs ps) : RowOk X es hs := by
  induction r with
  | nil => exact .nil
  | cons iy ly nx su ti ni T more ih => exact .cons iy ly nx su ih
theorem RowD.lands {W : WX} {rt : Ty} {Dn : Ends} {F F' H H' : Hp} {fp fp' : Fp} {s1 : Env} {σ' : Sl} {er : Err} {cls : Value} {od : Option Addr} (R' : Rel G Γ s1 σ' F' fp' H') (x' : Stp L0 F fp H F' fp' H') (he : ErrAt X.K F' er cls od)
    {es : List ExceptHandler} {hs : List Hd} {ps : List HdM} (r : RowD X G Γ es hs ps) (q : PostS X.K G W Γ rt F fp H Dn (rowM ps er s1)) : wRow X.K W Dn hs cls od σ' H' := by
  induction r with
  | nil => exact q cls od σ' F' fp' H' R' x' he
  | @cons x y c p t ts _ _ es hs ps iy ly nx su ti ni T more ih =>
    unfold rowM at q
    cases eb : p.isa er.c with
    | none => rw [eb] at q; exact q.elim
    | some b =>
      rw [eb] at q
      refine ⟨b, by rw [he.1]; exact T er.c b eb, fun hb => ?_, fun hb a _ => ?_⟩
      · subst hb
        exact ih q
      · subst hb
        simp only [] at q
        cases ev : p.vals er with
        | none => rw [ev] at q; exact q.elim
        | some ds =>
          rw [ev] at q
          simp only [] at q
          by_cases hl : ds.length ≤ 1000
          · rw [if_pos hl] at q
            have hlen : p.i < σ'.length := by rw [R'.lσ]; exact (List.getElem?_eq_some_iff.mp ti).1
            exact ⟨s1.set p.i none, F', fp', er, ds, ⟨R'.sl ni _, List.getElem?_set_self hlen, he⟩, ev, hl, fun σ2 F2 fp2 H2 R3 x3 => q (σ2.set p.i none) F2 fp2 H2 (R3.sl ni none) (x'.trans x3)⟩
          · rw [if_neg hl] at q; exact q.elim
theorem ms_tryRow {W : WX} {rt : Ty} {body : List Stmt} {e₀ : ExceptHandler} {es : List ExceptHandler} {hs : List Hd} {ps : List HdM} {pos : Pos} {mb : MS} (hst : X.stack = X.env :: X.outer) (hf : X.env.frame = some X.env.locals) (hN : X.N.Nodup) (tk : Takes X W)
    (hb : ∀ (V : WX) (pn : List (Addr × Obj)) (xe : Value → Shared → Prop), Takes (X.tr pn xe) V → MSs (X.tr pn xe) G V Γ rt body mb) (r : RowD X G Γ (e₀ :: es) hs ps) :
    MSt X G W Γ rt (.Try body (e₀ :: es) [] [] pos) (sTryRow mb ps) :=
  psI (ps_try_row (tb := fun V => tS X.K G V Γ rt mb) hst hf hN tk r.ok hb) fun Dn σ H ⟨s, F, fp, R, q⟩ => ⟨s, F, fp, R, by
    unfold sTryRow at q
    cases em : mb s with
    | err er s1 =>
      rw [em] at q
      exact fun cls od σ' F' fp' H' R' x' he => r.lands R' x' he q
    | nx s1 => rw [em] at q; exact q
    | rt d s1 => rw [em] at q; exact q
    | bk s1 => rw [em] at q; exact q
    | ct s1 => rw [em] at q; exact q
    | stuck => rw [em] at q; exact q⟩
end
/-- a table of classes -/
def tbN (l : List (Str × Bool)) : Str → Option Bool := fun c => l.lookup c
theorem tbN_ok {P : Str → Bool → Prop} : ∀ {l : List (Str × Bool)}, (∀ p ∈ l, P p.1 p.2) → ∀ (c : Str) (b : Bool), tbN l c = some b → P c b
  | [], _, c, b, e => by cases e
  | (x, b1) :: l, h, c, b, e => by
    unfold tbN at e
    rw [List.lookup_cons] at e
    cases q : c == x with
    | true =>
      rw [q] at e
      cases e
      rw [eq_of_beq q]
      exact h (x, b1) List.mem_cons_self
    | false =>
      rw [q] at e
      exact tbN_ok (fun p hp => h p (.tail _ hp)) c b e
/-- every row of a table at once, for the head -/
def exmT (y : Str) (l : List (Str × Bool)) : Ft := fun K => l.all fun p => decide (PySem.W.exmOne K (.ref (He.ga K p.1)) (.ref (He.ga K y)) = some p.2)
theorem exmT_ok {K : PySem.W.Frag} {y : Str} {l : List (Str × Bool)} (h : exmT y l K = true) : ∀ c b, tbN l c = some b → PySem.W.exmOne K (.ref (He.ga K c)) (.ref (He.ga K y)) = some b :=
  tbN_ok (P := fun c b => PySem.W.exmOne K (.ref (He.ga K c)) (.ref (He.ga K y)) = some b) fun p hp => of_decide_eq_true (List.all_eq_true.mp h p hp)
end Bk

set_option Elab.async false
set_option linter.all false
set_option maxRecDepth 100000
set_option maxHeartbeats 4000000
namespace Bk
open PySem PySem.Spec PyProof.Rows L2
variable [Cls]
/-! ### the mirrors in parts that can be reckoned on data whose make-up is not shown -/
def seqI : D → Option (List D)
  | .tup ds => some ds
  | .lst ds => some ds
  | _ => none
theorem mSeqI_q (m : M) (s : Env) : mSeqI m s = (m s).bind fun d s1 => R.opt (seqI d) s1 := by
  unfold mSeqI
  congr 1
  funext d s1
  cases d <;> rfl
def keysI : D → Option (List D)
  | .dct ks _ => some (ks.map kDs)
  | _ => none
theorem mKeysI_q (m : M) (s : Env) : mKeysI m s = (m s).bind fun d s1 => R.opt (keysI d) s1 := by
  unfold mKeysI
  congr 1
  funext d s1
  cases d <;> rfl
def fldC (c f : Str) : D → Option D
  | .obj c' ns ds => if c' = c then fldOf ns ds f else none
  | _ => none
theorem mFld_q (c f : Str) (m : M) (s : Env) : mFld c f m s = (m s).bind fun d s1 => R.opt (fldC c f d) s1 := by
  unfold mFld
  congr 1
  funext d s1
  cases d with
  | obj c' ns ds =>
    show (if c' = c then _ else _) = R.opt (if c' = c then _ else _) s1
    by_cases h : c' = c
    · rw [if_pos h, if_pos h]
    · rw [if_neg h, if_neg h]
      rfl
  | _ => rfl
def isO (c : Str) : D → Bool
  | .obj c' _ _ => decide (c' = c ∧ c' ≠ "()")
  | _ => false
def isM (c m : Str) : D → Bool
  | .obj c' ns _ => decide ((c' = c ∧ m ∉ ns) ∧ c' ≠ "()")
  | _ => false
def clr (s : Env) : R D → R D
  | .ok r _ => .ok r s
  | .err e _ => .err e s
  | .stuck => .stuck
theorem clr_ok (s e : Env) (r : D) : clr s (.ok r e) = .ok r s := rfl
theorem clr_err (s e : Env) (r : Err) : clr s (.err r e) = .err r s := rfl
theorem mMeth_q (c m : Str) (f : List D → R D) (dflt : List D) (mo : M) (ms : MA) (s : Env) : mMeth c m f dflt mo ms s = (mo s).bind fun d s1 => if isM c m d = true then (ms s1).bind fun ds s2 => clr s2 (f (d :: (ds ++ dflt))) else .stuck := by
  unfold mMeth
  congr 1
  funext d s1
  cases d with
  | obj c' ns ds =>
    show (if (c' = c ∧ m ∉ ns) ∧ c' ≠ "()" then _ else _) = (if decide ((c' = c ∧ m ∉ ns) ∧ c' ≠ "()") = true then _ else _)
    by_cases h : (c' = c ∧ m ∉ ns) ∧ c' ≠ "()"
    · rw [if_pos h, if_pos (decide_eq_true h)]
      congr 1
    · rw [if_neg h, if_neg (by rw [decide_eq_false h]; decide)]
  | _ => rfl
def D.isObj : D → Bool
  | .obj _ _ _ => true
  | _ => false
def mkR (s : Env) : R D → R D
  | .ok .non (some d :: _) => if d.isObj = true then .ok d s else .stuck
  | .ok _ _ => .stuck
  | .err er _ => .err er s
  | .stuck => .stuck
theorem mkR_ok {d : D} (h : d.isObj = true) (s e : Env) : mkR s (.ok .non (some d :: e)) = .ok d s := by
  cases d with
  | obj c ns ds => rfl
  | _ => cases h
theorem mkR_err (s e : Env) (r : Err) : mkR s (.err r e) = .err r s := rfl
theorem mMake_q (c : Str) (f : List D → R D) (dflt : List D) (ms : MA) (s : Env) : mMake c f dflt ms s = (ms s).bind fun ds s1 => mkR s1 (f (.obj c [] [] :: (ds ++ dflt))) := by
  unfold mMake
  congr 1
  funext ds s1
  cases f (.obj c [] [] :: (ds ++ dflt)) with
  | ok r e =>
    cases r with
    | non =>
      cases e with
      | nil => rfl
      | cons o t =>
        cases o with
        | none => rfl
        | some d => cases d <;> rfl
    | _ => rfl
  | _ => rfl
def isiD (c : Str) : D → Option D
  | .obj c' _ _ => if c' = c ∧ c' ≠ "()" then some (.bl true) else none
  | .dct _ _ => none
  | _ => some (.bl false)
theorem mIsiC_q (c : Str) (m : M) (s : Env) : mIsiC c m s = (m s).bind fun d s1 => R.opt (isiD c d) s1 := by
  unfold mIsiC
  congr 1
  funext d s1
  cases d with
  | obj c' ns ds =>
    show (if c' = c ∧ c' ≠ "()" then _ else _) = R.opt (if c' = c ∧ c' ≠ "()" then _ else _) s1
    by_cases h : c' = c ∧ c' ≠ "()"
    · rw [if_pos h, if_pos h]; rfl
    · rw [if_neg h, if_neg h]; rfl
  | _ => rfl
def lenR (s : Env) : R D → R D
  | .ok (.int i) _ => if 0 ≤ i ∧ i < 2 ^ 63 then .ok (.int i) s else .stuck
  | _ => .stuck
theorem lenR_ok {i : Int} (h : 0 ≤ i ∧ i < 2 ^ 63) (s e : Env) : lenR s (.ok (.int i) e) = .ok (.int i) s := if_pos h
theorem mLenM_q (c : Str) (f : List D → R D) (m : M) (s : Env) : mLenM c f m s = (m s).bind fun d s1 => if isO c d = true then lenR s1 (f [d]) else .stuck := by
  unfold mLenM
  congr 1
  funext d s1
  cases d with
  | obj c' ns ds =>
    show (if c' = c ∧ c' ≠ "()" then _ else _) = (if decide (c' = c ∧ c' ≠ "()") = true then _ else _)
    by_cases h : c' = c ∧ c' ≠ "()"
    · rw [if_pos h, if_pos (decide_eq_true h)]
      cases f [D.obj c' ns ds] with
      | ok r e => cases r <;> rfl
      | _ => rfl
    · rw [if_neg h, if_neg (by rw [decide_eq_false h]; decide)]
  | _ => rfl
def tryR (ps : List HdM) : SO → SO
  | .err er s1 => rowM ps er s1
  | o => o
theorem sTryRow_q (mb : MS) (ps : List HdM) (s : Env) : sTryRow mb ps s = tryR ps (mb s) := by
  unfold sTryRow
  cases mb s <;> rfl
theorem tryR_nx (ps : List HdM) (s : Env) : tryR ps (.nx s) = .nx s := rfl
theorem tryR_err (ps : List HdM) (er : Err) (s : Env) : tryR ps (.err er s) = rowM ps er s := rfl
def slcD (l h : Option Int) : D → Option D
  | .lst ds => some (.lst (cutD ds l h))
  | _ => none
theorem mSlice_q (m : M) (lo hi : Option M) (s : Env) : mSlice m lo hi s = (m s).bind fun d s1 => (mPart lo s1).bind fun l s2 => (mPart hi s2).bind fun h s3 => R.opt (slcD l h d) s3 := by
  unfold mSlice
  congr 1
  funext d s1
  congr 1
  funext l s2
  congr 1
  funext h s3
  cases d <;> rfl
/-! ### loops by what each turn does -/
def SO.fin : SO → Bool
  | .rt _ _ => true
  | .err _ _ => true
  | .stuck => true
  | _ => false
theorem SO.fin_bind {o : SO} (h : o.fin = true) (k : Env → SO) : o.bind k = o := by
  cases o <;> first | rfl | cases h
theorem forM_nx {g : MG} {b : MS} {d : D} {ds : List D} {s s1 s2 : Env} (hg : g d s = some s1) (hb : b s1 = .nx s2) : forM g b (d :: ds) s = forM g b ds s2 := by
  show (match g d s with | none => SO.stuck | some s1 => match b s1 with | .nx s2 => forM g b ds s2 | .ct s2 => forM g b ds s2 | .bk s2 => .nx s2 | .rt d s2 => .rt d s2 | .err e s2 => .err e s2 | .stuck => .stuck) = _
  rw [hg]
  show (match b s1 with | .nx s2 => forM g b ds s2 | .ct s2 => forM g b ds s2 | .bk s2 => .nx s2 | .rt d s2 => .rt d s2 | .err e s2 => .err e s2 | .stuck => .stuck) = _
  rw [hb]
theorem forM_fin {g : MG} {b : MS} {d : D} {ds : List D} {s s1 : Env} {o : SO} (hg : g d s = some s1) (hb : b s1 = o) (ho : o.fin = true) : forM g b (d :: ds) s = o := by
  show (match g d s with | none => SO.stuck | some s1 => match b s1 with | .nx s2 => forM g b ds s2 | .ct s2 => forM g b ds s2 | .bk s2 => .nx s2 | .rt d s2 => .rt d s2 | .err e s2 => .err e s2 | .stuck => .stuck) = _
  rw [hg]
  show (match b s1 with | .nx s2 => forM g b ds s2 | .ct s2 => forM g b ds s2 | .bk s2 => .nx s2 | .rt d s2 => .rt d s2 | .err e s2 => .err e s2 | .stuck => .stuck) = _
  rw [hb]
  cases o <;> first | rfl | cases ho
/-- a loop that leaves at the first bad one -/
theorem for_find {α : Type} {q : α → D} {i : Nat} {b : MS} {bad : α → Bool} {out : α → SO} {s : Env} (ho : ∀ a, (out a).fin = true) : ∀ {L : List α}, (∀ a ∈ L, b (s.set i (some (q a))) = if bad a = true then out a else .nx (s.set i (some (q a)))) → ∀ o, ∃ o', forM (gN i) b (L.map q) (s.set i o) = match L.find? bad with | some a => out a | none => .nx (s.set i o')
  | [], _, o => ⟨o, rfl⟩
  | a :: L, h, o => by
    have ha := h a List.mem_cons_self
    have eg : gN i (q a) (s.set i o) = some (s.set i (some (q a))) := by
      show some _ = some _
      rw [List.set_set]
    rw [List.map_cons]
    cases hb : bad a with
    | true =>
      rw [hb, if_pos rfl] at ha
      refine ⟨none, ?_⟩
      rw [List.find?_cons_of_pos hb]
      exact forM_fin eg ha (ho a)
    | false =>
      rw [hb, if_neg (by decide)] at ha
      obtain ⟨o', ih⟩ := for_find (s := s) ho (fun x hx => h x (List.mem_cons_of_mem _ hx)) (some (q a))
      refine ⟨o', ?_⟩
      rw [List.find?_cons_of_neg (by rw [hb]; decide), ← ih]
      exact forM_nx eg ha
theorem set_now {i : Nat} {s : Env} : ∃ o, s.set i o = s := by
  by_cases h : i < s.length
  · exact ⟨s[i], List.set_getElem_self h⟩
  · exact ⟨none, List.set_eq_of_length_le (by omega)⟩
theorem find_step {P : SO → Prop} {m b r : MS} {mi : MA} {i : Nat} {s s0 : Env} {α : Type} (L : List α) (q : α → D) (bad : α → Bool) (out : α → SO) (h : m = sSeq (sFor mi (gN i) b) r) (e : mi s = .ok (L.map q) s0) (ho : ∀ a, (out a).fin = true)
    (hb : ∀ a ∈ L, b (s0.set i (some (q a))) = if bad a = true then out a else .nx (s0.set i (some (q a)))) (k1 : ∀ a, L.find? bad = some a → P (out a)) (k2 : L.find? bad = none → ∀ o, Hs P (r (s0.set i o))) : Hs P (m s) := by
  obtain ⟨o, eo⟩ := set_now (i := i) (s := s0)
  obtain ⟨o', lo⟩ := for_find (s := s0) ho hb o
  rw [eo] at lo
  rw [h]
  show P (((mi s).so (forM (gN i) b)).bind r)
  rw [e, R.so_ok, lo]
  cases hf : L.find? bad with
  | some a =>
    show P ((out a).bind r)
    rw [SO.fin_bind (ho a)]
    exact k1 a hf
  | none => exact k2 hf o'
/-- .. the last of its block -/
theorem lfind_step {P : SO → Prop} {m b : MS} {mi : MA} {i : Nat} {s s0 : Env} {α : Type} (L : List α) (q : α → D) (bad : α → Bool) (out : α → SO) (h : m = sFor mi (gN i) b) (e : mi s = .ok (L.map q) s0) (ho : ∀ a, (out a).fin = true)
    (hb : ∀ a ∈ L, b (s0.set i (some (q a))) = if bad a = true then out a else .nx (s0.set i (some (q a)))) (k1 : ∀ a, L.find? bad = some a → P (out a)) (k2 : L.find? bad = none → ∀ o, P (.nx (s0.set i o))) : Hs P (m s) := by
  obtain ⟨o, eo⟩ := set_now (i := i) (s := s0)
  obtain ⟨o', lo⟩ := for_find (s := s0) ho hb o
  rw [eo] at lo
  rw [h]
  show P ((mi s).so (forM (gN i) b))
  rw [e, R.so_ok, lo]
  cases hf : L.find? bad with
  | some a => exact k1 a hf
  | none => exact k2 hf o'
/-- a loop that gathers -/
theorem for_fold {α β : Type} {q : α → D} {i : Nat} {b : MS} {st : β → Env} {f : β → α → β} : ∀ {L : List α} {acc : β}, (∀ done a rest, L = done ++ a :: rest → ∃ o, b ((st (done.foldl f acc)).set i (some (q a))) = .nx ((st (f (done.foldl f acc) a)).set i o)) → ∀ o, ∃ o', forM (gN i) b (L.map q) ((st acc).set i o) = .nx ((st (L.foldl f acc)).set i o')
  | [], acc, _, o => ⟨o, rfl⟩
  | a :: L, acc, h, o => by
    obtain ⟨o1, e1⟩ := h [] a L rfl
    have eg : gN i (q a) ((st acc).set i o) = some ((st acc).set i (some (q a))) := by
      show some _ = some _
      rw [List.set_set]
    obtain ⟨o', ih⟩ := for_fold (L := L) (st := st) (f := f) (acc := f acc a) (fun done x rest he => h (a :: done) x rest (by rw [he]; rfl)) o1
    refine ⟨o', ?_⟩
    rw [List.map_cons, List.foldl_cons, ← ih]
    exact forM_nx eg e1
theorem fold_step {P : SO → Prop} {m b r : MS} {mi : MA} {i : Nat} {s : Env} {α β : Type} (L : List α) (q : α → D) (st : β → Env) (f : β → α → β) (acc : β) (h : m = sSeq (sFor mi (gN i) b) r) (e : mi s = .ok (L.map q) (st acc))
    (hb : ∀ done a rest, L = done ++ a :: rest → ∃ o, b ((st (done.foldl f acc)).set i (some (q a))) = .nx ((st (f (done.foldl f acc) a)).set i o)) (k : ∀ o, Hs P (r ((st (L.foldl f acc)).set i o))) : Hs P (m s) := by
  obtain ⟨o, eo⟩ := set_now (i := i) (s := st acc)
  obtain ⟨o', lo⟩ := for_fold hb o
  rw [eo] at lo
  rw [h]
  show P (((mi s).so (forM (gN i) b)).bind r)
  rw [e, R.so_ok, lo]
  exact k o'
theorem lfold_step {P : SO → Prop} {m b : MS} {mi : MA} {i : Nat} {s : Env} {α β : Type} (L : List α) (q : α → D) (st : β → Env) (f : β → α → β) (acc : β) (h : m = sFor mi (gN i) b) (e : mi s = .ok (L.map q) (st acc))
    (hb : ∀ done a rest, L = done ++ a :: rest → ∃ o, b ((st (done.foldl f acc)).set i (some (q a))) = .nx ((st (f (done.foldl f acc) a)).set i o)) (k : ∀ o, P (.nx ((st (L.foldl f acc)).set i o))) : Hs P (m s) := by
  obtain ⟨o, eo⟩ := set_now (i := i) (s := st acc)
  obtain ⟨o', lo⟩ := for_fold hb o
  rw [eo] at lo
  rw [h]
  show P ((mi s).so (forM (gN i) b))
  rw [e, R.so_ok, lo]
  exact k o'
/-- a comprehension of one clause -/
theorem comp_q {α : Type} {mi : MA} {i : Nat} {c : MB} {e : M} {s s0 : Env} (L : List α) (q : α → D) (p : α → Bool) (z : α → D) (hm : mi s = .ok (L.map q) s0) (hs : s0[i]? = some none)
    (hc : ∀ a ∈ L, c (s0.set i (some (q a))) = .ok (p a) (s0.set i (some (q a)))) (hz : ∀ a ∈ L, p a = true → ∃ o, e (s0.set i (some (q a))) = .ok (z a) (s0.set i o)) (hl : L.length < 16000000) :
    mComp mi (gN i) c e [i] s = .ok (.lst ((L.filter p).map z)) s0 := by
  have hn : s0.set i none = s0 := by
    have hi : i < s0.length := by
      rcases Nat.lt_or_ge i s0.length with h | h
      · exact h
      · rw [List.getElem?_eq_none h] at hs; cases hs
    rw [List.getElem?_eq_getElem hi] at hs
    have e1 : s0[i] = none := by injection hs
    exact (congrArg (s0.set i) e1.symm).trans (List.set_getElem_self hi)
  have sw : swipe s0 [i] = s0 := hn
  have key : ∀ (L : List α) (acc : List D), (∀ a ∈ L, c (s0.set i (some (q a))) = .ok (p a) (s0.set i (some (q a)))) → (∀ a ∈ L, p a = true → ∃ o, e (s0.set i (some (q a))) = .ok (z a) (s0.set i o)) → acc.length + L.length < 16000000 → compM (gN i) c e [i] (L.map q) s0 acc = .ok (acc ++ (L.filter p).map z) s0 := by
    intro L
    induction L with
    | nil =>
      intro acc _ _ _
      show R.ok acc s0 = _
      rw [List.filter_nil, List.map_nil, List.append_nil]
    | cons a L ih =>
      intro acc hc hz hl
      have hl : acc.length + (L.length + 1) < 16000000 := hl
      have h1 := hc a List.mem_cons_self
      have r1 : ∀ o, swipe (s0.set i o) [i] = s0 := fun o => by
        show ((s0.set i o).set i none) = s0
        rw [List.set_set, hn]
      have c1 := fun x hx => hc x (List.mem_cons_of_mem _ hx)
      have z1 := fun x hx => hz x (List.mem_cons_of_mem _ hx)
      rw [List.map_cons]
      unfold compM
      rw [show gN i (q a) s0 = some (s0.set i (some (q a))) from rfl]
      simp only [h1, R.bind_ok]
      cases hp : p a with
      | false =>
        rw [List.filter_cons_of_neg (by rw [hp]; decide)]
        simp only [if_neg (show ¬(false = true) by decide)]
        rw [r1]
        exact ih acc c1 z1 (by omega)
      | true =>
        obtain ⟨o, e2⟩ := hz a List.mem_cons_self hp
        rw [List.filter_cons_of_pos hp, List.map_cons]
        simp only [if_pos, e2, R.bind_ok]
        rw [r1, if_pos (by omega), ih (acc ++ [z a]) c1 z1 (by rw [List.length_append]; simp only [List.length_cons, List.length_nil]; omega), List.append_assoc]
        rfl
  unfold mComp
  rw [hm, R.bind_ok, sw, key L [] hc hz (by simpa using hl), R.noerr_ok, R.bind_ok]
  show R.ok _ (s0.set i ((s0[i]?).join)) = _
  rw [hs]
  show R.ok _ (s0.set i none) = _
  rw [hn]
  rfl
/-- a list of one kind of things read at a place -/
theorem dIx_map {α : Type} {q : α → D} {L : List α} {r : Int} (h0 : 0 ≤ r) (h1 : r < (L.length : Int)) : ∃ a ∈ L, dIx (.lst (L.map q)) (.int r) = some (q a) := by
  have hr : r.toNat < L.length := by omega
  refine ⟨L[r.toNat], List.getElem_mem hr, ?_⟩
  show atI (L.map q) r = _
  unfold atI ixN
  rw [List.length_map, if_pos h0, if_pos h1]
  simp [hr]
end Bk

set_option Elab.async false
set_option linter.all false
set_option maxRecDepth 100000
set_option maxHeartbeats 4000000
namespace Bk
open PySem PySem.Spec PyProof.Rows L2
/-! ### == by a class's own __eq__, both of the class -/
def rEqC (C : Addr) (sp : Sp) : R2 := fun x y H Q => ∃ a b dx dy fs gs, x = .ref a ∧ y = .ref b ∧ H a = some (.ins C dx fs) ∧ H b = some (.ins C dy gs) ∧ sp [x, y] H (fun v H' => (∃ k, v = .bl k) ∧ Q v H') E0
theorem op_eqC {X : Cx} {k : Nat} {f C : Addr} {fd : FuncData} {ps : List Str} {sp : Sp} (F : FnOk X.prog X.w X.K X.mg X.base (L2.CX X.prog X.w) k f fd ps sp) (hr : Room k X.A) (hm : Meth X.K C "__eq__" f) (hb : Binds X.K fd ps []) : OpR X (compareOp .Eq) (rEqC C sp) := by
  intro pins s σ H x y u v Q I rx ry hq
  obtain ⟨a, b, dx, dy, fs, gs, rfl, rfl, ha, hb', hsp⟩ := hq
  cases rx
  cases ry
  obtain ⟨mA, J, _⟩ := ins_get I.hok ha
  obtain ⟨mB, J', _⟩ := ins_get I.hok hb'
  obtain ⟨od, J, _⟩ := J.look
  obtain ⟨od', J', _⟩ := J'.look
  obtain ⟨m, hF⟩ := I.fr
  refine PySem.W.cmp_K (op := .Eq) (tb := .ref C) hr.units0 hF I.ok.mod.kin J J'.type (by simp [PySem.W.notFirst]) hm.at_ hm.fn ?_
  have e0 : Env0 X.prog X.w X.K X.mg X.base X.A X.stack s H := I.env0
  have hl := F.len _ _ _ _ hsp
  have r2 : Vals [V.ref a, V.ref b] [Value.ref a, Value.ref b] := .cons rfl (.cons rfl .nil)
  refine wpAny_call (codeAny_mono (F.run X.A X.stack s H ⟨[.ref a, .ref b], []⟩ [.ref a, .ref b] [.ref a, .ref b] _ E0 hr e0 (by
    have := hb s [.ref a, .ref b] I.kIn (by simpa using hl)
    simpa using this) r2 hsp) fun r s' hq => ?_)
  cases r with
  | error e => exact passL pins σ H s e s' I hq
  | ok fl =>
    cases fl with
    | ret w =>
      obtain ⟨z, H', I', rz, ⟨k, ez⟩, ex⟩ := I.after hq
      subst ez
      cases rz
      exact ⟨.bl k, H', I', rfl, ex⟩
    | next => exact False.elim hq
    | brk => exact False.elim hq
    | cont => exact False.elim hq
variable [Cls]
def eqR (s : Env) : R D → R D
  | .ok (.bl k) _ => .ok (.bl k) s
  | _ => .stuck
def mEqC (c : Str) (f : List D → R D) (ma mb : M) : M := fun s => (ma s).bind fun d s1 => (mb s1).bind fun e s2 => if (isO c d && isO c e) = true then eqR s2 (f [d, e]) else .stuck
theorem isO_rep {F : Hp} {c : Str} {d : D} {v : V} (r : Rep F d v) (h : isO c d = true) : ∃ a dx fs, v = .ref a ∧ F a = some (.ins (Cls.ga c) dx fs) := by
  cases r with
  | @obj c' ns ds vs a dx e l rs =>
    have h := of_decide_eq_true (show decide (c' = c ∧ c' ≠ "()") = true from h)
    rw [h.1] at e
    exact ⟨a, dx, _, rfl, e⟩
  | emp _ =>
    have h := of_decide_eq_true (show decide (("()" : Str) = c ∧ ("()" : Str) ≠ "()") = true from h)
    exact absurd rfl h.2
  | _ => cases h
section
variable {X : Cx} {n : Nat} {G : Gr n} {W : WX} {Γ : List Ty} {a b : Expr} {ma mb : M} {pos : Pos} {k : Nat} {c : Str} {f : List D → R D}
theorem two_eqC {K : PySem.W.Frag} {σ : Sl} {H : Hp} {Q : VK} (h : tM K G W Γ .fr (mEqC c f ma mb) σ H Q) :
    tM K G W Γ .fr ma σ H fun x H1 => tM K G W Γ .fr mb σ H1 fun y H2 => rEqC (Cls.ga c) (spM K (List.replicate 2 .fr) .fr f) x y H2 Q := by
  obtain ⟨s, F, fp, R, q⟩ := h
  refine ⟨s, F, fp, R, pbind q fun d s1 x F1 fp1 H1 R1 st1 a1 q1 => ⟨s1, F1, fp1, R1, pbind q1 fun e s2 y F2 fp2 H2 R2 st2 a2 q2 => ?_⟩⟩
  by_cases hc : (isO c d && isO c e) = true
  · rw [if_pos hc] at q2
    obtain ⟨h1, h2⟩ := Bool.and_eq_true_iff.mp hc
    have r1 := a1.rep.mono st2.f
    have r2 := a2.rep
    obtain ⟨pa, dx, fs, ex, ea⟩ := isO_rep r1 h1
    obtain ⟨pb, dy, gs, ey, eb⟩ := isO_rep r2 h2
    refine ⟨pa, pb, dx, dy, fs, gs, ex, ey, R2.at ea rfl, R2.at eb rfl, ?_⟩
    have q3 : PostG K G (fun _ _ _ _ => False) Γ σ F2 fp2 H2 (AE G .fr fp2 H2) (fun v H' => (∃ k, v = .bl k) ∧ Q v H') (match f [d, e] with
      | .ok r _ => .ok r s2
      | .err er _ => .err er s2
      | .stuck => .stuck) := by
      cases ef : f [d, e] with
      | ok r e' =>
        rw [ef] at q2
        cases r with
        | bl k =>
          intro v F' fp' H' R' x' z
          have z2 := z.rep
          cases z2
          exact ⟨⟨k, rfl⟩, q2 _ F' fp' H' R' x' (AE.fr (.bl k))⟩
        | _ => exact q2.elim
      | err er e' => rw [ef] at q2; exact q2.elim
      | stuck => rw [ef] at q2; exact q2.elim
    exact call_fr (W := fun _ _ _ _ => False) R2 (.cons r1 (.cons r2 .nil)) rfl q3
  · rw [if_neg hc] at q2
    exact q2.elim
theorem me_eqC (C : CalM X.prog X.w X.K X.mg X.base k c "__eq__" 1 .fr f []) (hr : Room k X.A) (ha : ME X G W Γ a .fr ma) (hb : ME X G W Γ b .fr mb) : ME X G W Γ (.Compare a [.Eq] [b] pos) .fr (mEqC c f ma mb) := by
  obtain ⟨fa, fd, ps, ds, F, hc, hm, hbd, hv⟩ := C.ex
  have ed : ds = [] := by cases hv; rfl
  subst ed
  exact peI (pe_cmpR (op_eqC F hr hm hbd) ha hb (nomark _)) fun σ H Q h => two_eqC h
theorem mt_eqC (C : CalM X.prog X.w X.K X.mg X.base k c "__eq__" 1 .fr f []) (hr : Room k X.A) (ha : ME X G W Γ a .fr ma) (hb : ME X G W Γ b .fr mb) : MT X G W Γ (.Compare a [.Eq] [b] pos) (mTst (mEqC c f ma mb)) := by
  obtain ⟨fa, fd, ps, ds, F, hc, hm, hbd, hv⟩ := C.ex
  have ed : ds = [] := by cases hv; rfl
  subst ed
  exact ptI (pt_cmpR (op_eqC F hr hm hbd) ha hb (nomark _)) fun σ H Q h => two_eqC (tst h)
end
/-! ### a suite that sets a name to a plain value by the error -/
def sTryV (mb : MS) (isa : Str → Option Bool) (i j : Nat) (val : Err → Option D) : MS := fun s => match mb s with
  | .err er s1 => match isa er.c with
    | some true => match val er with
      | some d => .nx (((s1.set i none).set j (some d)).set i none)
      | none => .stuck
    | some false => .err er s1
    | none => .stuck
  | o => o
section
variable {X : Cx} {n : Nat} {G : Gr n} {Γ : List Ty} {i : Nat} {a : Addr} {cls : Value} {od : Option Addr} {oe : Obj} {pn : List (Addr × Obj)}
def tESV (K : PySem.W.Frag) (G : Gr n) (Γ : List Ty) (i j : Nat) (val : Err → Option D) (a : Addr) (cls : Value) (od : Option Addr) : TS := fun Dn σ H => ∃ s F fp er d, EK K G Γ i a er cls od s σ F fp H ∧ val er = some d ∧ ∀ σ' F' fp' H', Rel G Γ (s.set j (some d)) σ' F' fp' H' → Stp L0 F fp H F' fp' H' → Dn.nx σ' H'
theorem es_oneV {st : Stmt} {j : Nat} {val : Err → Option D} (h : PS (X.suite a ((a, oe) :: pn)) st (tAsg (tEI X.K G Γ i a cls od val) (gName j))) (hj : Γ[j]? = some .fr) : PSs (X.suite a ((a, oe) :: pn)) [st] (tESV X.K G Γ i j val a cls od) :=
  pss_one (psI h fun Dn σ H ⟨s, F, fp, er, d, ⟨R, hi, he⟩, ev, k⟩ => ⟨s, F, fp, er, d, ⟨R, hi, he⟩, ev, fun v F1 H1 r1 R1 x1 => k _ _ _ _ (R1.putF hj r1) (x1.trans (Stp.putF (Stp.refl _ _ _)))⟩)
theorem ms_tryV {W : WX} {rt : Ty} {x nm : Str} {c : Value} {body suite : List Stmt} {b₀ : Stmt} {np pos pos' : Pos} {mb : MS} {isa : Str → Option Bool} {j : Nat} {val : Err → Option D}
    (hs : X.stack = X.env :: X.outer) (hf : X.env.frame = some X.env.locals) (hN : X.N.Nodup) (hi : X.N[i]? = some nm) (hln : X.env.kindOf nm = some .local) (hc : Names X x c) (tk : Takes X W)
    (hb : ∀ (W2 : WX) (pn : List (Addr × Obj)) (xe : Value → Shared → Prop), Takes (X.tr pn xe) W2 → MSs (X.tr pn xe) G W2 Γ rt body mb)
    (hsu : ∀ (a : Addr) (oe : Obj) (cls : Value) (od : Option Addr) (pn : List (Addr × Obj)), Zc cls od oe → (∃ vs, oe.data = .fields vs) → PSs (X.suite a ((a, oe) :: pn)) (b₀ :: suite) (tESV X.K G Γ i j val a cls od))
    (hi2 : Γ[i]? = some .fr) (hn : n ≤ i) (T : ∀ k b, isa k = some b → PySem.W.exmOne X.K (.ref (He.ga X.K k)) c = some b) :
    MSt X G W Γ rt (.Try body [.ExceptHandler (some (.Name x np)) (some nm) (b₀ :: suite) pos'] [] [] pos) (sTryV mb isa i j val) :=
  psI (ps_try_as (i := i) (c := c) (tb := fun W2 => tS X.K G W2 Γ rt mb) (ts := fun a cls od => tESV X.K G Γ i j val a cls od) hs hf hN hi hln hc tk (fun W2 pn xe t _ => hb W2 pn xe t) hsu) fun Dn σ H ⟨s, F, fp, R, q⟩ => ⟨s, F, fp, R, by
    unfold sTryV at q
    cases em : mb s with
    | nx s1 => rw [em] at q; exact q
    | rt d s1 => rw [em] at q; exact q
    | bk s1 => rw [em] at q; exact q
    | ct s1 => rw [em] at q; exact q
    | stuck => rw [em] at q; exact q
    | err er s1 =>
      rw [em] at q
      intro cls od σ' F' fp' H' R' x' he
      simp only [] at q
      cases eb : isa er.c with
      | none => rw [eb] at q; exact q.elim
      | some b =>
        rw [eb] at q
        refine ⟨b, by rw [he.1]; exact T er.c b eb, fun hb a hna => ?_, fun hb => ?_⟩
        · subst hb
          simp only [] at q
          cases ev : val er with
          | none => rw [ev] at q; exact q.elim
          | some d =>
            rw [ev] at q
            simp only [] at q
            have hlen : i < σ'.length := by rw [R'.lσ]; exact (List.getElem?_eq_some_iff.mp hi2).1
            exact ⟨s1.set i none, F', fp', er, d, ⟨R'.sl hn _, List.getElem?_set_self hlen, he⟩, ev, fun σ2 F2 fp2 H2 R3 x3 => q (σ2.set i none) F2 fp2 H2 (R3.sl hn none) (x'.trans x3)⟩
        · subst hb
          exact q cls od σ' F' fp' H' R' x' he⟩
end
end Bk

set_option Elab.async false
set_option linter.all false
set_option maxRecDepth 100000
set_option maxHeartbeats 4000000
namespace Bk
open PySem PySem.Spec PyProof.Rows L2
/-! ### calls with values and keywords -/
def tCallNS (n m : Nat) (sp : Sp) (gV : List V → List V → List V) (E : L2.St → XK) (t tk : TA) : TE := fun σ H Q => t σ H fun vs H1 => tk σ H1 fun zs H2 => vs.length = n ∧ zs.length = m ∧ sp (gV vs zs) H2 Q (E σ)
section
variable {X : Cx} {CX : CXT} {k n : Nat} {f : Addr} {fd : FuncData} {ps ks : List Str} {sp : Sp} {E : L2.St → XK} {x : Str} {p pos : Pos} {e : Expr} {es : List Expr} {kws : List Keyword} {t tk : TA} {g : List Value → List Value → List Value} {gV : List V → List V → List V}
theorem run_fnNS {pins : List (Addr × Obj)} {σ : L2.St} {H : Hp} {s : Shared} {Q : VK} {us ws : List Value} {vs zs : List V} (F : FnOk X.prog X.w X.K X.mg X.base CX k f fd ps sp) (hr : Room k X.A) (hb : KBn X.K fd ps n ks g gV) (hx : PassesAt CX X σ (E σ))
    (I : Inv X pins σ H s) (r : Vals vs us) (rz : Vals zs ws) (l1 : vs.length = n) (l2 : zs.length = ks.length) (h : sp (gV vs zs) H Q (E σ)) : wpAny (model X.prog X.w) X.A (call (.ref f) us (ks.zip ws)) (EP X pins σ Q) X.xe s := by
  have r2 := hb.rel r rz
  refine wpAny_call (codeAny_mono (F.run X.A X.stack s H ⟨us, ks.zip ws⟩ (g us ws) (gV vs zs) Q (E σ) hr I.env0 (hb.to s us ws I.kIn (r.length.symm.trans l1) (rz.length.symm.trans l2)) r2 h) fun r s' hq => ?_)
  cases r with
  | error e => exact hx pins H s e s' I hq
  | ok fl =>
    cases fl with
    | ret u => exact I.after hq
    | next => exact False.elim hq
    | brk => exact False.elim hq
    | cont => exact False.elim hq
theorem pe_callNS (F : FnOk X.prog X.w X.K X.mg X.base CX k f fd ps sp) (hr : Room k X.A) (hg : Gl X x) (hm : X.mg x = some (.ref f)) (hk : PySem.W.keepIn X.K (.ref f) = true) (hb : KBn X.K fd ps n ks g gV) (hx : ∀ σ, PassesAt CX X σ (E σ))
    (ha : PA X (e :: es) t) (hkw : PK X kws tk) (hall : (backToKw pos (keywordEach kws X.env)).all (·.1.isSome) = true := by rfl) (hks : (backToKw pos (keywordEach kws X.env)).filterMap (·.1) = ks := by rfl)
    (hdb : (x == ("__debug__" : Str)) = false := by decide) (he : starEach (e :: es) X.env = (false, eval e X.env) :: starEach es X.env := by rfl)
    (hpl : ((backTo pos (starEach (e :: es) X.env)).any (·.1) || (backToKw pos (keywordEach kws X.env)).any (·.1.isNone)) = false := by rfl) :
    PE X (.Call (.Name x p) (e :: es) kws pos) (tCallNS n ks.length sp gV E t tk) := by
  refine ⟨fun pins s σ H Q I h => ?_⟩
  refine wpAny_Call_Name_kw (ld_glob I hg hm ?_ hdb)
  refine PySem.W.callWith_KW (h₀ := X.base) I.ok.mod.kin hk hall (thn (ha.run pos pins s σ H _ I h) fun us s1 ⟨vs, H1, I1, r, q⟩ => ?_) hpl he
  refine thn (hkw.run pos pins s1 σ H1 _ I1 q) fun ws s2 ⟨zs, H2, I2, rz, l1, l2, q2⟩ => ⟨I2.kIn, ?_⟩
  rw [hks]
  exact run_fnNS F hr hb (hx σ) I2 r rz l1 l2 q2
end
variable [Cls]
section
variable {X : Cx} {n : Nat} {G : Gr n} {W : WX} {Γ : List Ty} {rt : Ty}
/-- the def x, called with nv values and the keywords ks: gD puts them and the defaults in the parameters' order -/
structure CalN (P : Program) (w : World) (K : PySem.W.Frag) (mg : Str → Option Value) (base : Heap) (k : Nat) (x : Str) (np : Nat) (t : Ty) (f : List D → R D) (nv : Nat) (ks : List Str) (gD : List D → List D → List D) : Prop where
  ex : ∃ (a : Addr) (fd : FuncData) (ps : List Str) (g : List Value → List Value → List Value) (gV : List V → List V → List V), FnOk P w K mg base (L2.CX P w) k a fd ps (spM K (List.replicate np .fr) t f) ∧ mg x = some (.ref a) ∧ PySem.W.keepIn K (.ref a) = true ∧ KBn K fd ps nv ks g gV ∧
    ∀ F ds es vs ws, Reps F ds vs → Reps F es ws → vs.length = nv → ws.length = ks.length → Reps F (gD ds es) (gV vs ws) ∧ (gD ds es).length = np
def mCallN (f : List D → R D) (gD : List D → List D → List D) (ma mk : MA) : M := fun s => (ma s).bind fun ds s1 => (mk s1).bind fun es s2 => clr s2 (f (gD ds es))
theorem clr_match (s : Env) (r : R D) : clr s r = (match r with | .ok r _ => .ok r s | .err er _ => .err er s | .stuck => .stuck) := by cases r <;> rfl
theorem me_callN {k np nv : Nat} {t : Ty} {x : Str} {e : Expr} {es : List Expr} {kws : List Keyword} {ks : List Str} {p pos : Pos} {f : List D → R D} {gD : List D → List D → List D} {ma mk : MA} (C : CalN X.prog X.w X.K X.mg X.base k x np t f nv ks gD) (hr : Room k X.A) (tk : Takes X W) (hg : Gl X x)
    (ha : MAs X G W Γ (e :: es) ma) (hla : LenOk ma nv) (hk : MKs X G W Γ kws mk) (hl : LenOk mk ks.length)
    (h1 : (backToKw pos (keywordEach kws X.env)).all (·.1.isSome) = true := by rfl) (h2 : (backToKw pos (keywordEach kws X.env)).filterMap (·.1) = ks := by rfl) (h3 : (x == ("__debug__" : Str)) = false := by decide)
    (h5 : starEach (e :: es) X.env = (false, eval e X.env) :: starEach es X.env := by rfl)
    (h4 : ((backTo pos (starEach (e :: es) X.env)).any (·.1) || (backToKw pos (keywordEach kws X.env)).any (·.1.isNone)) = false := by rfl) :
    ME X G W Γ (.Call (.Name x p) (e :: es) kws pos) t (mCallN f gD ma mk) := by
  obtain ⟨a, fd, ps, g, gV, F, hm, hkp, hb, hre⟩ := C.ex
  have h := pe_callNS (E := WE W) (p := p) (pos := pos) F hr hg hm hkp hb (fun σ => passAt tk σ) ha hk h1 h2 h3 h5 h4
  refine peI h fun σ H Q ⟨s, F0, fp, R, q⟩ => ⟨s, F0, fp, R, ?_⟩
  refine pmapL hla R q fun ds s1 vs F1 fp1 H1 el R1 st1 a1 q1 => ⟨s1, F1, fp1, R1, ?_⟩
  refine pmapL hl R1 q1 fun zs s2 ws F2 fp2 H2 el2 R2 st2 a2 q2 => ?_
  have lv : vs.length = nv := by rw [← a1.len, el]
  have lw : ws.length = ks.length := by rw [← a2.len, el2]
  obtain ⟨r1, l1⟩ := hre F2 ds zs vs ws (a1.mono st2.f) a2 lv lw
  refine ⟨lv, lw, call_fr R2 r1 l1 ?_⟩
  show PostG X.K G W Γ σ F2 fp2 H2 (AE G t fp2 H2) Q (clr s2 (f (gD ds zs)))
  exact q2.imp fun r v F' fp' H' z => (z.back st2).back st1
end
end Bk

set_option Elab.async false
set_option linter.all false
set_option maxRecDepth 100000
set_option maxHeartbeats 4000000
namespace Bk
open PySem PySem.Spec PyProof.Rows L2
variable [Cls]
/-! ### or, and, by truth -/
def mOrT (a b : M) : M := fun s => (a s).bind fun d s1 => match dTru d with
  | some true => .ok d s1
  | some false => b s1
  | none => .stuck
def mAndT (a b : M) : M := fun s => (a s).bind fun d s1 => match dTru d with
  | some true => b s1
  | some false => .ok d s1
  | none => .stuck
def orT (b : M) (d : D) (s1 : Env) : Option Bool → R D
  | some true => .ok d s1
  | some false => b s1
  | none => .stuck
theorem mOrT_e (a b : M) (s : Env) : mOrT a b s = (a s).bind fun d s1 => orT b d s1 (dTru d) := by
  unfold mOrT
  congr 1
section
variable {X : Cx} {n : Nat} {G : Gr n} {W : WX} {Γ : List Ty} {rt : Ty} {a b : Expr} {rest : List Expr} {va vb : M} {pos : Pos}
theorem Rel.truV {s : Env} {σ : Sl} {F H : Hp} {fp : Fp} {K : PySem.W.Frag} (R1 : Rel G Γ s σ F fp H) {d : D} {v : V} {k : Bool} (r : Rep F d v) (ek : dTru d = some k) : TruV K v H k := by
  cases r with
  | non => cases ek; rfl
  | bl b => cases ek; rfl
  | int i => cases ek; rfl
  | str x =>
    obtain ⟨hc, rfl⟩ := if_some (show (if x.length ≤ sizeLine then some ((x.length : Int) != 0) else none) = some k from ek)
    exact ⟨hc, rfl⟩
  | tup e r => cases ek; exact .inr (.inl ⟨_, R1.sqT e, by rw [r.empty]⟩)
  | lst e r => cases ek; exact .inl ⟨_, R1.sqL e, by rw [r.empty]⟩
  | dct _ _ _ => cases ek
  | obj _ _ _ => cases ek
  | emp _ => cases ek
theorem me_orT (ha : ME X G W Γ a .fr va) (hb : ME X G W Γ (.BoolOp .Or (b :: rest) pos) .fr vb) : ME X G W Γ (.BoolOp .Or (a :: b :: rest) pos) .fr (mOrT va vb) :=
  peI (pe_orT ha hb) fun σ H Q ⟨s, F, fp, R, q⟩ => ⟨s, F, fp, R, pbind q fun d s1 x F1 fp1 H1 R1 st1 a1 q1 => by
    cases ek : dTru d with
    | none => rw [ek] at q1; exact q1.elim
    | some k =>
      rw [ek] at q1
      refine ⟨k, R1.truV a1.rep ek, ?_⟩
      cases k with
      | true => exact pok q1 R1 (AE.fr a1.rep)
      | false => exact ⟨s1, F1, fp1, R1, q1.imp fun _ _ _ _ _ z => z.back st1⟩⟩
theorem me_andT (ha : ME X G W Γ a .fr va) (hb : ME X G W Γ (.BoolOp .And (b :: rest) pos) .fr vb) : ME X G W Γ (.BoolOp .And (a :: b :: rest) pos) .fr (mAndT va vb) :=
  peI (pe_andT ha hb) fun σ H Q ⟨s, F, fp, R, q⟩ => ⟨s, F, fp, R, pbind q fun d s1 x F1 fp1 H1 R1 st1 a1 q1 => by
    cases ek : dTru d with
    | none => rw [ek] at q1; exact q1.elim
    | some k =>
      rw [ek] at q1
      refine ⟨k, R1.truV a1.rep ek, ?_⟩
      cases k with
      | true => exact ⟨s1, F1, fp1, R1, q1.imp fun _ _ _ _ _ z => z.back st1⟩
      | false => exact pok q1 R1 (AE.fr a1.rep)⟩
/-! ### xs.insert(i, y) -/
abbrev rIns : V → List V → Hp → VK → Prop := fun x vs H Q => ∃ (l : Addr) (xs : List V) (i : Int) (y : V), x = .ref l ∧ vs = [.int i, y] ∧ H l = some (.lst xs) ∧ xs.length < sizeLine ∧ 0 ≤ i ∧ i < 2 ^ 63 ∧
    Q .non (upd H l (.lst (xs.take i.toNat ++ [y] ++ xs.drop i.toNat)))
def sInsX (i : Nat) (ma mb : M) : MS := fun s => match s[i]? with
  | some (some (.obj _ [] _)) => (ma s).so fun d s1 => (mb s1).so fun z s2 => match s2[i]?, d with
    | some (some (.obj _ [] ds)), .int k => if ds.length < 16000000 ∧ 0 ≤ k ∧ k < 2 ^ 63 then .nx (s2.set i (some (ownL (ds.take k.toNat ++ [z] ++ ds.drop k.toNat)))) else .stuck
    | _, _ => .stuck
  | _ => .stuck
theorem ms_insX {e : Expr} {i : Nat} {ma mb : M} (h : PE X e (tBM X.K "list" rIns (tVar i) (tCons (tM X.K G W Γ .fr ma) (tCons (tM X.K G W Γ .fr mb) tNil)))) (ht : Γ[i]? = some .xl) (hs : swapsWith e none pos.line X.env = pure false := by rfl) : MSt X G W Γ rt (.Expr e pos) (sInsX i ma mb) :=
  psI (ps_expr h hs) fun Dn σ H ⟨s, F, fp, R, q⟩ => by
    unfold sInsX at q
    split at q
    · rename_i c0 ds0 e0
      obtain ⟨p0, vs0, hv, e3, _, _⟩ := R.slotX ht e0
      refine ⟨.ref p0, hv, .inl ⟨rfl, vs0, .of e3⟩, s, F, fp, R, sbind q fun d s1 w F1 fp1 H1 R1 x1 b q1 => ⟨s1, F1, fp1, R1, sbind q1 fun z s2 wz F2 fp2 H2 R2 x2 b2 q2 => ?_⟩⟩
      split at q2
      · rename_i c ds k e1
        obtain ⟨p, vs, hv', e3, rs, e4⟩ := R2.slotX ht e1
        rw [hv] at hv'
        cases hv'
        cases b.rep
        by_cases hl : ds.length < 16000000 ∧ 0 ≤ k ∧ k < 2 ^ 63
        · rw [if_pos hl] at q2
          refine ⟨p0, vs, k, wz, rfl, rfl, e3, by rw [← rs.len]; exact sixteen hl.1, hl.2.1, hl.2.2, ?_⟩
          obtain ⟨R3, x3⟩ := R2.ownX ht e4 hv (((Reps.take k.toNat rs).app (.cons b2.rep .nil)).app (Reps.drop k.toNat rs))
          exact q2 _ _ _ _ R3 x3
        · rw [if_neg hl] at q2; exact q2.elim
      · exact q2.elim
    · exact q.elim
end
end Bk

set_option Elab.async false
set_option linter.all false
set_option maxRecDepth 100000
set_option maxHeartbeats 4000000
namespace Bk
open PySem PySem.Spec PyProof.Rows L2
variable [Cls]
/-! ### own lists in mixed slots, in parts that can be reckoned on data whose make-up is not shown -/
def ownOf : D → Option (List D)
  | .obj _ [] ds => some ds
  | _ => none
theorem ownOf_own (ds : List D) : ownOf (ownL ds) = some ds := rfl
def unX : D → D
  | .obj _ [] ds => .lst ds
  | d => d
theorem unX_own (ds : List D) : unX (ownL ds) = .lst ds := rfl
theorem unX_lst (ds : List D) : unX (.lst ds) = .lst ds := rfl
theorem unX_non : unX .non = .non := rfl
theorem unX_tup (ds : List D) : unX (.tup ds) = .tup ds := rfl
def itX : D → Option (List D)
  | .obj _ [] ds => some ds
  | .lst ds => some ds
  | _ => none
theorem itX_own (ds : List D) : itX (ownL ds) = some ds := rfl
theorem itX_lst (ds : List D) : itX (.lst ds) = some ds := rfl
def atX : List D → D → Option D
  | ds, .int k => atI ds k
  | _, _ => none
theorem atX_int (ds : List D) (k : Int) : atX ds (.int k) = atI ds k := rfl
def varR (i : Nat) (s : Env) : Option D → R D
  | some d => .ok (unX d) (s.set i (some (unX d)))
  | none => .stuck
theorem set_own {s : Env} {i : Nat} {d : D} (h : s[i]? = some (some d)) : s.set i (some d) = s := by
  have hi : i < s.length := (List.getElem?_eq_some_iff.mp h).1
  rw [List.getElem?_eq_getElem hi] at h
  have e : s[i] = some d := by injection h
  rw [← e]
  exact List.set_getElem_self hi
theorem mVarX_q (i : Nat) (s : Env) : mVarX i s = varR i s (s[i]?).join := by
  unfold mVarX
  split
  · rename_i c ds e
    rw [e]
    rfl
  · rename_i d hn e
    rw [e]
    show R.ok d s = R.ok (unX d) (s.set i (some (unX d)))
    have hu : unX d = d := by
      cases d with
      | obj c ns ds =>
        cases ns with
        | nil => exact (hn c ds rfl).elim
        | cons _ _ => rfl
      | _ => rfl
    rw [hu, set_own e]
  · rename_i h1 h2
    cases e : s[i]? with
    | none => rfl
    | some o =>
      cases o with
      | none => rfl
      | some d => exact (h2 d e).elim
theorem mLenX_q (i : Nat) (s : Env) : mLenX i s = R.opt (((s[i]?).join.bind itX).map fun ds => D.int ds.length) s := by
  unfold mLenX
  split
  · rename_i c ds e
    rw [e]
    rfl
  · rename_i ds e
    rw [e]
    rfl
  · rename_i h1 h2
    cases e : s[i]? with
    | none => rfl
    | some o =>
      cases o with
      | none => rfl
      | some d =>
        cases d with
        | obj c ns ds =>
          cases ns with
          | nil => exact (h1 c ds e).elim
          | cons _ _ => rfl
        | lst ds => exact (h2 ds e).elim
        | _ => rfl
theorem mIxX_q (i : Nat) (mb : M) (s : Env) : mIxX i mb s = if (s[i]?).join.isSome = true then (mb s).bind fun d s1 => R.opt (((s1[i]?).join.bind itX).bind fun ds => atX ds d) s1 else .stuck := by
  unfold mIxX
  cases e : s[i]? with
  | none => rfl
  | some o =>
    cases o with
    | none => rfl
    | some d0 =>
      show _ = (mb s).bind _
      simp only []
      congr 1
      funext d s1
      cases e1 : s1[i]? with
      | none => rfl
      | some o1 =>
        cases o1 with
        | none => rfl
        | some d1 =>
          cases d1 with
          | obj c ns ds =>
            cases ns with
            | nil => cases d <;> rfl
            | cons _ _ => cases d <;> rfl
          | lst ds => cases d <;> rfl
          | _ => cases d <;> rfl
def appR (i : Nat) (d : D) (s : Env) : Option (List D) → SO
  | some ds => if ds.length < 16000000 then .nx (s.set i (some (ownL (ds ++ [d])))) else .stuck
  | none => .stuck
theorem appR_some (i : Nat) (d : D) (s : Env) (ds : List D) : appR i d s (some ds) = if ds.length < 16000000 then .nx (s.set i (some (ownL (ds ++ [d])))) else .stuck := rfl
theorem sAppX_q (i : Nat) (m : M) (s : Env) : sAppX i m s = if ((s[i]?).join.bind ownOf).isSome = true then (m s).so fun d s1 => appR i d s1 ((s1[i]?).join.bind ownOf) else .stuck := by
  have key : ∀ s : Env, (∃ c ds, s[i]? = some (some (.obj c [] ds))) ∨ ((s[i]?).join.bind ownOf = none ∧ ∀ c ds, s[i]? ≠ some (some (.obj c [] ds))) := fun s => by
    cases e : s[i]? with
    | none => exact .inr ⟨rfl, fun _ _ h => by cases h⟩
    | some o =>
      cases o with
      | none => exact .inr ⟨rfl, fun _ _ h => by cases h⟩
      | some d =>
        cases d with
        | obj c ns ds =>
          cases ns with
          | nil => exact .inl ⟨c, ds, rfl⟩
          | cons _ _ => exact .inr ⟨rfl, fun _ _ h => by cases h⟩
        | _ => exact .inr ⟨rfl, fun _ _ h => by cases h⟩
  unfold sAppX
  rcases key s with ⟨c, ds, e⟩ | ⟨e1, e2⟩
  · rw [e]
    show (m s).so _ = (m s).so _
    congr 1
    funext d s1
    rcases key s1 with ⟨c1, ds1, e⟩ | ⟨e1, e2⟩
    · rw [e]
      rfl
    · rw [e1]
      split
      · rename_i c2 ds2 h
        exact (e2 c2 ds2 h).elim
      · rfl
  · rw [e1]
    split
    · rename_i c2 ds2 h
      exact (e2 c2 ds2 h).elim
    · rfl
def insR (i : Nat) (d z : D) (s : Env) : Option (List D) → SO
  | some ds => match d with
    | .int k => if ds.length < 16000000 ∧ 0 ≤ k ∧ k < 2 ^ 63 then .nx (s.set i (some (ownL (ds.take k.toNat ++ [z] ++ ds.drop k.toNat)))) else .stuck
    | _ => .stuck
  | none => .stuck
theorem insR_some (i : Nat) (k : Int) (z : D) (s : Env) (ds : List D) : insR i (.int k) z s (some ds) = if ds.length < 16000000 ∧ 0 ≤ k ∧ k < 2 ^ 63 then .nx (s.set i (some (ownL (ds.take k.toNat ++ [z] ++ ds.drop k.toNat)))) else .stuck := rfl
theorem sInsX_q (i : Nat) (ma mb : M) (s : Env) : sInsX i ma mb s = if ((s[i]?).join.bind ownOf).isSome = true then (ma s).so fun d s1 => (mb s1).so fun z s2 => insR i d z s2 ((s2[i]?).join.bind ownOf) else .stuck := by
  have key : ∀ s : Env, (∃ c ds, s[i]? = some (some (.obj c [] ds))) ∨ ((s[i]?).join.bind ownOf = none ∧ ∀ c ds, s[i]? ≠ some (some (.obj c [] ds))) := fun s => by
    cases e : s[i]? with
    | none => exact .inr ⟨rfl, fun _ _ h => by cases h⟩
    | some o =>
      cases o with
      | none => exact .inr ⟨rfl, fun _ _ h => by cases h⟩
      | some d =>
        cases d with
        | obj c ns ds =>
          cases ns with
          | nil => exact .inl ⟨c, ds, rfl⟩
          | cons _ _ => exact .inr ⟨rfl, fun _ _ h => by cases h⟩
        | _ => exact .inr ⟨rfl, fun _ _ h => by cases h⟩
  unfold sInsX
  rcases key s with ⟨c, ds, e⟩ | ⟨e1, e2⟩
  · rw [e]
    show (ma s).so _ = (ma s).so _
    congr 1
    funext d s1
    congr 1
    funext z s2
    rcases key s2 with ⟨c1, ds1, e⟩ | ⟨e1, e2⟩
    · rw [e]
      cases d <;> rfl
    · rw [e1]
      split
      · rename_i c2 ds2 k h
        exact (e2 c2 ds2 h).elim
      · rfl
  · rw [e1]
    split
    · rename_i c2 ds2 h
      exact (e2 c2 ds2 h).elim
    · rfl
def setR (i : Nat) (s : Env) : Option (List D) → SO
  | some ds => .nx (s.set i (some (ownL ds)))
  | none => .stuck
def lstOf : D → Option (List D)
  | .lst ds => some ds
  | _ => none
theorem lstOf_lst (ds : List D) : lstOf (.lst ds) = some ds := rfl
theorem setR_some (i : Nat) (s : Env) (ds : List D) : setR i s (some ds) = .nx (s.set i (some (ownL ds))) := rfl
theorem sSetXO_q (i : Nat) (m : M) (s : Env) : sSetXO i m s = (m s).so fun d s1 => setR i s1 (lstOf d) := by
  unfold sSetXO
  congr 1
  funext d s1
  cases d <;> rfl
theorem atI_last (xs : List D) (x : D) : atI (xs ++ [x]) (-1) = some x := by
  unfold atI ixN
  have h1 : (1 : Int) ≤ (xs.length : Int) + 1 := by omega
  have h2 : (-1 + ((xs.length : Int) + 1)).toNat = xs.length := by omega
  simp [h1, h2]
end Bk

set_option Elab.async false
set_option linter.all false
set_option maxRecDepth 100000
set_option maxHeartbeats 4000000
/-! == of two dicts whose keys are tuples and whose values are plain -/
namespace Bs
open PySem
section
variable {prog : Program} {w : World} {A : Around} {E : Value → Shared → Prop} {s : Shared} {K : Type} [DecidableEq K] {knd : HeapKind prog w K}
/-- what the walk along the first dict finds in the second one -/
inductive Alike (A : Around) (s : Shared) (ys : List (K × Addr × Value)) : List (K × Addr × Value) → Bool → Prop
  | nil : Alike A s ys [] true
  | miss {k : K} {b : Addr} {v : Value} {r : List (K × Addr × Value)} : atKey ys k = none → Alike A s ys ((k, b, v) :: r) false
  | hit {k : K} {b c : Addr} {v y : Value} {r : List (K × Addr × Value)} {e t : Bool} : atKey ys k = some (c, y) → SeqAt.EqAt A s v y e → Alike A s ys r t → Alike A s ys ((k, b, v) :: r) (e && t)
theorem pairs_heap {nm : String} {a b : Addr} {xs ys : List (K × Addr × Value)} {r : Bool} {Q : Bool → Shared → Prop} (room : knd.room A) (na : (a == sysModules) = false) (nb : (b == sysModules) = false)
    (dx : s.heap.DictOfH knd a xs) (dy : s.heap.DictOfH knd b ys) (al : xs.length = ys.length → Alike A s ys xs r) (fin : Q (xs.length == ys.length && r) s) : wpAny (model prog w) A (Builtin.Dict.samePairs nm a b) Q E s := by
  obtain ⟨o1, e1, p1, g1, _, t1, l1, i1, n1⟩ := dx
  obtain ⟨o2, e2, p2, g2, _, t2, l2, i2, n2⟩ := dy
  have z1 := size_of_entries l1
  have z2 := size_of_entries l2
  unfold Builtin.Dict.samePairs Builtin.Dict.showsAll
  rw [na, nb]
  simp only [Bool.false_eq_true, if_false]
  refine wpAny_bind (wpAny_pure (wpAny_bind (wpAny_pure (wpAny_bind (wpAny_dictEntries g1 t1 (wpAny_bind (wpAny_dictEntries g2 t2 ?_)))))))
  by_cases hz : e1.size = e2.size
  · have hz' : xs.length = ys.length := by rw [← z1, ← z2, hz]
    have al := al hz'
    have fin : Q r s := by simpa [hz'] using fin
    rw [if_neg (by rw [hz]; simp)]
    refine wpAny_bind (wpAny_dictEpoch g1 t1 (wpAny_bind ?_))
    rw [Std.Legacy.Range.forIn_eq_forIn_range']
    simp only [Std.Legacy.Range.size, Nat.sub_zero, Nat.add_sub_cancel, Nat.div_one]
    refine wpAny_forIn_list _ (fun left q z => z = s ∧ q = (none, ()) ∧ ∃ m, left = List.range' m (e1.size - m) ∧ m ≤ e1.size ∧ Alike A s ys (xs.drop m) r) _ ?turn ?out _ _ ⟨rfl, rfl, 0, by simp, Nat.zero_le _, al⟩
    case turn =>
      intro m left q z hh
      obtain ⟨rfl, rfl, m', el, hm, ha⟩ := hh
      have lt : m' < e1.size := by
        rcases Nat.lt_or_ge m' e1.size with h | h
        · exact h
        · rw [Nat.sub_eq_zero_of_le h] at el; simp at el
      obtain ⟨em, er⟩ : m = m' ∧ left = List.range' (m' + 1) (e1.size - (m' + 1)) := by
        have c : e1.size - m' = (e1.size - (m' + 1)) + 1 := by omega
        rw [c, List.range'_succ] at el
        injection el with c1 c2
        exact ⟨c1, c2⟩
      subst em
      have lx : m < xs.length := by omega
      obtain ⟨k, c, v, hx⟩ : ∃ k c v, xs[m]? = some (k, c, v) := ⟨xs[m].1, xs[m].2.1, xs[m].2.2, List.getElem?_eq_getElem lx⟩
      have hd : xs.drop m = (k, c, v) :: xs.drop (m + 1) := by
        rw [List.drop_eq_getElem_cons lx]
        rw [List.getElem?_eq_getElem lx] at hx
        injection hx with hx
        rw [hx]
      have hi : knd.is z.heap k c := i1 _ (List.mem_of_getElem? hx)
      refine wpAny_bind (wpAny_dictEntries g1 t1 ?_)
      rw [entry_at l1 m, hx]
      rw [hd] at ha
      refine wpAny_bind (wpAny_holding (wpAny_bind ?_))
      refine wpAny_dictFind_heap room hi g2 t2 l2 i2 n2 (fun none_ => ?_) fun j p hj => ?_
      · have rf : r = false := by
          cases ha with
          | miss _ => rfl
          | hit ex _ _ => rw [atKey_none_of_get none_] at ex; cases ex
        subst rf
        exact wpAny_pure (wpAny_pure (wpAny_pure fin))
      · obtain ⟨d, y⟩ := p
        refine wpAny_bind (wpAny_dictEntries g2 t2 ?_)
        rw [entry_at l2 j, hj]
        cases ha with
        | miss no => rw [atKey_of_get n2 hj] at no; cases no
        | @hit _ _ c2 _ y2 _ e t ex eq more =>
          rw [atKey_of_get n2 hj] at ex
          cases ex
          refine wpAny_holding (eq prog w E _ ?_)
          cases e with
          | false => exact wpAny_pure (wpAny_pure fin)
          | true =>
            rw [Bool.true_and] at fin ⊢
            refine wpAny_bind (wpAny_dictEpoch g1 t1 ?_)
            rw [if_neg (by simp)]
            exact wpAny_pure ⟨rfl, rfl, m + 1, er, lt, by simpa using more⟩
    case out =>
      intro q z hh
      obtain ⟨rfl, rfl, m, el, hm, ha⟩ := hh
      have em : m = e1.size := by
        rcases Nat.lt_or_ge m e1.size with h | h
        · have c : e1.size - m = (e1.size - (m + 1)) + 1 := by omega
          rw [c, List.range'_succ] at el; cases el
        · omega
      refine wpAny_pure ?_
      rw [em, z1, List.drop_length] at ha
      cases ha
      exact fin
  · rw [if_pos (by simpa using hz)]
    have hf : (xs.length == ys.length) = false := by rw [← z1, ← z2]; simpa using hz
    rw [hf, Bool.false_and] at fin
    exact wpAny_bind (wpAny_rule (wpAny_pure fin))
theorem eq_heap {a b : Addr} {xs ys : List (K × Addr × Value)} {r : Bool} {Q : Value → Shared → Prop} (few : A.units < cLine) (room : knd.room A.in1) (na : (a == sysModules) = false) (nb : (b == sysModules) = false)
    (dx : s.heap.DictOfH knd a xs) (dy : s.heap.DictOfH knd b ys) (al : xs.length = ys.length → Alike A.in1 s ys xs r) (fin : Q (.bool (xs.length == ys.length && r)) s) : wpAny (model prog w) A (compareOp .Eq (.ref a) (.ref b)) Q E s := by
  refine wpAny_richCompare_same_room (op := .Eq) dx.typeIs dy.typeIs PySem.F.slot_dict_eq ?_ few
  refine wpAny_call_entry PySem.F.slot_dict_eq dx.typeIs PySem.F.entry_dict_eq ?_ (PySem.F.args_dict_eq_2 _ _)
  show wpAny _ _ (Builtin.Dict.dictSlotArgs "__eq__" ⟨[.ref a, .ref b], []⟩ >>= _) _ _ s
  unfold Builtin.Dict.dictSlotArgs
  refine wpAny_bind (wpAny_bind (wpAny_notOrdered_dict dx.typeIs (show wpAny _ _ (pure (Value.ref a, Value.ref b)) _ _ s from wpAny_pure ?_)))
  refine wpAny_bind (wpAny_isInstance (T := "dict") dy.typeIs PySem.F.sub_dict_dict ?_)
  simp only [Bool.not_true, Bool.false_eq_true, if_false]
  refine wpAny_bind (wpAny_pure (wpAny_bind (wpAny_pure (wpAny_bind (pairs_heap room na nb dx dy al ?_)))))
  exact wpAny_pure ⟨_, rfl, (fun z => nomatch z), by simpa using fin⟩
end
end Bs

namespace Bk
open PySem PySem.Spec PyProof.Rows L2
/-! ### == of two dicts with tuples as keys and scalars as values -/
def allV (kvs lvs : List (List Key × V)) : Bool := kvs.all fun p => match valV lvs p.1 with
  | some z => eqV p.2 z
  | none => false
theorem alike_of {w : World} {P : Program} {A : Around} {s : Shared} {H : Hp} {lvs : List (List Key × V)} {ys : List (List Key × Addr × Value)} (ty : KT H lvs ys) (fy : ∀ p ∈ lvs, flatV p.2 = true) : ∀ {kvs : List (List Key × V)} {xs : List (List Key × Addr × Value)}, KT H kvs xs → (∀ p ∈ kvs, flatV p.2 = true) → Bs.Alike A s ys xs (allV kvs lvs) := by
  intro kvs xs tx
  induction tx with
  | nil => exact fun _ => .nil
  | @cons p q ps qs h t ih =>
    intro fx
    obtain ⟨h1, h2, h3⟩ := h
    obtain ⟨k, c, v⟩ := q
    have i2 := ih fun z hz => fx z (List.mem_cons_of_mem _ hz)
    have rv := ty.val p.1
    have h1 : p.1 = k := h1
    show Bs.Alike A s ys ((k, c, v) :: qs) ((match valV lvs p.1 with | some z => eqV p.2 z | none => false) && allV ps lvs)
    rw [h1] at rv ⊢
    cases e : atKey ys k with
    | none =>
      rw [e] at rv
      have ev : valV lvs k = none := by
        have q := rv.isSome_eq
        simpa using q
      rw [ev]
      exact .miss e
    | some cu =>
      obtain ⟨c2, u⟩ := cu
      rw [e] at rv
      cases ev : valV lvs k with
      | none => rw [ev] at rv; cases rv
      | some z =>
        rw [ev] at rv
        have rz : RelV z u := by
          obtain ⟨u', hu, r⟩ := RelO.some_of (v := z) (o := some u) rv
          cases hu
          exact r
        have fz : flatV z = true := by
          unfold valV at ev
          obtain ⟨pp, hp, rfl⟩ := Option.map_eq_some_iff.mp ev
          exact fy pp (List.mem_of_find?_eq_some hp)
        exact .hit e (eqAt_V h3 rz (fx p List.mem_cons_self) fz) i2
def rEqT : R2 := fun x y H Q => ∃ a b kvs lvs, x = .ref a ∧ y = .ref b ∧ Rd H a (.dT kvs) ∧ Rd H b (.dT lvs) ∧ (∀ p ∈ kvs, flatV p.2 = true) ∧ (∀ p ∈ lvs, flatV p.2 = true) ∧ Q (.bl (kvs.length == lvs.length && allV kvs lvs)) H
theorem op_eqT {X : Cx} (hu : X.A.units + 1 < cLine) : OpR X (compareOp .Eq) rEqT := by
  intro pins s σ H x y v u Q I rx ry h
  obtain ⟨a, b, kvs, lvs, rfl, rfl, ra, rb, fa, fb, q⟩ := h
  obtain rfl : v = Value.ref a := rx
  obtain rfl : u = Value.ref b := ry
  obtain ⟨_, na, xs, tx, dx⟩ := dt_rd I.hok ra
  obtain ⟨_, nb, ys, ty, dy⟩ := dt_rd I.hok rb
  have l1 : kvs.length = xs.length := Paired.length tx
  have l2 : lvs.length = ys.length := Paired.length ty
  refine Bs.eq_heap (by omega) (tupleKind_room_in1 hu) na nb dx dy (fun _ => alike_of (P := X.prog) (w := X.w) ty fb tx fa) ⟨.bl _, H, I, rfl, ?_⟩
  rw [← l1, ← l2]
  exact q
variable [Cls]
def scal : D → Bool
  | .non => true
  | .bl _ => true
  | .int _ => true
  | .str _ => true
  | _ => false
def dEqD : D → D → Option Bool
  | .dct ks vs, .dct ls ws => if (vs.all scal && ws.all scal) = true then some (ks.length == ls.length && (ks.zip vs).all fun p => match getV ls ws p.1 with
    | some e => D.eq p.2 e
    | none => false) else none
  | _, _ => none
def mEqD (ma mb : M) : M := fun s => (ma s).bind fun d s1 => (mb s1).bind fun e s2 => R.opt ((dEqD d e).map D.bl) s2
theorem scal_flat {F : Hp} : ∀ {ds : List D} {vs : List V}, Reps F ds vs → ds.all scal = true → ∀ v ∈ vs, flatV v = true
  | _, _, .nil, _, v, hv => by cases hv
  | _, _, .cons (d := d) r t, h, v, hv => by
    obtain ⟨h1, h2⟩ := Bool.and_eq_true_iff.mp (show (scal d && _) = true from h)
    rcases List.mem_cons.mp hv with rfl | hv
    · cases r <;> first | rfl | cases h1
    · exact scal_flat t h2 v hv
theorem scal_eq {F : Hp} {d e : D} {v z : V} (r : Rep F d v) (q : Rep F e z) (h : scal d = true) (h2 : scal e = true) : eqV v z = D.eq d e := by
  cases r <;> first | (cases q <;> first | rfl | cases h2) | cases h
theorem all_zip {F : Hp} {ls : List (List Key)} {ws : List D} {zs : List V} (rz : Reps F ws zs) (hz : ws.all scal = true) : ∀ {ks : List (List Key)} {ds : List D} {vs : List V}, Reps F ds vs → ds.all scal = true →
    ((ks.zip ds).all fun p => match getV ls ws p.1 with | some e => D.eq p.2 e | none => false) = allV (ks.zip vs) (ls.zip zs)
  | [], _, _, _, _ => by simp [allV]
  | _ :: _, _, _, .nil, _ => by simp [allV]
  | k :: ks, d :: ds, v :: vs, .cons r t, h => by
    obtain ⟨h1, h2⟩ := Bool.and_eq_true_iff.mp (show (scal d && _) = true from h)
    have ih := all_zip (ls := ls) rz hz (ks := ks) t h2
    have e1 : valV (ls.zip zs) k = getV ls zs k := rfl
    rw [List.zip_cons_cons, List.all_cons, ih]
    show ((match getV ls ws k with | some e => D.eq d e | none => false) && allV (ks.zip vs) (ls.zip zs)) = ((match valV (ls.zip zs) k with | some z => eqV v z | none => false) && allV (ks.zip vs) (ls.zip zs))
    rw [e1]
    obtain ⟨g1, g2⟩ := getV_rep (k := k) (ks := ls) rz
    cases e : getV ls ws k with
    | none => rw [g1 e]
    | some d2 =>
      obtain ⟨z, ez, rz2⟩ := g2 d2 e
      rw [ez]
      have hs : scal d2 = true := by
        unfold getV at e
        obtain ⟨pp, hp, rfl⟩ := Option.map_eq_some_iff.mp e
        have := List.mem_of_find?_eq_some hp
        exact List.all_eq_true.mp hz _ (List.of_mem_zip this).2
      show (D.eq d d2 && _) = (eqV v z && _)
      rw [scal_eq r rz2 h1 hs]
section
variable {X : Cx} {n : Nat} {G : Gr n} {W : WX} {Γ : List Ty} {a b : Expr} {ma mb : M} {pos : Pos}
theorem two_eqD {K : PySem.W.Frag} {σ : Sl} {H : Hp} {Q : VK} (h : tM K G W Γ .fr (mEqD ma mb) σ H Q) : tM K G W Γ .fr ma σ H fun x H1 => tM K G W Γ .fr mb σ H1 fun y H2 => rEqT x y H2 Q := by
  obtain ⟨s, F, fp, R, q⟩ := h
  refine ⟨s, F, fp, R, pbind q fun d s1 x F1 fp1 H1 R1 st1 a1 q1 => ⟨s1, F1, fp1, R1, pbind q1 fun e s2 y F2 fp2 H2 R2 st2 a2 q2 => ?_⟩⟩
  obtain ⟨z, ez, q3⟩ := opt_post q2
  obtain ⟨c, ec, rfl⟩ := Option.map_eq_some_iff.mp ez
  have r1 := a1.rep.mono st2.f
  have r2 := a2.rep
  cases r1 with
  | @dct ks ds vs pa oa ea la rs =>
    cases r2 with
    | @dct ls ws zs pb ob eb lb rz =>
      obtain ⟨hc, rfl⟩ := if_some (show (if (ds.all scal && ws.all scal) = true then some _ else none) = some c from ec)
      obtain ⟨hc1, hc2⟩ := Bool.and_eq_true_iff.mp hc
      refine ⟨pa, pb, _, _, rfl, rfl, R2.rdz ea, R2.rdz eb, fun p hp => scal_flat rs hc1 _ (List.of_mem_zip hp).2, fun p hp => scal_flat rz hc2 _ (List.of_mem_zip hp).2, ?_⟩
      rw [all_zip rz hc2 rs hc1] at q3
      have z1 : (ks.zip vs).length = ks.length := by rw [List.length_zip, la]; omega
      have z2 : (ls.zip zs).length = ls.length := by rw [List.length_zip, lb]; omega
      rw [z1, z2]
      exact pok q3 R2 (AE.fr (.bl _))
    | _ => cases ec
  | _ => cases e <;> cases ec
theorem me_eqD {k : Nat} (hr : Room k X.A) (ha : ME X G W Γ a .fr ma) (hb : ME X G W Γ b .fr mb) : ME X G W Γ (.Compare a [.Eq] [b] pos) .fr (mEqD ma mb) :=
  peI (pe_cmpR (op_eqT (units1 hr)) ha hb (nomark _)) fun σ H Q h => two_eqD h
theorem mt_eqD {k : Nat} (hr : Room k X.A) (ha : ME X G W Γ a .fr ma) (hb : ME X G W Γ b .fr mb) : MT X G W Γ (.Compare a [.Eq] [b] pos) (mTst (mEqD ma mb)) :=
  ptI (pt_cmpR (op_eqT (units1 hr)) ha hb (nomark _)) fun σ H Q h => two_eqD (tst h)
end
end Bk


set_option Elab.async false
set_option linter.all false
set_option maxRecDepth 100000
set_option maxHeartbeats 4000000
namespace Bk
open PySem PySem.Spec PyProof.Rows L2 Bk
noncomputable section
def fu__wall_1 : Env → Nat := fun _ => 0 -- FUEL WANTED
def m__wall_2 : MS :=
    sNil
def m__wall : MS :=
    (sWhile fu__wall_1 (mTru (mK (.bl true)))
    m__wall_2)
theorem ex__wall : ∃ f : List D → R D, f = runF [.fr] .fr 1 m__wall := ⟨_, rfl⟩
noncomputable def f__wall : List D → R D := Classical.choose ex__wall
theorem f__wall_eq : f__wall = runF [.fr] .fr 1 m__wall := Classical.choose_spec ex__wall
def m_lies_in : MS :=
    (sSeq (sAsg (gT 3 (gC (gN 2) (gC (gN 3) (gC (gN 4) gE)))) (mVar 0))
    (sSeq (sAsg (gT 2 (gC (gN 5) (gC (gN 6) gE))) (mVar 1))
    (sRet (mAndV (mChain dLe dLe (mK (.int 0)) (mVar 5) (mOp dMul (mVar 2) (mVar 4))) (mChain dLe dLe (mK (.int 0)) (mVar 6) (mOp dMul (mVar 3) (mVar 4)))))))
def f_lies_in : List D → R D := runF [.fr, .fr] .fr 7 m_lies_in
theorem f_lies_in_eq : f_lies_in = runF [.fr, .fr] .fr 7 m_lies_in := rfl
def m_placed : MS :=
    (sIf (mNot (mTru (mCallF f_lies_in [none, none] [] (mCons (mVar 0) (mCons (mVar 1) mNil)))))
    (sRaise "NoPlace" ["at"] (mCons (mVar 1) mNil))
    sNil)
def f_placed : List D → R D := runF [.fr, .fr] .fr 2 m_placed
theorem f_placed_eq : f_placed = runF [.fr, .fr] .fr 2 m_placed := rfl
def m_on_corner : MS :=
    (sRet (mAndV (mEq (mOp dMod (mOp dIx (mVar 1) (mK (.int 0))) (mOp dIx (mVar 0) (mK (.int 2)))) (mK (.int 0))) (mEq (mOp dMod (mOp dIx (mVar 1) (mK (.int 1))) (mOp dIx (mVar 0) (mK (.int 2)))) (mK (.int 0)))))
def f_on_corner : List D → R D := runF [.fr, .fr] .fr 2 m_on_corner
theorem f_on_corner_eq : f_on_corner = runF [.fr, .fr] .fr 2 m_on_corner := rfl
def m_cut_only : MS :=
    (sSeq (sExp (mCallF f_placed [none, none] [] (mCons (mVar 0) (mCons (mVar 1) mNil))))
    (sIf (mTru (mCallF f_on_corner [none, none] [] (mCons (mVar 0) (mCons (mVar 1) mNil))))
    (sRaise "NoCut" ["at"] (mCons (mVar 1) mNil))
    sNil))
def f_cut_only : List D → R D := runF [.fr, .fr] .fr 2 m_cut_only
theorem f_cut_only_eq : f_cut_only = runF [.fr, .fr] .fr 2 m_cut_only := rfl
def fu_step_1 : Env → Nat := fun _ => 64
def m_step : MS :=
    (sSeq (sExp (mCallF f_cut_only [none, none] [] (mCons (mVar 0) (mCons (mVar 1) mNil))))
    (sSeq (sSet 2 (mK (.int 1)))
    (sSeq (sWhile fu_step_1 (mAnd (mTst (mEq (mOp dMod (mOp dIx (mVar 1) (mK (.int 0))) (mOp dMul (mK (.int 2)) (mVar 2))) (mK (.int 0)))) (mTst (mEq (mOp dMod (mOp dIx (mVar 1) (mK (.int 1))) (mOp dMul (mK (.int 2)) (mVar 2))) (mK (.int 0)))))
    (sAug 2 dShl (mK (.int 1))))
    (sRet (mVar 2)))))
def f_step : List D → R D := runF [.fr, .fr] .fr 3 m_step
theorem f_step_eq : f_step = runF [.fr, .fr] .fr 3 m_step := rfl
def m_around : MS :=
    (sSeq (sSet 2 (mCallF f_step [none, none] [] (mCons (mVar 0) (mCons (mVar 1) mNil))))
    (sSeq (sAsg (gT 2 (gC (gN 3) (gC (gN 4) gE))) (mVar 1))
    (sSeq (sSet 5 (mTup (mCons (mTup (mCons (mOp dSub (mVar 3) (mVar 2)) (mCons (mVar 4) mNil))) (mCons (mTup (mCons (mOp dAdd (mVar 3) (mVar 2)) (mCons (mVar 4) mNil))) mNil))))
    (sSeq (sSet 6 (mTup (mCons (mTup (mCons (mVar 3) (mCons (mOp dSub (mVar 4) (mVar 2)) mNil))) (mCons (mTup (mCons (mVar 3) (mCons (mOp dAdd (mVar 4) (mVar 2)) mNil))) mNil))))
    (sSeq (sIf (mTst (mEq (mOp dMod (mOp dDiv (mVar 4) (mVar 2)) (mK (.int 2))) (mK (.int 0))))
    (sRet (mTup (mCons (mVar 5) (mCons (mVar 6) mNil))))
    sNil)
    (sSeq (sIf (mTst (mEq (mOp dMod (mOp dDiv (mVar 3) (mVar 2)) (mK (.int 2))) (mK (.int 0))))
    (sRet (mTup (mCons (mVar 6) (mCons (mVar 5) mNil))))
    sNil)
    (sSeq (sSet 7 (mTup (mCons (mTup (mCons (mOp dSub (mVar 3) (mVar 2)) (mCons (mOp dSub (mVar 4) (mVar 2)) mNil))) (mCons (mTup (mCons (mOp dAdd (mVar 3) (mVar 2)) (mCons (mOp dAdd (mVar 4) (mVar 2)) mNil))) mNil))))
    (sSeq (sSet 8 (mTup (mCons (mTup (mCons (mOp dSub (mVar 3) (mVar 2)) (mCons (mOp dAdd (mVar 4) (mVar 2)) mNil))) (mCons (mTup (mCons (mOp dAdd (mVar 3) (mVar 2)) (mCons (mOp dSub (mVar 4) (mVar 2)) mNil))) mNil))))
    (sSeq (sIf (mTst (mEq (mOp dMod (mOp dDiv (mOp dSub (mVar 3) (mVar 2)) (mOp dMul (mK (.int 2)) (mVar 2))) (mK (.int 2))) (mOp dMod (mOp dDiv (mOp dSub (mVar 4) (mVar 2)) (mOp dMul (mK (.int 2)) (mVar 2))) (mK (.int 2)))))
    (sRet (mTup (mCons (mVar 7) (mCons (mVar 8) mNil))))
    sNil)
    (sRet (mTup (mCons (mVar 8) (mCons (mVar 7) mNil)))))))))))))
def f_around : List D → R D := runF [.fr, .fr] .fr 9 m_around
theorem f_around_eq : f_around = runF [.fr, .fr] .fr 9 m_around := rfl
def m_parents : MS :=
    (sRet (mComp (mSeqI (mOp dIx (mCallF f_around [none, none] [] (mCons (mVar 0) (mCons (mVar 1) mNil))) (mK (.int 1)))) (gN 2) (mAnd (mTru (mCallF f_lies_in [none, none] [] (mCons (mVar 0) (mCons (mVar 2) mNil)))) (mNot (mTru (mCallF f_on_corner [none, none] [] (mCons (mVar 0) (mCons (mVar 2) mNil)))))) (mVar 2) [2]))
def f_parents : List D → R D := runF [.fr, .fr] .ol 3 m_parents
theorem f_parents_eq : f_parents = runF [.fr, .fr] .ol 3 m_parents := rfl
def m_noted_2 : MS :=
    (sExp (mCallF f_cut_only [none, none] [] (mCons (mVar 0) (mCons (mVar 2) mNil))))
def m_noted_3 : MS :=
    (sRet (mDComp (mSeqI (mNewL dSortedA (mVar 1))) (gN 2) mYes (mVar 2) (mK (.bl true)) [2]))
def m_noted : MS :=
    (sSeq (sFor (mSeqE (mVar 1)) (gN 2)
    m_noted_2)
    m_noted_3)
theorem ex_noted : ∃ f : List D → R D, f = runF [.fr, .fr] .od 3 m_noted := ⟨_, rfl⟩
noncomputable def f_noted : List D → R D := Classical.choose ex_noted
theorem f_noted_eq : f_noted = runF [.fr, .fr] .od 3 m_noted := Classical.choose_spec ex_noted
def m_crack_5 : MS :=
    (sRet (mTup (mCons (mVar 3) (mCons (mVar 4) mNil))))
def m_crack_4 : MS :=
    (sIf (mTst (mInD (fun k => !k) (mVar 4) (mVar 2)))
    m_crack_5
    sNil)
def m_crack_3 : MS :=
    (sFor (mSeqI (mCallF f_parents [none, none] [] (mCons (mVar 0) (mCons (mVar 3) mNil)))) (gN 4)
    m_crack_4)
def m_crack_6 : MS :=
    (sRet (mK .non))
def m_crack_2 : MS :=
    (sSeq (sFor (mKeysI (mVar 2)) (gN 3)
    m_crack_3)
    m_crack_6)
def m_crack : MS :=
    (sSeq (sSet 2 (mCallF f_noted [none, none] [] (mCons (mVar 0) (mCons (mVar 1) mNil))))
    m_crack_2)
theorem ex_crack : ∃ f : List D → R D, f = runF [.fr, .fr] .fr 5 m_crack := ⟨_, rfl⟩
noncomputable def f_crack : List D → R D := Classical.choose ex_crack
theorem f_crack_eq : f_crack = runF [.fr, .fr] .fr 5 m_crack := Classical.choose_spec ex_crack
def m_roots_of : MS :=
    (sSeq (sPar 3 4 (mCons (mOp dMul (mVar 0) (mVar 2)) (mCons (mOp dMul (mVar 1) (mVar 2)) mNil)))
    (sSeq (sIf (mTst (mEq (mOp dMod (mOp dAdd (mVar 0) (mVar 1)) (mK (.int 2))) (mK (.int 0))))
    (sRet (mLst (mCons (mTup (mCons (mVar 3) (mCons (mVar 4) (mCons (mOp dAdd (mVar 3) (mVar 2)) (mCons (mOp dAdd (mVar 4) (mVar 2)) (mCons (mOp dAdd (mVar 3) (mVar 2)) (mCons (mVar 4) mNil))))))) (mCons (mTup (mCons (mOp dAdd (mVar 3) (mVar 2)) (mCons (mOp dAdd (mVar 4) (mVar 2)) (mCons (mVar 3) (mCons (mVar 4) (mCons (mVar 3) (mCons (mOp dAdd (mVar 4) (mVar 2)) mNil))))))) mNil))))
    sNil)
    (sRet (mLst (mCons (mTup (mCons (mOp dAdd (mVar 3) (mVar 2)) (mCons (mVar 4) (mCons (mVar 3) (mCons (mOp dAdd (mVar 4) (mVar 2)) (mCons (mOp dAdd (mVar 3) (mVar 2)) (mCons (mOp dAdd (mVar 4) (mVar 2)) mNil))))))) (mCons (mTup (mCons (mVar 3) (mCons (mOp dAdd (mVar 4) (mVar 2)) (mCons (mOp dAdd (mVar 3) (mVar 2)) (mCons (mVar 4) (mCons (mVar 3) (mCons (mVar 4) mNil))))))) mNil))))))
def f_roots_of : List D → R D := runF [.fr, .fr, .fr] .ol 5 m_roots_of
theorem f_roots_of_eq : f_roots_of = runF [.fr, .fr, .fr] .ol 5 m_roots_of := rfl
def m_roots : MS :=
    (sSeq (sAsg (gT 3 (gC (gN 1) (gC (gN 2) (gC (gN 3) gE)))) (mVar 0))
    (sRet (mCompN (mRng bRng1 (mCons (mVar 1) mNil)) (gN 4) mYes [4, 5, 6] (rNest (mRng bRng1 (mCons (mVar 2) mNil)) (gN 5) mYes [5, 6] (rNest (mSeqI (mCallF f_roots_of [none, none, none] [] (mCons (mVar 4) (mCons (mVar 5) (mCons (mVar 3) mNil))))) (gN 6) mYes [6] (rApp (mVar 6)))))))
def f_roots : List D → R D := runF [.fr] .ol 7 m_roots
theorem f_roots_eq : f_roots = runF [.fr] .ol 7 m_roots := rfl
def m_middle : MS :=
    (sSeq (sPar 1 2 (mCons (mOp dAdd (mOp dIx (mVar 0) (mK (.int 0))) (mOp dIx (mVar 0) (mK (.int 2)))) (mCons (mOp dAdd (mOp dIx (mVar 0) (mK (.int 1))) (mOp dIx (mVar 0) (mK (.int 3)))) mNil)))
    (sSeq (sIf (mOr (mTst (mEq (mOp dMod (mVar 1) (mK (.int 2))) (mK (.int 1)))) (mTst (mEq (mOp dMod (mVar 2) (mK (.int 2))) (mK (.int 1)))))
    (sRet (mK .non))
    sNil)
    (sRet (mTup (mCons (mOp dDiv (mVar 1) (mK (.int 2))) (mCons (mOp dDiv (mVar 2) (mK (.int 2))) mNil))))))
def f_middle : List D → R D := runF [.fr] .fr 3 m_middle
theorem f_middle_eq : f_middle = runF [.fr] .fr 3 m_middle := rfl
def m_halved : MS :=
    (sSeq (sSet 1 (mCallF f_middle [none] [] (mCons (mVar 0) mNil)))
    (sSeq (sIf (mTst (mIsN (fun k => k) (mVar 1)))
    sStuck
    sNil)
    (sSeq (sAsg (gT 6 (gC (gN 2) (gC (gN 3) (gC (gN 4) (gC (gN 5) (gC (gN 6) (gC (gN 7) gE))))))) (mVar 0))
    (sRet (mLst (mCons (mTup (mCons (mVar 2) (mCons (mVar 3) (mCons (mVar 6) (mCons (mVar 7) (mCons (mOp dIx (mVar 1) (mK (.int 0))) (mCons (mOp dIx (mVar 1) (mK (.int 1))) mNil))))))) (mCons (mTup (mCons (mVar 6) (mCons (mVar 7) (mCons (mVar 4) (mCons (mVar 5) (mCons (mOp dIx (mVar 1) (mK (.int 0))) (mCons (mOp dIx (mVar 1) (mK (.int 1))) mNil))))))) mNil)))))))
def f_halved : List D → R D := runF [.fr] .ol 8 m_halved
theorem f_halved_eq : f_halved = runF [.fr] .ol 8 m_halved := rfl
def m_spread_3 (rec : List D → R D) : MS :=
    (sExp (mCallF rec [none, none, some 2] [] (mCons (mVar 3) (mCons (mVar 1) (mOwnA 2 mNil)))))
def m_spread_2 (rec : List D → R D) : MS :=
    (sFor (mSeqI (mCallF f_halved [none] [] (mCons (mVar 0) mNil))) (gN 3)
    (m_spread_3 rec))
def m_spread_5 (rec : List D → R D) : MS :=
    (sApp 2 (mVar 0))
def m_spread (rec : List D → R D) : MS :=
    (sIf (mTst (mInDN (mCallF f_middle [none] [] (mCons (mVar 0) mNil)) (mVar 1)))
    (m_spread_2 rec)
    (m_spread_5 rec))
def f_spread : Nat → List D → R D
  | 0 => fun _ => .stuck
  | n + 1 => runF [.fr, .fr, .ol] .fr 4 (m_spread (f_spread n))
def m_leaves_3 : MS :=
    (sExp (mCallF (f_spread 8) [none, none, some 2] [] (mCons (mVar 3) (mCons (mVar 1) (mOwnA 2 mNil)))))
def m_leaves_4 : MS :=
    (sRet (mMov 2))
def m_leaves_2 : MS :=
    (sSeq (sFor (mSeqI (mCallF f_roots [none] [] (mCons (mVar 0) mNil))) (gN 3)
    m_leaves_3)
    m_leaves_4)
def m_leaves : MS :=
    (sSeq (sSet 2 (mLst mNil))
    m_leaves_2)
theorem ex_leaves : ∃ f : List D → R D, f = runF [.fr, .fr] .ol 4 m_leaves := ⟨_, rfl⟩
noncomputable def f_leaves : List D → R D := Classical.choose ex_leaves
theorem f_leaves_eq : f_leaves = runF [.fr, .fr] .ol 4 m_leaves := Classical.choose_spec ex_leaves
def m_lw_plan_3 : MS :=
    (sRet (mOp dIx (mVar 1) (mCallF drawF [some 0, none] [] (mOwnA 0 (mCons (mK (.int 12)) mNil)))))
def m_lw_plan_2 : MS :=
    (sSeq (sSet 1 (mCat (mVar 1) (mLst (mCons (mTup (mCons (mK (.int 3)) (mCons (mK (.int 1)) (mCons (mK (.int 2)) mNil)))) (mCons (mTup (mCons (mK (.int 1)) (mCons (mK (.int 3)) (mCons (mK (.int 2)) mNil)))) (mCons (mTup (mCons (mK (.int 2)) (mCons (mK (.int 1)) (mCons (mK (.int 4)) mNil)))) (mCons (mTup (mCons (mK (.int 1)) (mCons (mK (.int 2)) (mCons (mK (.int 4)) mNil)))) (mCons (mTup (mCons (mK (.int 3)) (mCons (mK (.int 2)) (mCons (mK (.int 2)) mNil)))) (mCons (mTup (mCons (mK (.int 1)) (mCons (mK (.int 1)) (mCons (mK (.int 8)) mNil)))) mNil)))))))))
    m_lw_plan_3)
def m_lw_plan : MS :=
    (sSeq (sSet 1 (mLst (mCons (mTup (mCons (mK (.int 1)) (mCons (mK (.int 1)) (mCons (mK (.int 2)) mNil)))) (mCons (mTup (mCons (mK (.int 1)) (mCons (mK (.int 1)) (mCons (mK (.int 4)) mNil)))) (mCons (mTup (mCons (mK (.int 2)) (mCons (mK (.int 1)) (mCons (mK (.int 2)) mNil)))) (mCons (mTup (mCons (mK (.int 1)) (mCons (mK (.int 2)) (mCons (mK (.int 2)) mNil)))) (mCons (mTup (mCons (mK (.int 2)) (mCons (mK (.int 2)) (mCons (mK (.int 2)) mNil)))) (mCons (mTup (mCons (mK (.int 1)) (mCons (mK (.int 1)) (mCons (mK (.int 4)) mNil)))) mNil))))))))
    m_lw_plan_2)
theorem ex_lw_plan : ∃ f : List D → R D, f = runF [.bag] .fr 2 m_lw_plan := ⟨_, rfl⟩
noncomputable def f_lw_plan : List D → R D := Classical.choose ex_lw_plan
theorem f_lw_plan_eq : f_lw_plan = runF [.bag] .fr 2 m_lw_plan := Classical.choose_spec ex_lw_plan
def m_lw_places : MS :=
    (sSeq (sSet 1 (mLst mNil))
    (sSeq (sFor (mRng bRng1 (mCons (mOp dAdd (mOp dMul (mOp dIx (mVar 0) (mK (.int 0))) (mOp dIx (mVar 0) (mK (.int 2)))) (mK (.int 1))) mNil)) (gN 2)
    (sFor (mRng bRng1 (mCons (mOp dAdd (mOp dMul (mOp dIx (mVar 0) (mK (.int 1))) (mOp dIx (mVar 0) (mK (.int 2)))) (mK (.int 1))) mNil)) (gN 3)
    (sApp 1 (mTup (mCons (mVar 2) (mCons (mVar 3) mNil))))))
    (sRet (mMov 1))))
def f_lw_places : List D → R D := runF [.fr] .ol 4 m_lw_places
theorem f_lw_places_eq : f_lw_places = runF [.fr] .ol 4 m_lw_places := rfl
def m_lw_corner : MS :=
    (sRet (mAndV (mEq (mOp dMod (mOp dIx (mVar 1) (mK (.int 0))) (mOp dIx (mVar 0) (mK (.int 2)))) (mK (.int 0))) (mEq (mOp dMod (mOp dIx (mVar 1) (mK (.int 1))) (mOp dIx (mVar 0) (mK (.int 2)))) (mK (.int 0)))))
def f_lw_corner : List D → R D := runF [.fr, .fr] .fr 2 m_lw_corner
theorem f_lw_corner_eq : f_lw_corner = runF [.fr, .fr] .fr 2 m_lw_corner := rfl
def m_lw_cuts : MS :=
    (sRet (mComp (mSeqI (mCallF f_lw_places [none] [] (mCons (mVar 0) mNil))) (gN 1) (mNot (mTru (mCallF f_lw_corner [none, none] [] (mCons (mVar 0) (mCons (mVar 1) mNil))))) (mVar 1) [1]))
def f_lw_cuts : List D → R D := runF [.fr] .ol 2 m_lw_cuts
theorem f_lw_cuts_eq : f_lw_cuts = runF [.fr] .ol 2 m_lw_cuts := rfl
def m_lw_in : MS :=
    (sRet (mAndV (mChain dLe dLe (mK (.int 0)) (mOp dIx (mVar 1) (mK (.int 0))) (mOp dMul (mOp dIx (mVar 0) (mK (.int 0))) (mOp dIx (mVar 0) (mK (.int 2))))) (mChain dLe dLe (mK (.int 0)) (mOp dIx (mVar 1) (mK (.int 1))) (mOp dMul (mOp dIx (mVar 0) (mK (.int 1))) (mOp dIx (mVar 0) (mK (.int 2)))))))
def f_lw_in : List D → R D := runF [.fr, .fr] .fr 2 m_lw_in
theorem f_lw_in_eq : f_lw_in = runF [.fr, .fr] .fr 2 m_lw_in := rfl
def m_lw_step : MS :=
    (sSeq (sIf (mAnd (mTst (mEq (mOp dMod (mOp dIx (mVar 0) (mK (.int 0))) (mK (.int 4))) (mK (.int 0)))) (mTst (mEq (mOp dMod (mOp dIx (mVar 0) (mK (.int 1))) (mK (.int 4))) (mK (.int 0)))))
    (sRet (mK (.int 4)))
    sNil)
    (sSeq (sIf (mAnd (mTst (mEq (mOp dMod (mOp dIx (mVar 0) (mK (.int 0))) (mK (.int 2))) (mK (.int 0)))) (mTst (mEq (mOp dMod (mOp dIx (mVar 0) (mK (.int 1))) (mK (.int 2))) (mK (.int 0)))))
    (sRet (mK (.int 2)))
    sNil)
    (sRet (mK (.int 1)))))
def f_lw_step : List D → R D := runF [.fr] .fr 1 m_lw_step
theorem f_lw_step_eq : f_lw_step = runF [.fr] .fr 1 m_lw_step := rfl
def m_lw_centre : MS :=
    (sSeq (sSet 1 (mCallF f_lw_step [none] [] (mCons (mVar 0) mNil)))
    (sRet (mAndV (mEq (mOp dMod (mOp dDiv (mOp dIx (mVar 0) (mK (.int 0))) (mVar 1)) (mK (.int 2))) (mK (.int 1))) (mEq (mOp dMod (mOp dDiv (mOp dIx (mVar 0) (mK (.int 1))) (mVar 1)) (mK (.int 2))) (mK (.int 1))))))
def f_lw_centre : List D → R D := runF [.fr] .fr 2 m_lw_centre
theorem f_lw_centre_eq : f_lw_centre = runF [.fr] .fr 2 m_lw_centre := rfl
def m_lw_around : MS :=
    (sSeq (sSet 1 (mCallF f_lw_step [none] [] (mCons (mVar 0) mNil)))
    (sSeq (sAsg (gT 2 (gC (gN 2) (gC (gN 3) gE))) (mVar 0))
    (sSeq (sSet 4 (mLst (mCons (mTup (mCons (mOp dSub (mVar 2) (mVar 1)) (mCons (mVar 3) mNil))) (mCons (mTup (mCons (mOp dAdd (mVar 2) (mVar 1)) (mCons (mVar 3) mNil))) mNil))))
    (sSeq (sSet 5 (mLst (mCons (mTup (mCons (mVar 2) (mCons (mOp dSub (mVar 3) (mVar 1)) mNil))) (mCons (mTup (mCons (mVar 2) (mCons (mOp dAdd (mVar 3) (mVar 1)) mNil))) mNil))))
    (sSeq (sSet 6 (mLst (mCons (mTup (mCons (mOp dSub (mVar 2) (mVar 1)) (mCons (mOp dSub (mVar 3) (mVar 1)) mNil))) (mCons (mTup (mCons (mOp dAdd (mVar 2) (mVar 1)) (mCons (mOp dAdd (mVar 3) (mVar 1)) mNil))) mNil))))
    (sSeq (sSet 7 (mLst (mCons (mTup (mCons (mOp dSub (mVar 2) (mVar 1)) (mCons (mOp dAdd (mVar 3) (mVar 1)) mNil))) (mCons (mTup (mCons (mOp dAdd (mVar 2) (mVar 1)) (mCons (mOp dSub (mVar 3) (mVar 1)) mNil))) mNil))))
    (sSeq (sIf (mTru (mCallF f_lw_centre [none] [] (mCons (mVar 0) mNil)))
    (sSeq (sIf (mTst (mEq (mOp dMod (mOp dDiv (mOp dSub (mOp dAdd (mOp dSub (mVar 2) (mVar 1)) (mVar 3)) (mVar 1)) (mOp dMul (mK (.int 2)) (mVar 1))) (mK (.int 2))) (mK (.int 0))))
    (sRet (mLst (mCons (mVar 6) (mCons (mVar 7) mNil))))
    sNil)
    (sRet (mLst (mCons (mVar 7) (mCons (mVar 6) mNil)))))
    sNil)
    (sSeq (sIf (mTst (mEq (mOp dMod (mOp dDiv (mVar 2) (mVar 1)) (mK (.int 2))) (mK (.int 1))))
    (sRet (mLst (mCons (mVar 4) (mCons (mVar 5) mNil))))
    sNil)
    (sRet (mLst (mCons (mVar 5) (mCons (mVar 4) mNil))))))))))))
def f_lw_around : List D → R D := runF [.fr] .ol 8 m_lw_around
theorem f_lw_around_eq : f_lw_around = runF [.fr] .ol 8 m_lw_around := rfl
def m_lw_ups : MS :=
    (sRet (mComp (mSeqI (mOp dIx (mCallF f_lw_around [none] [] (mCons (mVar 1) mNil)) (mK (.int 1)))) (gN 2) (mAnd (mTru (mCallF f_lw_in [none, none] [] (mCons (mVar 0) (mCons (mVar 2) mNil)))) (mNot (mTru (mCallF f_lw_corner [none, none] [] (mCons (mVar 0) (mCons (mVar 2) mNil)))))) (mVar 2) [2]))
def f_lw_ups : List D → R D := runF [.fr, .fr] .ol 3 m_lw_ups
theorem f_lw_ups_eq : f_lw_ups = runF [.fr, .fr] .ol 3 m_lw_ups := rfl
def m_lw_level : MS :=
    (sSeq (sSet 2 (mK (.int 0)))
    (sSeq (sSet 3 (mOp dDiv (mOp dIx (mVar 0) (mK (.int 2))) (mK (.int 2))))
    (sSeq (sFor (mRng bRng1 (mCons (mK (.int 3)) mNil)) (gN 4)
    (sIf (mTst (mOp dGt (mVar 3) (mCallF f_lw_step [none] [] (mCons (mVar 1) mNil))))
    (sSeq (sSet 3 (mOp dDiv (mVar 3) (mK (.int 2))))
    (sSet 2 (mOp dAdd (mVar 2) (mK (.int 2)))))
    sNil))
    (sSeq (sIf (mTru (mCallF f_lw_centre [none] [] (mCons (mVar 1) mNil)))
    (sRet (mVar 2))
    sNil)
    (sRet (mOp dAdd (mVar 2) (mK (.int 1))))))))
def f_lw_level : List D → R D := runF [.fr, .fr] .fr 5 m_lw_level
theorem f_lw_level_eq : f_lw_level = runF [.fr, .fr] .fr 5 m_lw_level := rfl
def fu_lw_closed_1 : Env → Nat := fun _ => 6000
def m_lw_closed_7 : MS :=
    (sExt 3 (mCallF f_lw_ups [none, none] [] (mCons (mVar 0) (mCons (mVar 4) mNil))))
def m_lw_closed_6 : MS :=
    (sSeq (sPutO 2 (mVar 4) (mK (.bl true)))
    m_lw_closed_7)
def m_lw_closed_5 : MS :=
    (sIf (mTst (mInO (fun k => !k) (mVar 4) 2))
    m_lw_closed_6
    sNil)
def m_lw_closed_4 : MS :=
    (sSeq (sSet 4 (mPop 3))
    m_lw_closed_5)
def m_lw_closed_8 : MS :=
    (sRet (mSortedO 2))
def m_lw_closed_3 : MS :=
    (sSeq (sWhile fu_lw_closed_1 (mTst (mOp dGt (mLenO 3) (mK (.int 0))))
    m_lw_closed_4)
    m_lw_closed_8)
def m_lw_closed_2 : MS :=
    (sSeq (sSet 3 (mNewL dList (mVar 1)))
    m_lw_closed_3)
def m_lw_closed : MS :=
    (sSeq (sSet 2 mDNew)
    m_lw_closed_2)
theorem ex_lw_closed : ∃ f : List D → R D, f = runF [.fr, .fr] .ol 5 m_lw_closed := ⟨_, rfl⟩
noncomputable def f_lw_closed : List D → R D := Classical.choose ex_lw_closed
theorem f_lw_closed_eq : f_lw_closed = runF [.fr, .fr] .ol 5 m_lw_closed := Classical.choose_spec ex_lw_closed
def m_lw_picks_4 : MS :=
    (sRet (mLst mNil))
def m_lw_picks_6 : MS :=
    (sRet (mVar 2))
def m_lw_picks_8 : MS :=
    (sRet (mComp (mSeqI (mVar 2)) (gN 4) (mTst (mEq (mCallF drawF [some 0, none] [] (mOwnA 0 (mCons (mK (.int 2)) mNil))) (mK (.int 1)))) (mVar 4) [4]))
def m_lw_picks_10 : MS :=
    (sRet (mComp (mSeqI (mVar 2)) (gN 4) (mTst (mOp dGt (mCallF drawF [some 0, none] [] (mOwnA 0 (mCons (mK (.int 5)) mNil))) (mK (.int 0)))) (mVar 4) [4]))
def m_lw_picks_11 : MS :=
    (sRet (mComp (mRng bRng1 (mCons (mOp dAdd (mK (.int 1)) (mCallF drawF [some 0, none] [] (mOwnA 0 (mCons (mK (.int 7)) mNil)))) mNil)) (gN 5) mYes (mOp dIx (mVar 2) (mCallF drawF [some 0, none] [] (mOwnA 0 (mCons (mCall bLen (mCons (mVar 2) mNil)) mNil)))) [5]))
def m_lw_picks_9 : MS :=
    (sSeq (sIf (mTst (mOp dLt (mVar 3) (mK (.int 6))))
    m_lw_picks_10
    sNil)
    m_lw_picks_11)
def m_lw_picks_7 : MS :=
    (sSeq (sIf (mTst (mOp dLt (mVar 3) (mK (.int 4))))
    m_lw_picks_8
    sNil)
    m_lw_picks_9)
def m_lw_picks_5 : MS :=
    (sSeq (sIf (mTst (mEq (mVar 3) (mK (.int 1))))
    m_lw_picks_6
    sNil)
    m_lw_picks_7)
def m_lw_picks_3 : MS :=
    (sSeq (sIf (mTst (mEq (mVar 3) (mK (.int 0))))
    m_lw_picks_4
    sNil)
    m_lw_picks_5)
def m_lw_picks_2 : MS :=
    (sSeq (sSet 3 (mCallF drawF [some 0, none] [] (mOwnA 0 (mCons (mK (.int 11)) mNil))))
    m_lw_picks_3)
def m_lw_picks : MS :=
    (sSeq (sSet 2 (mCallF f_lw_cuts [none] [] (mCons (mVar 1) mNil)))
    m_lw_picks_2)
theorem ex_lw_picks : ∃ f : List D → R D, f = runF [.bag, .fr] .fr 6 m_lw_picks := ⟨_, rfl⟩
noncomputable def f_lw_picks : List D → R D := Classical.choose ex_lw_picks
theorem f_lw_picks_eq : f_lw_picks = runF [.bag, .fr] .fr 6 m_lw_picks := Classical.choose_spec ex_lw_picks
def m_lw_some : MS :=
    (sRet (mCallF f_lw_closed [none, none] [] (mCons (mVar 1) (mCons (mCallF f_lw_picks [some 0, none] [] (mOwnA 0 (mCons (mVar 1) mNil))) mNil))))
theorem ex_lw_some : ∃ f : List D → R D, f = runF [.bag, .fr] .ol 2 m_lw_some := ⟨_, rfl⟩
noncomputable def f_lw_some : List D → R D := Classical.choose ex_lw_some
theorem f_lw_some_eq : f_lw_some = runF [.bag, .fr] .ol 2 m_lw_some := Classical.choose_spec ex_lw_some
def m_lw_gain_2 : MS :=
    (sRet (mK (.int 1)))
def m_lw_gain_3 : MS :=
    (sRet (mK (.int 2)))
def m_lw_gain : MS :=
    (sSeq (sIf (mOr (mTst (mIn (mOp dIx (mVar 1) (mK (.int 0))) (mLst (mCons (mK (.int 0)) (mCons (mOp dMul (mOp dIx (mVar 0) (mK (.int 0))) (mOp dIx (mVar 0) (mK (.int 2)))) mNil))))) (mTst (mIn (mOp dIx (mVar 1) (mK (.int 1))) (mLst (mCons (mK (.int 0)) (mCons (mOp dMul (mOp dIx (mVar 0) (mK (.int 1))) (mOp dIx (mVar 0) (mK (.int 2)))) mNil))))))
    m_lw_gain_2
    sNil)
    m_lw_gain_3)
theorem ex_lw_gain : ∃ f : List D → R D, f = runF [.fr, .fr] .fr 2 m_lw_gain := ⟨_, rfl⟩
noncomputable def f_lw_gain : List D → R D := Classical.choose ex_lw_gain
theorem f_lw_gain_eq : f_lw_gain = runF [.fr, .fr] .fr 2 m_lw_gain := Classical.choose_spec ex_lw_gain
def m_Mesh_init_3 : MS :=
    (sRaise "Cracked" ["at", "other"] (mCons (mOp dIx (mVar 3) (mK (.int 0))) (mCons (mOp dIx (mVar 3) (mK (.int 1))) mNil)))
def m_Mesh_init_6 : MS :=
    (sFldO 0 "parts" (mCallF f_leaves [none, none] [] (mCons (mVar 1) (mCons (mFldO 0 "there") mNil))))
def m_Mesh_init_5 : MS :=
    (sSeq (sFldO 0 "there" (mCallF f_noted [none, none] [] (mCons (mVar 1) (mCons (mVar 2) mNil))))
    m_Mesh_init_6)
def m_Mesh_init_4 : MS :=
    (sSeq (sFldO 0 "plan" (mVar 1))
    m_Mesh_init_5)
def m_Mesh_init_2 : MS :=
    (sSeq (sIf (mTst (mIsN (fun k => !k) (mVar 3)))
    m_Mesh_init_3
    sNil)
    m_Mesh_init_4)
def m_Mesh_init : MS :=
    (sSeq (sSet 3 (mCallF f_crack [none, none] [] (mCons (mVar 1) (mCons (mVar 2) mNil))))
    m_Mesh_init_2)
theorem ex_Mesh_init : ∃ f : List D → R D, f = runF [.ob "Mesh" [], .fr, .fr] .fr 4 m_Mesh_init := ⟨_, rfl⟩
noncomputable def f_Mesh_init : List D → R D := Classical.choose ex_Mesh_init
theorem f_Mesh_init_eq : f_Mesh_init = runF [.ob "Mesh" [], .fr, .fr] .fr 4 m_Mesh_init := Classical.choose_spec ex_Mesh_init
def m_Mesh_len : MS :=
    (sRet (mCall bLen (mCons (mFld "Mesh" "parts" (mVar 0)) mNil)))
theorem ex_Mesh_len : ∃ f : List D → R D, f = runF [.fr] .fr 1 m_Mesh_len := ⟨_, rfl⟩
noncomputable def f_Mesh_len : List D → R D := Classical.choose ex_Mesh_len
theorem f_Mesh_len_eq : f_Mesh_len = runF [.fr] .fr 1 m_Mesh_len := Classical.choose_spec ex_Mesh_len
def m_Mesh_cuts : MS :=
    (sRet (mNewL dList (mFld "Mesh" "there" (mVar 0))))
theorem ex_Mesh_cuts : ∃ f : List D → R D, f = runF [.fr] .ol 1 m_Mesh_cuts := ⟨_, rfl⟩
noncomputable def f_Mesh_cuts : List D → R D := Classical.choose ex_Mesh_cuts
theorem f_Mesh_cuts_eq : f_Mesh_cuts = runF [.fr] .ol 1 m_Mesh_cuts := Classical.choose_spec ex_Mesh_cuts
def m_Mesh_cut_3 : MS :=
    (sRaise "Twice" ["at"] (mCons (mVar 1) mNil))
def m_Mesh_cut_6 : MS :=
    (sRaise "Cracked" ["at", "other"] (mCons (mVar 1) (mCons (mVar 2) mNil)))
def m_Mesh_cut_5 : MS :=
    (sIf (mTst (mInD (fun k => !k) (mVar 2) (mFld "Mesh" "there" (mVar 0))))
    m_Mesh_cut_6
    sNil)
def m_Mesh_cut_7 : MS :=
    (sRet (mMake "Mesh" f_Mesh_init [] (mCons (mFld "Mesh" "plan" (mVar 0)) (mCons (mCat (mMeth "Mesh" "cuts" f_Mesh_cuts [] (mVar 0) mNil) (mLst (mCons (mVar 1) mNil))) mNil))))
def m_Mesh_cut_4 : MS :=
    (sSeq (sFor (mSeqI (mCallF f_parents [none, none] [] (mCons (mFld "Mesh" "plan" (mVar 0)) (mCons (mVar 1) mNil)))) (gN 2)
    m_Mesh_cut_5)
    m_Mesh_cut_7)
def m_Mesh_cut_2 : MS :=
    (sSeq (sIf (mTst (mInD (fun k => k) (mVar 1) (mFld "Mesh" "there" (mVar 0))))
    m_Mesh_cut_3
    sNil)
    m_Mesh_cut_4)
def m_Mesh_cut : MS :=
    (sSeq (sExp (mCallF f_cut_only [none, none] [] (mCons (mFld "Mesh" "plan" (mVar 0)) (mCons (mVar 1) mNil))))
    m_Mesh_cut_2)
theorem ex_Mesh_cut : ∃ f : List D → R D, f = runF [.fr, .fr] .fr 3 m_Mesh_cut := ⟨_, rfl⟩
noncomputable def f_Mesh_cut : List D → R D := Classical.choose ex_Mesh_cut
theorem f_Mesh_cut_eq : f_Mesh_cut = runF [.fr, .fr] .fr 3 m_Mesh_cut := Classical.choose_spec ex_Mesh_cut
def m_Mesh_eq_2 : MS :=
    (sRet (mK (.bl false)))
def m_Mesh_eq_3 : MS :=
    (sRet (mAndV (mEq (mFld "Mesh" "plan" (mVar 0)) (mFld "Mesh" "plan" (mVar 1))) (mEqD (mFld "Mesh" "there" (mVar 0)) (mFld "Mesh" "there" (mVar 1)))))
def m_Mesh_eq : MS :=
    (sSeq (sIf (mNot (mTru (mIsiC "Mesh" (mVar 1))))
    m_Mesh_eq_2
    sNil)
    m_Mesh_eq_3)
theorem ex_Mesh_eq : ∃ f : List D → R D, f = runF [.fr, .fr] .fr 2 m_Mesh_eq := ⟨_, rfl⟩
noncomputable def f_Mesh_eq : List D → R D := Classical.choose ex_Mesh_eq
theorem f_Mesh_eq_eq : f_Mesh_eq = runF [.fr, .fr] .fr 2 m_Mesh_eq := Classical.choose_spec ex_Mesh_eq
def m_law_12 : MS :=
    (sSet 6 (mAndV (mVar 6) (mEq (mLenM "Mesh" f_Mesh_len (mVar 8)) (mOp dAdd (mVar 10) (mCallF f_lw_gain [none, none] [] (mCons (mVar 2) (mCons (mVar 7) mNil)))))))
def m_law_11 : MS :=
    (sSeq (sSet 8 (mMeth "Mesh" "cut" f_Mesh_cut [] (mVar 8) (mCons (mVar 7) mNil)))
    m_law_12)
def m_law_10 : MS :=
    (sSeq (sSet 10 (mLenM "Mesh" f_Mesh_len (mVar 8)))
    m_law_11)
def m_law_14 : MS :=
    (sSet 6 (mAndV (mVar 6) (mEqC "Mesh" f_Mesh_eq (mVar 8) (mVar 4))))
def m_law_15 : MS :=
    (sRet (mAndV (mVar 6) (mEq (mLenM "Mesh" f_Mesh_len (mMake "Mesh" f_Mesh_init [.obj "()" [] [.non]] (mCons (mVar 2) mNil))) (mVar 5))))
def m_law_13 : MS :=
    (sSeq (sIf (mTst (mOp dLe (mCall bLen (mCons (mVar 9) mNil)) (mK (.int 24))))
    m_law_14
    sNil)
    m_law_15)
def m_law_9 : MS :=
    (sSeq (sFor (mSeqI (mSlice (mVar 9) none (some (mK (.int 24))))) (gN 7)
    m_law_10)
    m_law_13)
def m_law_8 : MS :=
    (sSeq (sSet 9 (mSortK (mVar 3) (mTup (mCons (mCallF f_lw_level [none, none] [] (mCons (mVar 1) (mCons (mVar 0) mNil))) (mCons (mVar 0) mNil))) [2]))
    m_law_9)
def m_law_7 : MS :=
    (sSeq (sSet 8 (mMake "Mesh" f_Mesh_init [.obj "()" [] [.non]] (mCons (mVar 2) mNil)))
    m_law_8)
def m_law_6 : MS :=
    (sSeq (sSet 6 (mEq (mLenM "Mesh" f_Mesh_len (mVar 4)) (mOp dAdd (mVar 5) (mCall bSum (mCons (mComp (mSeqI (mVar 3)) (gN 7) mYes (mCallF f_lw_gain [none, none] [] (mCons (mVar 2) (mCons (mVar 7) mNil))) [7]) mNil)))))
    m_law_7)
def m_law_5 : MS :=
    (sSeq (sSet 5 (mOp dMul (mOp dMul (mK (.int 2)) (mOp dIx (mVar 2) (mK (.int 0)))) (mOp dIx (mVar 2) (mK (.int 1)))))
    m_law_6)
def m_law_4 : MS :=
    (sSeq (sSet 4 (mMake "Mesh" f_Mesh_init [] (mCons (mVar 2) (mCons (mVar 3) mNil))))
    m_law_5)
def m_law_3 : MS :=
    (sSeq (sSet 3 (mCallF f_lw_some [some 1, none] [] (mOwnA 1 (mCons (mVar 2) mNil))))
    m_law_4)
def m_law : MS :=
    (sSeq (sSet 2 (mCallF f_lw_plan [some 1] [] (mOwnA 1 mNil)))
    m_law_3)
end
end Bk

set_option Elab.async false
set_option linter.all false
set_option maxRecDepth 100000
set_option maxHeartbeats 4000000
namespace Bk
open PySem L2
variable [Cls]
theorem sSeq_nx {a b : MS} {s s' : Env} (h : a s = .nx s') : sSeq a b s = b s' := by
  unfold sSeq
  rw [h]
  rfl
theorem app_ev {i : Nat} {m : M} {s : Env} {acc : List D} {d : D} (h : s[i]? = some (some (.lst acc))) (hm : m s = .ok d s) (hl : acc.length < 16000000) : sApp i m s = .nx (s.set i (some (.lst (acc ++ [d])))) := by
  unfold sApp
  simp [h, hm, hl]
theorem ix_mem {L : List D} {r : Int} (h0 : 0 ≤ r) (h1 : r < (L.length : Int)) : ∃ d ∈ L, dIx (.lst L) (.int r) = some d := by
  have hr : r.toNat < L.length := by omega
  refine ⟨L[r.toNat], List.getElem_mem hr, ?_⟩
  show atI L r = _
  unfold atI ixN
  rw [if_pos h0, if_pos h1]
  simp [hr]
theorem wh_go {c : MB} {b : MS} {n : Nat} {s s2 : Env} (h : c s = .ok true s) (hb : b s = .nx s2) : whileM c b (n + 1) s = whileM c b n s2 := by
  show (c s).so _ = _
  rw [h]
  show (match b s with | .nx s2 => whileM c b n s2 | .ct s2 => whileM c b n s2 | .bk s2 => .nx s2 | .rt d s2 => .rt d s2 | .err e s2 => .err e s2 | .stuck => .stuck) = _
  rw [hb]
theorem wh_stop {c : MB} {b : MS} {n : Nat} {s : Env} (h : c s = .ok false s) : whileM c b (n + 1) s = .nx s := by
  unfold whileM
  rw [h]
  rfl
def sm : Nat → D → Bool
  | 0, _ => false
  | n + 1, .tup ds => ds.all (sm n) && decide (ds.length < 16000000)
  | n + 1, .lst ds => ds.all (sm n) && decide (ds.length < 16000000)
  | _, .dct _ _ => false
  | _, .obj _ _ _ => false
  | _, .str x => PyData.strOk x
  | _, _ => true
def menu : List (Int × Int × Int) := [(1, 1, 2), (1, 1, 4), (2, 1, 2), (1, 2, 2), (2, 2, 2), (1, 1, 4), (3, 1, 2), (1, 3, 2), (2, 1, 4), (1, 2, 4), (3, 2, 2), (1, 1, 8)]
structure Plan (w p s : Int) : Prop where
  w : 1 ≤ w ∧ w ≤ 3
  p : 1 ≤ p ∧ p ≤ 3
  s : s = 2 ∨ s = 4 ∨ s = 8
abbrev pl (w p s : Int) : D := .tup [.int w, .int p, .int s]
theorem menu_plan {w p s : Int} (h : (w, p, s) ∈ menu) : Plan w p s := by
  have q : (menu.all fun z => decide (1 ≤ z.1) && decide (z.1 ≤ 3) && (decide (1 ≤ z.2.1) && decide (z.2.1 ≤ 3)) && (z.2.2 == 2 || z.2.2 == 4 || z.2.2 == 8)) = true := by decide
  have q := List.all_eq_true.mp q _ h
  simp only [Bool.and_eq_true, Bool.or_eq_true, decide_eq_true_eq, beq_iff_eq] at q
  obtain ⟨⟨⟨a, b⟩, c, d⟩, e⟩ := q
  exact ⟨⟨a, b⟩, ⟨c, d⟩, by omega⟩
theorem draw_lt {b : D} {n : Int} (hb : IsBag b) (h : 0 < n) (h2 : n < 18446744073709551616) : ∃ (r : Int) (b' : D), drawF [b, .int n] = .ok (.int r) [some b', none] ∧ 0 ≤ r ∧ r < n ∧ IsBag b' := draw_any hb h (log_sm h h2)
theorem lw_plan_ev {b : D} (hb : IsBag b) : ∃ w p s b', f_lw_plan [b] = .ok (pl w p s) [some b'] ∧ (w, p, s) ∈ menu ∧ Plan w p s ∧ IsBag b' := by
  obtain ⟨r, b1, e1, r0, r1, hb1⟩ := draw_lt (n := 12) hb (by decide) (by decide)
  have em : ∃ z ∈ menu, dIx (.lst (menu.map fun z => pl z.1 z.2.1 z.2.2)) (.int r) = some (pl z.1 z.2.1 z.2.2) := by
    have hr : r.toNat < menu.length := by
      have : menu.length = 12 := rfl
      omega
    refine ⟨menu[r.toNat], List.getElem_mem hr, ?_⟩
    show atI _ r = _
    unfold atI ixN
    have hl : (menu.map fun z => pl z.1 z.2.1 z.2.2).length = 12 := rfl
    rw [if_pos r0, if_pos (by rw [hl]; omega)]
    simp [hr]
  obtain ⟨⟨w, p, s⟩, hz, ez⟩ := em
  refine ⟨w, p, s, b1, ?_, hz, menu_plan hz, hb1⟩
  refine run_eq f_lw_plan_eq (by conv => lhs; simp) ?_
  have e2 : sSet 1 (mCat (mVar 1) (mLst (mCons (mTup (mCons (mK (.int 3)) (mCons (mK (.int 1)) (mCons (mK (.int 2)) mNil)))) (mCons (mTup (mCons (mK (.int 1)) (mCons (mK (.int 3)) (mCons (mK (.int 2)) mNil)))) (mCons (mTup (mCons (mK (.int 2)) (mCons (mK (.int 1)) (mCons (mK (.int 4)) mNil)))) (mCons (mTup (mCons (mK (.int 1)) (mCons (mK (.int 2)) (mCons (mK (.int 4)) mNil)))) (mCons (mTup (mCons (mK (.int 3)) (mCons (mK (.int 2)) (mCons (mK (.int 2)) mNil)))) (mCons (mTup (mCons (mK (.int 1)) (mCons (mK (.int 1)) (mCons (mK (.int 8)) mNil)))) mNil))))))))
      [some b, some (.lst [pl 1 1 2, pl 1 1 4, pl 2 1 2, pl 1 2 2, pl 2 2 2, pl 1 1 4])] = .nx [some b, some (.lst (menu.map fun z => pl z.1 z.2.1 z.2.2))] := rfl
  refine nx_step rfl (show _ = SO.nx [some b, some (.lst [pl 1 1 2, pl 1 1 4, pl 2 1 2, pl 1 2 2, pl 2 2 2, pl 1 1 4])] from rfl) ?_
  refine nx_step rfl e2 ?_
  generalize (menu.map fun z => pl z.1 z.2.1 z.2.2) = LM at *
  refine nx_is (by conv => lhs; simp [sSeq, sSet, sRet, sRetN, sExp, sIf, sNil, sAsg, sPar, mVar, mK, mOp, mUn, mTst_e, tstK, mAnd, mOr, mNot, mAndV_e, andK, mOrV_e, orK, mNotV_e, notK, mIf, mEq, mNe, dEq_int, dEq_bl, mIsN, D.isNon, mCons, mNil, mTup, mLst, mMov, mCall, bLen, bAbs, mIsi, isT, D.isDct, mCallF_e, callK, callO, callR, fill, puts, mOwnA, gN, gT, gC, gE, SO.opt, dAdd, dSub, dLt, dLe, dGt, dGe, dNeg, mChain_e, chK, mTru, dTru, mSeqI, mRng, msk, ix2_0, ix2_1, ix3_0, ix3_1, ix3_2, mDNew, mMov, SO.opt, m_lw_plan_3, e1, ez]) ?_
  rfl
def pairs (l : List D) (m : List D) : List D := l.flatMap fun x => m.map fun y => .tup [x, y]
def plc (w p s : Int) : List D := pairs (rng 0 (w * s + 1).toNat) (rng 0 (p * s + 1).toNat)
theorem Plan.sm {w p s : Int} (h : Plan w p s) : 0 < s ∧ s ≤ 8 ∧ 0 < w * s ∧ w * s ≤ 24 ∧ 0 < p * s ∧ p * s ≤ 24 := by
  obtain ⟨h1, h2, h3⟩ := h
  rcases h3 with rfl | rfl | rfl <;> omega
theorem Plan.rg {w p s : Int} (h : Plan w p s) : Bk.rg 0 (w * s + 1) = true ∧ Bk.rg 0 (p * s + 1) = true := by
  have k := h.sm
  unfold Bk.rg
  exact ⟨decide_eq_true ⟨by decide, by decide, by omega, by omega⟩, decide_eq_true ⟨by decide, by decide, by omega, by omega⟩⟩
theorem rng_mem : ∀ {k : Nat} {lo : Int} {d : D}, d ∈ rng lo k → ∃ x : Int, d = .int x ∧ lo ≤ x ∧ x < lo + k
  | 0, _, _, h => by cases h
  | k + 1, lo, d, h => by
    rcases List.mem_cons.mp h with rfl | h
    · exact ⟨lo, rfl, by omega, by omega⟩
    · obtain ⟨x, e, h1, h2⟩ := rng_mem h
      exact ⟨x, e, by omega, by omega⟩
theorem plc_mem {w p s : Int} {d : D} (h : d ∈ plc w p s) : ∃ x y : Int, d = .tup [.int x, .int y] ∧ 0 ≤ x ∧ 0 ≤ y ∧ x < (w * s + 1).toNat ∧ y < (p * s + 1).toNat := by
  unfold plc pairs at h
  obtain ⟨a, ha, h⟩ := List.mem_flatMap.mp h
  obtain ⟨b, hb, rfl⟩ := List.mem_map.mp h
  obtain ⟨x, rfl, x1, x2⟩ := rng_mem ha
  obtain ⟨y, rfl, y1, y2⟩ := rng_mem hb
  exact ⟨x, y, rfl, x1, y1, by omega, by omega⟩
theorem pairs_len (l m : List D) : (pairs l m).length = l.length * m.length := by
  induction l with
  | nil => simp [pairs]
  | cons a l ih =>
    unfold pairs at ih ⊢
    rw [List.flatMap_cons, List.length_append, ih, List.length_map, List.length_cons, Nat.add_mul, Nat.one_mul, Nat.add_comm]
theorem Plan.len {w p s : Int} (h : Plan w p s) : (plc w p s).length < 16000000 := by
  have k := h.sm
  unfold plc
  rw [pairs_len, rng_len, rng_len]
  have h1 : (w * s + 1).toNat ≤ 25 := by omega
  have h2 : (p * s + 1).toNat ≤ 25 := by omega
  exact Nat.lt_of_le_of_lt (Nat.mul_le_mul h1 h2) (by decide)
def cor (s : Int) : D → Bool
  | .tup [.int x, .int y] => x % s == 0 && y % s == 0
  | _ => false
abbrev pt (x y : Int) : D := .tup [.int x, .int y]
theorem lies_in_ev {w p s x y : Int} (h : Plan w p s) (hx : 0 ≤ x ∧ x ≤ w * s) (hy : 0 ≤ y ∧ y ≤ p * s) : f_lies_in [pl w p s, pt x y] = .ok (.bl true) [none, none] := by
  have k := h.sm
  have m1 : dMul (.int w) (.int s) = some (.int (w * s)) := dMul_l (by have := h.w; omega) (by have := h.w; omega)
  have m2 : dMul (.int p) (.int s) = some (.int (p * s)) := dMul_l (by have := h.p; omega) (by have := h.p; omega)
  show runF _ _ _ m_lies_in _ = _
  unfold runF m_lies_in
  simp [sSeq, sSet, sRet, sRetN, sExp, sIf, sNil, sAsg, sPar, mVar, mK, mOp, mUn, mTst_e, tstK, mAnd, mOr, mNot, mAndV_e, andK, mOrV_e, orK, mNotV_e, notK, mIf, mEq, mNe, dEq_int, dEq_bl, mIsN, D.isNon, mCons, mNil, mTup, mLst, mMov, mCall, bLen, bAbs, mIsi, isT, D.isDct, mCallF_e, callK, callO, callR, fill, puts, mOwnA, gN, gT, gC, gE, SO.opt, dAdd, dSub, dLt, dLe, dGt, dGe, dNeg, mChain_e, chK, mTru, dTru, mSeqI, mRng, msk, ix2_0, ix2_1, ix3_0, ix3_1, ix3_2, mDNew, mMov, SO.opt, m1, m2, hx.1, hx.2, hy.1, hy.2]
theorem placed_ev {w p s x y : Int} (h : Plan w p s) (hx : 0 ≤ x ∧ x ≤ w * s) (hy : 0 ≤ y ∧ y ≤ p * s) : f_placed [pl w p s, pt x y] = .ok .non [none, none] := by
  show runF _ _ _ m_placed _ = _
  unfold runF m_placed
  simp [sSeq, sSet, sRet, sRetN, sExp, sIf, sNil, sAsg, sPar, mVar, mK, mOp, mUn, mTst_e, tstK, mAnd, mOr, mNot, mAndV_e, andK, mOrV_e, orK, mNotV_e, notK, mIf, mEq, mNe, dEq_int, dEq_bl, mIsN, D.isNon, mCons, mNil, mTup, mLst, mMov, mCall, bLen, bAbs, mIsi, isT, D.isDct, mCallF_e, callK, callO, callR, fill, puts, mOwnA, gN, gT, gC, gE, SO.opt, dAdd, dSub, dLt, dLe, dGt, dGe, dNeg, mChain_e, chK, mTru, dTru, mSeqI, mRng, msk, ix2_0, ix2_1, ix3_0, ix3_1, ix3_2, mDNew, mMov, SO.opt, lies_in_ev h hx hy]
theorem on_corner_ev {w p s x y : Int} (hs : 0 < s) : f_on_corner [pl w p s, pt x y] = .ok (.bl (x % s == 0 && y % s == 0)) [none, none] := by
  show runF _ _ _ m_on_corner _ = _
  unfold runF m_on_corner
  cases h : x % s == 0 <;> simp [sSeq, sSet, sRet, sRetN, sExp, sIf, sNil, sAsg, sPar, mVar, mK, mOp, mUn, mTst_e, tstK, mAnd, mOr, mNot, mAndV_e, andK, mOrV_e, orK, mNotV_e, notK, mIf, mEq, mNe, dEq_int, dEq_bl, mIsN, D.isNon, mCons, mNil, mTup, mLst, mMov, mCall, bLen, bAbs, mIsi, isT, D.isDct, mCallF_e, callK, callO, callR, fill, puts, mOwnA, gN, gT, gC, gE, SO.opt, dAdd, dSub, dLt, dLe, dGt, dGe, dNeg, mChain_e, chK, mTru, dTru, mSeqI, mRng, msk, ix2_0, ix2_1, ix3_0, ix3_1, ix3_2, mDNew, mMov, SO.opt, dMod_p hs, h]
/-- a cut of the plan -/
structure Cut (w p s x y : Int) : Prop where
  P : Plan w p s
  hx : 0 ≤ x ∧ x ≤ w * s
  hy : 0 ≤ y ∧ y ≤ p * s
  c : (x % s == 0 && y % s == 0) = false
theorem Cut.no {w p s x y : Int} (h : Cut w p s x y) : ¬(x % s = 0 ∧ y % s = 0) := fun z => by
  have c := h.c
  rw [z.1, z.2] at c
  cases c
def stp (x y : Int) : Int := if x % 4 = 0 ∧ y % 4 = 0 then 4 else if x % 2 = 0 ∧ y % 2 = 0 then 2 else 1
theorem stp_cases (x y : Int) : stp x y = 1 ∨ stp x y = 2 ∨ stp x y = 4 := by
  unfold stp
  split
  · exact .inr (.inr rfl)
  · split
    · exact .inr (.inl rfl)
    · exact .inl rfl
theorem cut_only_ev {w p s x y : Int} (h : Cut w p s x y) : f_cut_only [pl w p s, pt x y] = .ok .non [none, none] := by
  show runF _ _ _ m_cut_only _ = _
  unfold runF m_cut_only
  simp [sSeq, sSet, sRet, sRetN, sExp, sIf, sNil, sAsg, sPar, mVar, mK, mOp, mUn, mTst_e, tstK, mAnd, mOr, mNot, mAndV_e, andK, mOrV_e, orK, mNotV_e, notK, mIf, mEq, mNe, dEq_int, dEq_bl, mIsN, D.isNon, mCons, mNil, mTup, mLst, mMov, mCall, bLen, bAbs, mIsi, isT, D.isDct, mCallF_e, callK, callO, callR, fill, puts, mOwnA, gN, gT, gC, gE, SO.opt, dAdd, dSub, dLt, dLe, dGt, dGe, dNeg, mChain_e, chK, mTru, dTru, mSeqI, mRng, msk, ix2_0, ix2_1, ix3_0, ix3_1, ix3_2, mDNew, mMov, SO.opt, placed_ev h.P h.hx h.hy, on_corner_ev h.P.sm.1, h.no]
theorem step_ev {w p s x y : Int} (h : Cut w p s x y) : f_step [pl w p s, pt x y] = .ok (.int (stp x y)) [none, none] := by
  have hc : ∀ z z2 : Int, 0 < z2 → dMul (.int 2) (.int z) = some (.int z2) → mAnd (mTst (mEq (mOp dMod (mOp dIx (mVar 1) (mK (.int 0))) (mOp dMul (mK (.int 2)) (mVar 2))) (mK (.int 0)))) (mTst (mEq (mOp dMod (mOp dIx (mVar 1) (mK (.int 1))) (mOp dMul (mK (.int 2)) (mVar 2))) (mK (.int 0)))) [some (pl w p s), some (pt x y), some (.int z)] = .ok (x % z2 == 0 && y % z2 == 0) [some (pl w p s), some (pt x y), some (.int z)] := fun z z2 hz hm => by
    cases e : x % z2 == 0 <;> simp [sSeq, sSet, sRet, sRetN, sExp, sIf, sNil, sAsg, sPar, mVar, mK, mOp, mUn, mTst_e, tstK, mAnd, mOr, mNot, mAndV_e, andK, mOrV_e, orK, mNotV_e, notK, mIf, mEq, mNe, dEq_int, dEq_bl, mIsN, D.isNon, mCons, mNil, mTup, mLst, mMov, mCall, bLen, bAbs, mIsi, isT, D.isDct, mCallF_e, callK, callO, callR, fill, puts, mOwnA, gN, gT, gC, gE, SO.opt, dAdd, dSub, dLt, dLe, dGt, dGe, dNeg, mChain_e, chK, mTru, dTru, mSeqI, mRng, msk, ix2_0, ix2_1, ix3_0, ix3_1, ix3_2, mDNew, mMov, SO.opt, hm, dMod_p hz, e]
  have hb : ∀ z z2 : Int, dShl (.int z) (.int 1) = some (.int z2) → sAug 2 dShl (mK (.int 1)) [some (pl w p s), some (pt x y), some (.int z)] = .nx [some (pl w p s), some (pt x y), some (.int z2)] := fun z z2 hz => by
    simp [sSeq, sSet, sRet, sRetN, sExp, sIf, sNil, sAsg, sPar, mVar, mK, mOp, mUn, mTst_e, tstK, mAnd, mOr, mNot, mAndV_e, andK, mOrV_e, orK, mNotV_e, notK, mIf, mEq, mNe, dEq_int, dEq_bl, mIsN, D.isNon, mCons, mNil, mTup, mLst, mMov, mCall, bLen, bAbs, mIsi, isT, D.isDct, mCallF_e, callK, callO, callR, fill, puts, mOwnA, gN, gT, gC, gE, SO.opt, dAdd, dSub, dLt, dLe, dGt, dGe, dNeg, mChain_e, chK, mTru, dTru, mSeqI, mRng, msk, ix2_0, ix2_1, ix3_0, ix3_1, ix3_2, mDNew, mMov, SO.opt, sAug, hz]
  have b1 := hb 1 2 rfl
  have b2 := hb 2 4 rfl
  have c1 := hc 1 2 (by decide) rfl
  have c2 := hc 2 4 (by decide) rfl
  have c4 := hc 4 8 (by decide) rfl
  have n8 : ¬(x % 8 = 0 ∧ y % 8 = 0) := fun z => h.no (by
    have q := h.P.s
    rcases q with rfl | rfl | rfl <;> omega)
  have f2 (h1 : x % 2 = 0) (h2 : y % 2 = 0) : (x % 2 == 0 && y % 2 == 0) = true := by rw [h1, h2]; rfl
  have f4 (h1 : x % 4 = 0) (h2 : y % 4 = 0) : (x % 4 == 0 && y % 4 == 0) = true := by rw [h1, h2]; rfl
  have g (a b : Int) (h : ¬(a = 0 ∧ b = 0)) : (a == 0 && b == 0) = false := by simpa using h
  show runF _ _ _ m_step _ = _
  unfold runF m_step
  rw [show ([pl w p s, pt x y].map some ++ List.replicate (3 - [pl w p s, pt x y].length) none) = [some (pl w p s), some (pt x y), none] from rfl]
  rw [sSeq_nx (s' := [some (pl w p s), some (pt x y), none]) (by simp [sSeq, sSet, sRet, sRetN, sExp, sIf, sNil, sAsg, sPar, mVar, mK, mOp, mUn, mTst_e, tstK, mAnd, mOr, mNot, mAndV_e, andK, mOrV_e, orK, mNotV_e, notK, mIf, mEq, mNe, dEq_int, dEq_bl, mIsN, D.isNon, mCons, mNil, mTup, mLst, mMov, mCall, bLen, bAbs, mIsi, isT, D.isDct, mCallF_e, callK, callO, callR, fill, puts, mOwnA, gN, gT, gC, gE, SO.opt, dAdd, dSub, dLt, dLe, dGt, dGe, dNeg, mChain_e, chK, mTru, dTru, mSeqI, mRng, msk, ix2_0, ix2_1, ix3_0, ix3_1, ix3_2, mDNew, mMov, SO.opt, cut_only_ev h])]
  rw [sSeq_nx (show sSet 2 (mK (.int 1)) [some (pl w p s), some (pt x y), none] = .nx [some (pl w p s), some (pt x y), some (.int 1)] from rfl)]
  unfold stp
  by_cases a2 : x % 2 = 0 ∧ y % 2 = 0
  · by_cases a4 : x % 4 = 0 ∧ y % 4 = 0
    · rw [if_pos a4, sSeq_nx (s' := [some (pl w p s), some (pt x y), some (.int 4)])]
      · rfl
      · exact (wh_go (n := 63) (c1.trans (by rw [f2 a2.1 a2.2])) b1).trans ((wh_go (n := 62) (c2.trans (by rw [f4 a4.1 a4.2])) b2).trans (wh_stop (n := 61) (c4.trans (by rw [g _ _ n8]))))
    · rw [if_neg a4, if_pos a2, sSeq_nx (s' := [some (pl w p s), some (pt x y), some (.int 2)])]
      · rfl
      · exact (wh_go (n := 63) (c1.trans (by rw [f2 a2.1 a2.2])) b1).trans (wh_stop (n := 62) (c2.trans (by rw [g _ _ a4])))
  · have a4 : ¬(x % 4 = 0 ∧ y % 4 = 0) := fun z => a2 (by omega)
    rw [if_neg a4, if_neg a2, sSeq_nx (s' := [some (pl w p s), some (pt x y), some (.int 1)])]
    · rfl
    · exact wh_stop (n := 63) (c1.trans (by rw [g _ _ a2]))
theorem lw_step_ev {x y : Int} : f_lw_step [pt x y] = .ok (.int (stp x y)) [none] := by
  have d4 := fun i => dMod_p (i := i) (j := 4) (by decide)
  have d2 := fun i => dMod_p (i := i) (j := 2) (by decide)
  show runF _ _ _ m_lw_step _ = _
  unfold runF m_lw_step stp
  by_cases a4 : x % 4 = 0 ∧ y % 4 = 0
  · simp [sSeq, sSet, sRet, sRetN, sExp, sIf, sNil, sAsg, sPar, mVar, mK, mOp, mUn, mTst_e, tstK, mAnd, mOr, mNot, mAndV_e, andK, mOrV_e, orK, mNotV_e, notK, mIf, mEq, mNe, dEq_int, dEq_bl, mIsN, D.isNon, mCons, mNil, mTup, mLst, mMov, mCall, bLen, bAbs, mIsi, isT, D.isDct, mCallF_e, callK, callO, callR, fill, puts, mOwnA, gN, gT, gC, gE, SO.opt, dAdd, dSub, dLt, dLe, dGt, dGe, dNeg, mChain_e, chK, mTru, dTru, mSeqI, mRng, msk, ix2_0, ix2_1, ix3_0, ix3_1, ix3_2, mDNew, mMov, SO.opt, d4, d2, a4.1, a4.2]
  · rw [if_neg a4]
    by_cases x4 : x % 4 = 0 <;> by_cases a2 : x % 2 = 0 ∧ y % 2 = 0 <;> by_cases x2 : x % 2 = 0 <;> by_cases y4 : y % 4 = 0 <;> by_cases y2 : y % 2 = 0 <;> first | (exfalso; omega) | (simp [sSeq, sSet, sRet, sRetN, sExp, sIf, sNil, sAsg, sPar, mVar, mK, mOp, mUn, mTst_e, tstK, mAnd, mOr, mNot, mAndV_e, andK, mOrV_e, orK, mNotV_e, notK, mIf, mEq, mNe, dEq_int, dEq_bl, mIsN, D.isNon, mCons, mNil, mTup, mLst, mMov, mCall, bLen, bAbs, mIsi, isT, D.isDct, mCallF_e, callK, callO, callR, fill, puts, mOwnA, gN, gT, gC, gE, SO.opt, dAdd, dSub, dLt, dLe, dGt, dGe, dNeg, mChain_e, chK, mTru, dTru, mSeqI, mRng, msk, ix2_0, ix2_1, ix3_0, ix3_1, ix3_2, mDNew, mMov, SO.opt, d4, d2, x4, x2, y4, y2])
/-- in the middle of a square -/
def cen (x y : Int) : Bool := x / stp x y % 2 == 1 && y / stp x y % 2 == 1
theorem stp_pos (x y : Int) : 0 < stp x y ∧ stp x y < 18446744073709551616 := by
  have := stp_cases x y
  omega
theorem lw_centre_ev {x y : Int} : f_lw_centre [pt x y] = .ok (.bl (cen x y)) [none] := by
  have v := fun i => dDiv_p (i := i) (stp_pos x y).1 (stp_pos x y).2
  have d2 := fun i => dMod_p (i := i) (j := 2) (by decide)
  show runF _ _ _ m_lw_centre _ = _
  unfold runF m_lw_centre cen
  cases e : x / stp x y % 2 == 1 <;> simp [sSeq, sSet, sRet, sRetN, sExp, sIf, sNil, sAsg, sPar, mVar, mK, mOp, mUn, mTst_e, tstK, mAnd, mOr, mNot, mAndV_e, andK, mOrV_e, orK, mNotV_e, notK, mIf, mEq, mNe, dEq_int, dEq_bl, mIsN, D.isNon, mCons, mNil, mTup, mLst, mMov, mCall, bLen, bAbs, mIsi, isT, D.isDct, mCallF_e, callK, callO, callR, fill, puts, mOwnA, gN, gT, gC, gE, SO.opt, dAdd, dSub, dLt, dLe, dGt, dGe, dNeg, mChain_e, chK, mTru, dTru, mSeqI, mRng, msk, ix2_0, ix2_1, ix3_0, ix3_1, ix3_2, mDNew, mMov, SO.opt, lw_step_ev, v, d2, e]
theorem lw_corner_ev {w p s x y : Int} (hs : 0 < s) : f_lw_corner [pl w p s, pt x y] = .ok (.bl (x % s == 0 && y % s == 0)) [none, none] := by
  show runF _ _ _ m_lw_corner _ = _
  unfold runF m_lw_corner
  cases h : x % s == 0 <;> simp [sSeq, sSet, sRet, sRetN, sExp, sIf, sNil, sAsg, sPar, mVar, mK, mOp, mUn, mTst_e, tstK, mAnd, mOr, mNot, mAndV_e, andK, mOrV_e, orK, mNotV_e, notK, mIf, mEq, mNe, dEq_int, dEq_bl, mIsN, D.isNon, mCons, mNil, mTup, mLst, mMov, mCall, bLen, bAbs, mIsi, isT, D.isDct, mCallF_e, callK, callO, callR, fill, puts, mOwnA, gN, gT, gC, gE, SO.opt, dAdd, dSub, dLt, dLe, dGt, dGe, dNeg, mChain_e, chK, mTru, dTru, mSeqI, mRng, msk, ix2_0, ix2_1, ix3_0, ix3_1, ix3_2, mDNew, mMov, SO.opt, dMod_p hs, h]
theorem lw_in {P x : D} : ∀ {ys acc : List D} {o : Option D}, acc.length + ys.length < 16000000 → ∃ o', forM (gN 3) (sApp 1 (mTup (mCons (mVar 2) (mCons (mVar 3) mNil)))) ys [some P, some (.lst acc), some x, o] = .nx [some P, some (.lst (acc ++ ys.map fun y => .tup [x, y])), some x, o']
  | [], acc, o, _ => ⟨o, by simp [forM]⟩
  | y :: ys, acc, o, hl => by
    have hl : acc.length + (ys.length + 1) < 16000000 := hl
    obtain ⟨o', e⟩ := lw_in (P := P) (x := x) (ys := ys) (acc := acc ++ [.tup [x, y]]) (o := some y) (by rw [List.length_append]; simp; omega)
    refine ⟨o', ?_⟩
    have hb : sApp 1 (mTup (mCons (mVar 2) (mCons (mVar 3) mNil))) [some P, some (.lst acc), some x, some y] = .nx [some P, some (.lst (acc ++ [.tup [x, y]])), some x, some y] := by
      have hq : acc.length < 16000000 := by omega
      simp [sSeq, sSet, sRet, sRetN, sExp, sIf, sNil, sAsg, sPar, mVar, mK, mOp, mUn, mTst_e, tstK, mAnd, mOr, mNot, mAndV_e, andK, mOrV_e, orK, mNotV_e, notK, mIf, mEq, mNe, dEq_int, dEq_bl, mIsN, D.isNon, mCons, mNil, mTup, mLst, mMov, mCall, bLen, bAbs, mIsi, isT, D.isDct, mCallF_e, callK, callO, callR, fill, puts, mOwnA, gN, gT, gC, gE, SO.opt, dAdd, dSub, dLt, dLe, dGt, dGe, dNeg, mChain_e, chK, mTru, dTru, mSeqI, mRng, msk, ix2_0, ix2_1, ix3_0, ix3_1, ix3_2, mDNew, mMov, SO.opt, sApp, hq]
    show (match sApp 1 (mTup (mCons (mVar 2) (mCons (mVar 3) mNil))) [some P, some (.lst acc), some x, some y] with | .nx s2 => forM (gN 3) _ ys s2 | .ct s2 => forM (gN 3) _ ys s2 | .bk s2 => .nx s2 | .rt d s2 => .rt d s2 | .err e s2 => .err e s2 | .stuck => .stuck) = _
    rw [hb]
    show forM (gN 3) _ ys _ = _
    rw [e, List.append_assoc]
    rfl
theorem lw_out {P : D} {ys : List D} {b : MS} (hb : ∀ x acc o, acc.length + ys.length < 16000000 → ∃ o', b [some P, some (.lst acc), some x, o] = .nx [some P, some (.lst (acc ++ ys.map fun y => .tup [x, y])), some x, o']) : ∀ {xs acc : List D} {o1 o : Option D}, acc.length + xs.length * ys.length < 16000000 → ∃ o1' o', forM (gN 2) b xs [some P, some (.lst acc), o1, o] = .nx [some P, some (.lst (acc ++ pairs xs ys)), o1', o']
  | [], acc, o1, o, _ => ⟨o1, o, by simp [forM, pairs]⟩
  | x :: xs, acc, o1, o, hl => by
    have hl : acc.length + (xs.length + 1) * ys.length < 16000000 := hl
    rw [Nat.add_mul, Nat.one_mul] at hl
    obtain ⟨o2, e2⟩ := hb x acc o (by omega)
    obtain ⟨o1', o', e⟩ := lw_out hb (xs := xs) (acc := acc ++ ys.map fun y => .tup [x, y]) (o1 := some x) (o := o2) (by rw [List.length_append, List.length_map]; omega)
    refine ⟨o1', o', ?_⟩
    show (match b [some P, some (.lst acc), some x, o] with | .nx s2 => forM (gN 2) b xs s2 | .ct s2 => forM (gN 2) b xs s2 | .bk s2 => .nx s2 | .rt d s2 => .rt d s2 | .err e s2 => .err e s2 | .stuck => .stuck) = _
    rw [e2]
    show forM (gN 2) b xs _ = _
    rw [e, List.append_assoc]
    rfl
theorem lw_places_ev {w p s : Int} (h : Plan w p s) : f_lw_places [pl w p s] = .ok (.lst (plc w p s)) [none] := by
  have k := h.sm
  have m1 : dMul (.int w) (.int s) = some (.int (w * s)) := dMul_l (by have := h.w; omega) (by have := h.w; omega)
  have m2 : dMul (.int p) (.int s) = some (.int (p * s)) := dMul_l (by have := h.p; omega) (by have := h.p; omega)
  have h1 : (w * s + 1).toNat ≤ 25 := by omega
  have h2 : (p * s + 1).toNat ≤ 25 := by omega
  have q := Nat.lt_of_le_of_lt (Nat.mul_le_mul h1 h2) (show 25 * 25 < 16000000 by decide)
  have i1 : mRng bRng1 (mCons (mOp dAdd (mOp dMul (mOp dIx (mVar 0) (mK (.int 0))) (mOp dIx (mVar 0) (mK (.int 2)))) (mK (.int 1))) mNil) [some (pl w p s), some (.lst []), none, none] = .ok (rng 0 (w * s + 1).toNat) [some (pl w p s), some (.lst []), none, none] := by simp [sSeq, sSet, sRet, sRetN, sExp, sIf, sNil, sAsg, sPar, mVar, mK, mOp, mUn, mTst_e, tstK, mAnd, mOr, mNot, mAndV_e, andK, mOrV_e, orK, mNotV_e, notK, mIf, mEq, mNe, dEq_int, dEq_bl, mIsN, D.isNon, mCons, mNil, mTup, mLst, mMov, mCall, bLen, bAbs, mIsi, isT, D.isDct, mCallF_e, callK, callO, callR, fill, puts, mOwnA, gN, gT, gC, gE, SO.opt, dAdd, dSub, dLt, dLe, dGt, dGe, dNeg, mChain_e, chK, mTru, dTru, mSeqI, mRng, msk, ix2_0, ix2_1, ix3_0, ix3_1, ix3_2, mDNew, mMov, SO.opt, m1, rng_z h.rg.1]
  have i2 : ∀ a b c, mRng bRng1 (mCons (mOp dAdd (mOp dMul (mOp dIx (mVar 0) (mK (.int 1))) (mOp dIx (mVar 0) (mK (.int 2)))) (mK (.int 1))) mNil) [some (pl w p s), a, b, c] = .ok (rng 0 (p * s + 1).toNat) [some (pl w p s), a, b, c] := fun a b c => by simp [sSeq, sSet, sRet, sRetN, sExp, sIf, sNil, sAsg, sPar, mVar, mK, mOp, mUn, mTst_e, tstK, mAnd, mOr, mNot, mAndV_e, andK, mOrV_e, orK, mNotV_e, notK, mIf, mEq, mNe, dEq_int, dEq_bl, mIsN, D.isNon, mCons, mNil, mTup, mLst, mMov, mCall, bLen, bAbs, mIsi, isT, D.isDct, mCallF_e, callK, callO, callR, fill, puts, mOwnA, gN, gT, gC, gE, SO.opt, dAdd, dSub, dLt, dLe, dGt, dGe, dNeg, mChain_e, chK, mTru, dTru, mSeqI, mRng, msk, ix2_0, ix2_1, ix3_0, ix3_1, ix3_2, mDNew, mMov, SO.opt, m2, rng_z h.rg.2]
  obtain ⟨o1, o2, e⟩ := lw_out (P := pl w p s) (ys := rng 0 (p * s + 1).toNat) (b := sFor (mRng bRng1 (mCons (mOp dAdd (mOp dMul (mOp dIx (mVar 0) (mK (.int 1))) (mOp dIx (mVar 0) (mK (.int 2)))) (mK (.int 1))) mNil)) (gN 3) (sApp 1 (mTup (mCons (mVar 2) (mCons (mVar 3) mNil))))) (fun x acc o hl => by
    unfold sFor
    rw [i2]
    exact lw_in hl) (xs := rng 0 (w * s + 1).toNat) (acc := []) (o1 := none) (o := none) (by rw [rng_len, rng_len]; simpa using q)
  show runF _ _ _ m_lw_places _ = _
  unfold runF m_lw_places
  rw [show ([pl w p s].map some ++ List.replicate (4 - [pl w p s].length) none) = [some (pl w p s), none, none, none] from rfl, sSeq_nx (show sSet 1 (mLst mNil) [some (pl w p s), none, none, none] = .nx [some (pl w p s), some (.lst []), none, none] from rfl), sSeq_nx ((show sFor _ _ _ _ = forM _ _ _ _ by unfold sFor; rw [i1]; rfl).trans e)]
  rfl
theorem lw_cuts_ev {w p s : Int} (h : Plan w p s) : f_lw_cuts [pl w p s] = .ok (.lst ((plc w p s).filter fun d => !cor s d)) [none] := by
  have e := mComp_ev (mi := mSeqI (mCallF f_lw_places [none] [] (mCons (mVar 0) mNil))) (g := gN 1) (c := mNot (mTru (mCallF f_lw_corner [none, none] [] (mCons (mVar 0) (mCons (mVar 1) mNil))))) (e := mVar 1) (vs := [1])
    (s := [some (pl w p s), none]) (s1 := [some (pl w p s), none]) (ds := plc w p s) (fun d => !cor s d) (fun d => d) (by simp [sSeq, sSet, sRet, sRetN, sExp, sIf, sNil, sAsg, sPar, mVar, mK, mOp, mUn, mTst_e, tstK, mAnd, mOr, mNot, mAndV_e, andK, mOrV_e, orK, mNotV_e, notK, mIf, mEq, mNe, dEq_int, dEq_bl, mIsN, D.isNon, mCons, mNil, mTup, mLst, mMov, mCall, bLen, bAbs, mIsi, isT, D.isDct, mCallF_e, callK, callO, callR, fill, puts, mOwnA, gN, gT, gC, gE, SO.opt, dAdd, dSub, dLt, dLe, dGt, dGe, dNeg, mChain_e, chK, mTru, dTru, mSeqI, mRng, msk, ix2_0, ix2_1, ix3_0, ix3_1, ix3_2, mDNew, mMov, SO.opt, lw_places_ev h]) (fun d hd => by
      obtain ⟨x, y, rfl, _⟩ := plc_mem hd
      refine ⟨_, [some (pl w p s), some (pt x y)], rfl, ?_, fun _ => rfl, fun _ => ⟨_, rfl, rfl⟩⟩
      simp [sSeq, sSet, sRet, sRetN, sExp, sIf, sNil, sAsg, sPar, mVar, mK, mOp, mUn, mTst_e, tstK, mAnd, mOr, mNot, mAndV_e, andK, mOrV_e, orK, mNotV_e, notK, mIf, mEq, mNe, dEq_int, dEq_bl, mIsN, D.isNon, mCons, mNil, mTup, mLst, mMov, mCall, bLen, bAbs, mIsi, isT, D.isDct, mCallF_e, callK, callO, callR, fill, puts, mOwnA, gN, gT, gC, gE, SO.opt, dAdd, dSub, dLt, dLe, dGt, dGe, dNeg, mChain_e, chK, mTru, dTru, mSeqI, mRng, msk, ix2_0, ix2_1, ix3_0, ix3_1, ix3_2, mDNew, mMov, SO.opt, swipe, lw_corner_ev h.sm.1, cor]) h.len
  show runF _ _ _ m_lw_cuts _ = _
  unfold runF m_lw_cuts sRet
  rw [show ([pl w p s].map some ++ List.replicate (2 - [pl w p s].length) none) = [some (pl w p s), none] from rfl, e, List.map_id']
  rfl
abbrev I2 := Int × Int
def ends2 (x y : Int) : I2 × I2 :=
  if cen x y = true then (if (x - stp x y + y - stp x y) / (2 * stp x y) % 2 = 0 then ((x - stp x y, y - stp x y), (x + stp x y, y + stp x y)) else ((x - stp x y, y + stp x y), (x + stp x y, y - stp x y)))
  else if x / stp x y % 2 = 1 then ((x - stp x y, y), (x + stp x y, y)) else ((x, y - stp x y), (x, y + stp x y))
def ups2 (x y : Int) : I2 × I2 :=
  if cen x y = true then (if (x - stp x y + y - stp x y) / (2 * stp x y) % 2 = 0 then ((x - stp x y, y + stp x y), (x + stp x y, y - stp x y)) else ((x - stp x y, y - stp x y), (x + stp x y, y + stp x y)))
  else if x / stp x y % 2 = 1 then ((x, y - stp x y), (x, y + stp x y)) else ((x - stp x y, y), (x + stp x y, y))
abbrev ptP (a : I2) : D := pt a.1 a.2
abbrev twoL (a : I2 × I2) : D := .lst [ptP a.1, ptP a.2]
theorem ixl2_1 {a b : D} : dIx (.lst [a, b]) (.int 1) = some b := rfl
theorem lw_around_ev {x y : Int} : f_lw_around [pt x y] = .ok (.lst [twoL (ends2 x y), twoL (ups2 x y)]) [none] := by
  have hz := stp_cases x y
  have v := fun i => dDiv_p (i := i) (stp_pos x y).1 (stp_pos x y).2
  have v2 := fun i => dDiv_p (i := i) (j := 2 * stp x y) (by omega) (by omega)
  have m := dMul_l (i := 2) (j := stp x y) (by decide) (by decide)
  have d2 := fun i => dMod_p (i := i) (j := 2) (by decide)
  show runF _ _ _ m_lw_around _ = _
  unfold runF m_lw_around ends2 ups2
  cases e : cen x y
  · by_cases q : x / stp x y % 2 = 1 <;> simp [sSeq, sSet, sRet, sRetN, sExp, sIf, sNil, sAsg, sPar, mVar, mK, mOp, mUn, mTst_e, tstK, mAnd, mOr, mNot, mAndV_e, andK, mOrV_e, orK, mNotV_e, notK, mIf, mEq, mNe, dEq_int, dEq_bl, mIsN, D.isNon, mCons, mNil, mTup, mLst, mMov, mCall, bLen, bAbs, mIsi, isT, D.isDct, mCallF_e, callK, callO, callR, fill, puts, mOwnA, gN, gT, gC, gE, SO.opt, dAdd, dSub, dLt, dLe, dGt, dGe, dNeg, mChain_e, chK, mTru, dTru, mSeqI, mRng, msk, ix2_0, ix2_1, ix3_0, ix3_1, ix3_2, mDNew, mMov, SO.opt, lw_step_ev, lw_centre_ev, e, v, d2, q]
  · by_cases q : (x - stp x y + y - stp x y) / (2 * stp x y) % 2 = 0 <;> simp [sSeq, sSet, sRet, sRetN, sExp, sIf, sNil, sAsg, sPar, mVar, mK, mOp, mUn, mTst_e, tstK, mAnd, mOr, mNot, mAndV_e, andK, mOrV_e, orK, mNotV_e, notK, mIf, mEq, mNe, dEq_int, dEq_bl, mIsN, D.isNon, mCons, mNil, mTup, mLst, mMov, mCall, bLen, bAbs, mIsi, isT, D.isDct, mCallF_e, callK, callO, callR, fill, puts, mOwnA, gN, gT, gC, gE, SO.opt, dAdd, dSub, dLt, dLe, dGt, dGe, dNeg, mChain_e, chK, mTru, dTru, mSeqI, mRng, msk, ix2_0, ix2_1, ix3_0, ix3_1, ix3_2, mDNew, mMov, SO.opt, lw_step_ev, lw_centre_ev, e, v2, m, d2, q]
def inb (w p s : Int) : D → Bool
  | .tup [.int x, .int y] => (decide (0 ≤ x) && decide (x ≤ w * s)) && (decide (0 ≤ y) && decide (y ≤ p * s))
  | _ => false
theorem lw_in_ev {w p s x y : Int} (h : Plan w p s) : f_lw_in [pl w p s, pt x y] = .ok (.bl (inb w p s (pt x y))) [none, none] := by
  have m1 : dMul (.int w) (.int s) = some (.int (w * s)) := dMul_l (by have := h.w; omega) (by have := h.w; omega)
  have m2 : dMul (.int p) (.int s) = some (.int (p * s)) := dMul_l (by have := h.p; omega) (by have := h.p; omega)
  show runF _ _ _ m_lw_in _ = _
  unfold runF m_lw_in inb
  by_cases a : 0 ≤ x <;> by_cases b : x ≤ w * s <;> by_cases c : 0 ≤ y <;> by_cases d : y ≤ p * s <;> simp [sSeq, sSet, sRet, sRetN, sExp, sIf, sNil, sAsg, sPar, mVar, mK, mOp, mUn, mTst_e, tstK, mAnd, mOr, mNot, mAndV_e, andK, mOrV_e, orK, mNotV_e, notK, mIf, mEq, mNe, dEq_int, dEq_bl, mIsN, D.isNon, mCons, mNil, mTup, mLst, mMov, mCall, bLen, bAbs, mIsi, isT, D.isDct, mCallF_e, callK, callO, callR, fill, puts, mOwnA, gN, gT, gC, gE, SO.opt, dAdd, dSub, dLt, dLe, dGt, dGe, dNeg, mChain_e, chK, mTru, dTru, mSeqI, mRng, msk, ix2_0, ix2_1, ix3_0, ix3_1, ix3_2, mDNew, mMov, SO.opt, m1, m2, a, b, c, d]
def upq (w p s : Int) (d : D) : Bool := inb w p s d && !cor s d
theorem lw_ups_ev {w p s x y : Int} (h : Plan w p s) : f_lw_ups [pl w p s, pt x y] = .ok (.lst ([ptP (ups2 x y).1, ptP (ups2 x y).2].filter (upq w p s))) [none, none] := by
  have e := mComp_ev (mi := mSeqI (mOp dIx (mCallF f_lw_around [none] [] (mCons (mVar 1) mNil)) (mK (.int 1)))) (g := gN 2) (c := mAnd (mTru (mCallF f_lw_in [none, none] [] (mCons (mVar 0) (mCons (mVar 2) mNil)))) (mNot (mTru (mCallF f_lw_corner [none, none] [] (mCons (mVar 0) (mCons (mVar 2) mNil)))))) (e := mVar 2) (vs := [2])
    (s := [some (pl w p s), some (pt x y), none]) (s1 := [some (pl w p s), some (pt x y), none]) (ds := [ptP (ups2 x y).1, ptP (ups2 x y).2]) (upq w p s) (fun d => d) (by simp [sSeq, sSet, sRet, sRetN, sExp, sIf, sNil, sAsg, sPar, mVar, mK, mOp, mUn, mTst_e, tstK, mAnd, mOr, mNot, mAndV_e, andK, mOrV_e, orK, mNotV_e, notK, mIf, mEq, mNe, dEq_int, dEq_bl, mIsN, D.isNon, mCons, mNil, mTup, mLst, mMov, mCall, bLen, bAbs, mIsi, isT, D.isDct, mCallF_e, callK, callO, callR, fill, puts, mOwnA, gN, gT, gC, gE, SO.opt, dAdd, dSub, dLt, dLe, dGt, dGe, dNeg, mChain_e, chK, mTru, dTru, mSeqI, mRng, msk, ix2_0, ix2_1, ix3_0, ix3_1, ix3_2, mDNew, mMov, SO.opt, lw_around_ev, ixl2_1]) (fun d hd => by
      have hd : ∃ a b : Int, d = pt a b := by
        rcases List.mem_cons.mp hd with rfl | hd
        · exact ⟨_, _, rfl⟩
        · rw [List.mem_singleton.mp hd]
          exact ⟨_, _, rfl⟩
      obtain ⟨a, b, rfl⟩ := hd
      refine ⟨_, [some (pl w p s), some (pt x y), some (pt a b)], rfl, ?_, fun _ => rfl, fun _ => ⟨_, rfl, rfl⟩⟩
      cases q : inb w p s (pt a b) <;> simp [sSeq, sSet, sRet, sRetN, sExp, sIf, sNil, sAsg, sPar, mVar, mK, mOp, mUn, mTst_e, tstK, mAnd, mOr, mNot, mAndV_e, andK, mOrV_e, orK, mNotV_e, notK, mIf, mEq, mNe, dEq_int, dEq_bl, mIsN, D.isNon, mCons, mNil, mTup, mLst, mMov, mCall, bLen, bAbs, mIsi, isT, D.isDct, mCallF_e, callK, callO, callR, fill, puts, mOwnA, gN, gT, gC, gE, SO.opt, dAdd, dSub, dLt, dLe, dGt, dGe, dNeg, mChain_e, chK, mTru, dTru, mSeqI, mRng, msk, ix2_0, ix2_1, ix3_0, ix3_1, ix3_2, mDNew, mMov, SO.opt, swipe, lw_in_ev h, lw_corner_ev h.sm.1, upq, q, cor]) (by show 2 < 16000000; decide)
  show runF _ _ _ m_lw_ups _ = _
  unfold runF m_lw_ups sRet
  rw [show ([pl w p s, pt x y].map some ++ List.replicate (3 - [pl w p s, pt x y].length) none) = [some (pl w p s), some (pt x y), none] from rfl, e, List.map_id']
  rfl
theorem Cut.of {w p s x y : Int} (h : Plan w p s) (q : upq w p s (pt x y) = true) : Cut w p s x y := by
  obtain ⟨q1, q2⟩ := Bool.and_eq_true_iff.mp q
  unfold inb at q1
  simp at q1
  exact ⟨h, ⟨q1.1.1, q1.1.2⟩, ⟨q1.2.1, q1.2.2⟩, (Bool.not_eq_true' _).mp q2⟩
def cutL (w p s : Int) : List D := (plc w p s).filter fun d => !cor s d
theorem cutL_pos {w p s : Int} (h : Plan w p s) : 0 < (cutL w p s).length := by
  obtain ⟨hw, hp, hs⟩ := h
  have hw : w = 1 ∨ w = 2 ∨ w = 3 := by omega
  have hp : p = 1 ∨ p = 2 ∨ p = 3 := by omega
  rcases hw with rfl | rfl | rfl <;> rcases hp with rfl | rfl | rfl <;> rcases hs with rfl | rfl | rfl <;> decide +kernel
theorem cutL_mem {w p s : Int} (h : Plan w p s) {d : D} (hd : d ∈ cutL w p s) : ∃ x y, d = pt x y ∧ Cut w p s x y := by
  obtain ⟨h1, h2⟩ := List.mem_filter.mp hd
  obtain ⟨x, y, rfl, x0, y0, x1, y1⟩ := plc_mem h1
  have k := h.sm
  exact ⟨x, y, rfl, h, ⟨x0, by omega⟩, ⟨y0, by omega⟩, (Bool.not_eq_true' _).mp h2⟩
def lvb (s z : Int) : Int := if s = 2 then 0 else if s = 4 then (if z = 1 then 2 else 0) else (if z = 1 then 4 else if z = 2 then 2 else 0)
def lv (s x y : Int) : Int := if cen x y = true then lvb s (stp x y) else lvb s (stp x y) + 1
theorem Cut.st {w p s x y : Int} (h : Cut w p s x y) : (s = 2 ∧ stp x y = 1) ∨ (s = 4 ∧ (stp x y = 1 ∨ stp x y = 2)) ∨ (s = 8 ∧ (stp x y = 1 ∨ stp x y = 2 ∨ stp x y = 4)) := by
  have q := h.P.s
  have n := h.no
  unfold stp
  rcases q with rfl | rfl | rfl
  · left
    refine ⟨rfl, ?_⟩
    rw [if_neg (fun z => n (by omega)), if_neg n]
  · right; left
    refine ⟨rfl, ?_⟩
    rw [if_neg n]
    split <;> simp
  · right; right
    refine ⟨rfl, ?_⟩
    split
    · simp
    · split <;> simp
theorem lw_level_ev {w p s x y : Int} (h : Cut w p s x y) : f_lw_level [pl w p s, pt x y] = .ok (.int (lv s x y)) [none, none] := by
  show runF _ _ _ m_lw_level _ = _
  unfold runF m_lw_level
  rw [show ([pl w p s, pt x y].map some ++ List.replicate (5 - [pl w p s, pt x y].length) none) = [some (pl w p s), some (pt x y), none, none, none] from rfl]
  rw [sSeq_nx (show sSet 2 (mK (.int 0)) [some (pl w p s), some (pt x y), none, none, none] = .nx [some (pl w p s), some (pt x y), some (.int 0), none, none] from rfl)]
  have hs := h.P.sm
  rw [sSeq_nx (s' := [some (pl w p s), some (pt x y), some (.int 0), some (.int (s / 2)), none]) (by simp [sSeq, sSet, sRet, sRetN, sExp, sIf, sNil, sAsg, sPar, mVar, mK, mOp, mUn, mTst_e, tstK, mAnd, mOr, mNot, mAndV_e, andK, mOrV_e, orK, mNotV_e, notK, mIf, mEq, mNe, dEq_int, dEq_bl, mIsN, D.isNon, mCons, mNil, mTup, mLst, mMov, mCall, bLen, bAbs, mIsi, isT, D.isDct, mCallF_e, callK, callO, callR, fill, puts, mOwnA, gN, gT, gC, gE, SO.opt, dAdd, dSub, dLt, dLe, dGt, dGe, dNeg, mChain_e, chK, mTru, dTru, mSeqI, mRng, msk, ix2_0, ix2_1, ix3_0, ix3_1, ix3_2, mDNew, mMov, SO.opt, dDiv_p (i := s) (j := 2) (by decide) (by decide)])]
  have body : ∀ (c z : Int) (o : Option D), sIf (mTst (mOp dGt (mVar 3) (mCallF f_lw_step [none] [] (mCons (mVar 1) mNil)))) (sSeq (sSet 3 (mOp dDiv (mVar 3) (mK (.int 2)))) (sSet 2 (mOp dAdd (mVar 2) (mK (.int 2))))) sNil [some (pl w p s), some (pt x y), some (.int c), some (.int z), o] = .nx (if stp x y < z then [some (pl w p s), some (pt x y), some (.int (c + 2)), some (.int (z / 2)), o] else [some (pl w p s), some (pt x y), some (.int c), some (.int z), o]) := fun c z o => by
    by_cases q : stp x y < z <;> simp [sSeq, sSet, sRet, sRetN, sExp, sIf, sNil, sAsg, sPar, mVar, mK, mOp, mUn, mTst_e, tstK, mAnd, mOr, mNot, mAndV_e, andK, mOrV_e, orK, mNotV_e, notK, mIf, mEq, mNe, dEq_int, dEq_bl, mIsN, D.isNon, mCons, mNil, mTup, mLst, mMov, mCall, bLen, bAbs, mIsi, isT, D.isDct, mCallF_e, callK, callO, callR, fill, puts, mOwnA, gN, gT, gC, gE, SO.opt, dAdd, dSub, dLt, dLe, dGt, dGe, dNeg, mChain_e, chK, mTru, dTru, mSeqI, mRng, msk, ix2_0, ix2_1, ix3_0, ix3_1, ix3_2, mDNew, mMov, SO.opt, lw_step_ev, q, dDiv_p (i := z) (j := 2) (by decide) (by decide)]
  rw [sSeq_nx (s' := [some (pl w p s), some (pt x y), some (.int (lvb s (stp x y))), some (.int (stp x y)), some (.int 2)]) (by
    have e : ∀ (b : MS), (∀ (c z : Int) (o : Option D), b [some (pl w p s), some (pt x y), some (.int c), some (.int z), o] = .nx (if stp x y < z then [some (pl w p s), some (pt x y), some (.int (c + 2)), some (.int (z / 2)), o] else [some (pl w p s), some (pt x y), some (.int c), some (.int z), o])) →
        forM (gN 4) b [.int 0, .int 1, .int 2] [some (pl w p s), some (pt x y), some (.int 0), some (.int (s / 2)), none] = .nx [some (pl w p s), some (pt x y), some (.int (lvb s (stp x y))), some (.int (stp x y)), some (.int 2)] := fun b hb => by
      have hst := h.st
      generalize stp x y = z at hst hb
      rcases hst with ⟨rfl, rfl⟩ | ⟨rfl, rfl | rfl⟩ | ⟨rfl, rfl | rfl | rfl⟩ <;> simp [forM, gN, hb, lvb]
    unfold sFor
    exact (congrArg (fun r => R.so r _) (show mRng bRng1 (mCons (mK (.int 3)) mNil) _ = .ok [.int 0, .int 1, .int 2] _ from rfl)).trans (e _ body))]
  unfold lv
  cases e : cen x y <;> simp [sSeq, sSet, sRet, sRetN, sExp, sIf, sNil, sAsg, sPar, mVar, mK, mOp, mUn, mTst_e, tstK, mAnd, mOr, mNot, mAndV_e, andK, mOrV_e, orK, mNotV_e, notK, mIf, mEq, mNe, dEq_int, dEq_bl, mIsN, D.isNon, mCons, mNil, mTup, mLst, mMov, mCall, bLen, bAbs, mIsi, isT, D.isDct, mCallF_e, callK, callO, callR, fill, puts, mOwnA, gN, gT, gC, gE, SO.opt, dAdd, dSub, dLt, dLe, dGt, dGe, dNeg, mChain_e, chK, mTru, dTru, mSeqI, mRng, msk, ix2_0, ix2_1, ix3_0, ix3_1, ix3_2, mDNew, mMov, SO.opt, lw_centre_ev, e]
theorem Cut.le {w p s x y : Int} (h : Cut w p s x y) : (0 ≤ x ∧ x ≤ 24) ∧ (0 ≤ y ∧ y ≤ 24) := by
  have k := h.P.sm
  have a := h.hx
  have b := h.hy
  omega
def upC (s x y : Int) : Bool := (x % s == 0 && y % s == 0) || ([(ups2 x y).1, (ups2 x y).2].all fun a => (a.1 % s == 0 && a.2 % s == 0) || lv s a.1 a.2 == lv s x y - 1)
theorem up_all : ((List.range 25).all fun x => (List.range 25).all fun y => [2, 4, 8].all fun s => upC s x y) = true := by decide +kernel
theorem up_lv {w p s x y a b : Int} (h : Cut w p s x y) (hm : (a, b) = (ups2 x y).1 ∨ (a, b) = (ups2 x y).2) (h2 : Cut w p s a b) : lv s a b = lv s x y - 1 := by
  obtain ⟨⟨x0, x1⟩, ⟨y0, y1⟩⟩ := h.le
  obtain ⟨i, rfl⟩ := Int.eq_ofNat_of_zero_le x0
  obtain ⟨j, rfl⟩ := Int.eq_ofNat_of_zero_le y0
  have q := List.all_eq_true.mp (List.all_eq_true.mp up_all i (List.mem_range.mpr (by omega))) j (List.mem_range.mpr (by omega))
  have q := List.all_eq_true.mp q s (by rcases h.P.s with rfl | rfl | rfl <;> simp)
  unfold upC at q
  rw [h.c, Bool.false_or] at q
  have q := List.all_eq_true.mp q (a, b) (by rcases hm with e | e <;> rw [e] <;> simp)
  have c2 := h2.c
  simp only at q
  rw [c2, Bool.false_or] at q
  exact eq_of_beq q
abbrev twoT (a : I2 × I2) : D := .tup [ptP a.1, ptP a.2]
def arnd (x y z : Int) : (I2 × I2) × (I2 × I2) :=
  if y / z % 2 = 0 then (((x - z, y), (x + z, y)), ((x, y - z), (x, y + z)))
  else if x / z % 2 = 0 then (((x, y - z), (x, y + z)), ((x - z, y), (x + z, y)))
  else if (x - z) / (2 * z) % 2 = (y - z) / (2 * z) % 2 then (((x - z, y - z), (x + z, y + z)), ((x - z, y + z), (x + z, y - z)))
  else (((x - z, y + z), (x + z, y - z)), ((x - z, y - z), (x + z, y + z)))
theorem ar_all : ((List.range 25).all fun (x : Nat) => (List.range 25).all fun (y : Nat) => ((x : Int) % 8 == 0 && (y : Int) % 8 == 0) || arnd x y (stp x y) == (ends2 x y, ups2 x y)) = true := by decide +kernel
theorem arnd_eq {w p s x y : Int} (h : Cut w p s x y) : arnd x y (stp x y) = (ends2 x y, ups2 x y) := by
  obtain ⟨⟨x0, x1⟩, ⟨y0, y1⟩⟩ := h.le
  have n8 : (x % 8 == 0 && y % 8 == 0) = false := by
    have n := h.no
    have : ¬(x % 8 = 0 ∧ y % 8 = 0) := fun z => n (by rcases h.P.s with rfl | rfl | rfl <;> omega)
    cases e : x % 8 == 0 with
    | false => rfl
    | true =>
      cases e2 : y % 8 == 0 with
      | false => rfl
      | true => exact absurd ⟨eq_of_beq e, eq_of_beq e2⟩ this
  obtain ⟨i, rfl⟩ := Int.eq_ofNat_of_zero_le x0
  obtain ⟨j, rfl⟩ := Int.eq_ofNat_of_zero_le y0
  have q := List.all_eq_true.mp (List.all_eq_true.mp ar_all i (List.mem_range.mpr (by omega))) j (List.mem_range.mpr (by omega))
  rw [n8, Bool.false_or] at q
  exact eq_of_beq q
theorem around_ev {w p s x y : Int} (h : Cut w p s x y) : f_around [pl w p s, pt x y] = .ok (.tup [twoT (ends2 x y), twoT (ups2 x y)]) [none, none] := by
  have hz := stp_cases x y
  have v := fun i => dDiv_p (i := i) (stp_pos x y).1 (stp_pos x y).2
  have v2 := fun i => dDiv_p (i := i) (j := 2 * stp x y) (by omega) (by omega)
  have m := dMul_l (i := 2) (j := stp x y) (by decide) (by decide)
  have d2 := fun i => dMod_p (i := i) (j := 2) (by decide)
  have e := arnd_eq h
  have e1 : ends2 x y = (arnd x y (stp x y)).1 := by rw [e]
  have e2 : ups2 x y = (arnd x y (stp x y)).2 := by rw [e]
  rw [e1, e2]
  show runF _ _ _ m_around _ = _
  unfold runF m_around arnd
  by_cases a : y / stp x y % 2 = 0
  · simp [sSeq, sSet, sRet, sRetN, sExp, sIf, sNil, sAsg, sPar, mVar, mK, mOp, mUn, mTst_e, tstK, mAnd, mOr, mNot, mAndV_e, andK, mOrV_e, orK, mNotV_e, notK, mIf, mEq, mNe, dEq_int, dEq_bl, mIsN, D.isNon, mCons, mNil, mTup, mLst, mMov, mCall, bLen, bAbs, mIsi, isT, D.isDct, mCallF_e, callK, callO, callR, fill, puts, mOwnA, gN, gT, gC, gE, SO.opt, dAdd, dSub, dLt, dLe, dGt, dGe, dNeg, mChain_e, chK, mTru, dTru, mSeqI, mRng, msk, ix2_0, ix2_1, ix3_0, ix3_1, ix3_2, mDNew, mMov, SO.opt, step_ev h, v, d2, a]
  · by_cases b : x / stp x y % 2 = 0
    · simp [sSeq, sSet, sRet, sRetN, sExp, sIf, sNil, sAsg, sPar, mVar, mK, mOp, mUn, mTst_e, tstK, mAnd, mOr, mNot, mAndV_e, andK, mOrV_e, orK, mNotV_e, notK, mIf, mEq, mNe, dEq_int, dEq_bl, mIsN, D.isNon, mCons, mNil, mTup, mLst, mMov, mCall, bLen, bAbs, mIsi, isT, D.isDct, mCallF_e, callK, callO, callR, fill, puts, mOwnA, gN, gT, gC, gE, SO.opt, dAdd, dSub, dLt, dLe, dGt, dGe, dNeg, mChain_e, chK, mTru, dTru, mSeqI, mRng, msk, ix2_0, ix2_1, ix3_0, ix3_1, ix3_2, mDNew, mMov, SO.opt, step_ev h, v, d2, a, b]
    · by_cases c : (x - stp x y) / (2 * stp x y) % 2 = (y - stp x y) / (2 * stp x y) % 2 <;> simp [sSeq, sSet, sRet, sRetN, sExp, sIf, sNil, sAsg, sPar, mVar, mK, mOp, mUn, mTst_e, tstK, mAnd, mOr, mNot, mAndV_e, andK, mOrV_e, orK, mNotV_e, notK, mIf, mEq, mNe, dEq_int, dEq_bl, mIsN, D.isNon, mCons, mNil, mTup, mLst, mMov, mCall, bLen, bAbs, mIsi, isT, D.isDct, mCallF_e, callK, callO, callR, fill, puts, mOwnA, gN, gT, gC, gE, SO.opt, dAdd, dSub, dLt, dLe, dGt, dGe, dNeg, mChain_e, chK, mTru, dTru, mSeqI, mRng, msk, ix2_0, ix2_1, ix3_0, ix3_1, ix3_2, mDNew, mMov, SO.opt, step_ev h, v, v2, m, d2, a, b, c]
theorem lies_in_b {w p s x y : Int} (h : Plan w p s) : f_lies_in [pl w p s, pt x y] = .ok (.bl (inb w p s (pt x y))) [none, none] := by
  have m1 : dMul (.int w) (.int s) = some (.int (w * s)) := dMul_l (by have := h.w; omega) (by have := h.w; omega)
  have m2 : dMul (.int p) (.int s) = some (.int (p * s)) := dMul_l (by have := h.p; omega) (by have := h.p; omega)
  show runF _ _ _ m_lies_in _ = _
  unfold runF m_lies_in inb
  by_cases a : 0 ≤ x <;> by_cases b : x ≤ w * s <;> by_cases c : 0 ≤ y <;> by_cases d : y ≤ p * s <;> simp [sSeq, sSet, sRet, sRetN, sExp, sIf, sNil, sAsg, sPar, mVar, mK, mOp, mUn, mTst_e, tstK, mAnd, mOr, mNot, mAndV_e, andK, mOrV_e, orK, mNotV_e, notK, mIf, mEq, mNe, dEq_int, dEq_bl, mIsN, D.isNon, mCons, mNil, mTup, mLst, mMov, mCall, bLen, bAbs, mIsi, isT, D.isDct, mCallF_e, callK, callO, callR, fill, puts, mOwnA, gN, gT, gC, gE, SO.opt, dAdd, dSub, dLt, dLe, dGt, dGe, dNeg, mChain_e, chK, mTru, dTru, mSeqI, mRng, msk, ix2_0, ix2_1, ix3_0, ix3_1, ix3_2, mDNew, mMov, SO.opt, m1, m2, a, b, c, d]
theorem parents_ev {w p s x y : Int} (hC : Cut w p s x y) : f_parents [pl w p s, pt x y] = .ok (.lst ([ptP (ups2 x y).1, ptP (ups2 x y).2].filter (upq w p s))) [none, none] := by
  have h := hC.P
  have e := mComp_ev (mi := mSeqI (mOp dIx (mCallF f_around [none, none] [] (mCons (mVar 0) (mCons (mVar 1) mNil))) (mK (.int 1)))) (g := gN 2) (c := mAnd (mTru (mCallF f_lies_in [none, none] [] (mCons (mVar 0) (mCons (mVar 2) mNil)))) (mNot (mTru (mCallF f_on_corner [none, none] [] (mCons (mVar 0) (mCons (mVar 2) mNil)))))) (e := mVar 2) (vs := [2])
    (s := [some (pl w p s), some (pt x y), none]) (s1 := [some (pl w p s), some (pt x y), none]) (ds := [ptP (ups2 x y).1, ptP (ups2 x y).2]) (upq w p s) (fun d => d) (by simp [sSeq, sSet, sRet, sRetN, sExp, sIf, sNil, sAsg, sPar, mVar, mK, mOp, mUn, mTst_e, tstK, mAnd, mOr, mNot, mAndV_e, andK, mOrV_e, orK, mNotV_e, notK, mIf, mEq, mNe, dEq_int, dEq_bl, mIsN, D.isNon, mCons, mNil, mTup, mLst, mMov, mCall, bLen, bAbs, mIsi, isT, D.isDct, mCallF_e, callK, callO, callR, fill, puts, mOwnA, gN, gT, gC, gE, SO.opt, dAdd, dSub, dLt, dLe, dGt, dGe, dNeg, mChain_e, chK, mTru, dTru, mSeqI, mRng, msk, ix2_0, ix2_1, ix3_0, ix3_1, ix3_2, mDNew, mMov, SO.opt, around_ev hC]) (fun d hd => by
      have hd : ∃ a b : Int, d = pt a b := by
        rcases List.mem_cons.mp hd with rfl | hd
        · exact ⟨_, _, rfl⟩
        · rw [List.mem_singleton.mp hd]
          exact ⟨_, _, rfl⟩
      obtain ⟨a, b, rfl⟩ := hd
      refine ⟨_, [some (pl w p s), some (pt x y), some (pt a b)], rfl, ?_, fun _ => rfl, fun _ => ⟨_, rfl, rfl⟩⟩
      cases q : inb w p s (pt a b) <;> simp [sSeq, sSet, sRet, sRetN, sExp, sIf, sNil, sAsg, sPar, mVar, mK, mOp, mUn, mTst_e, tstK, mAnd, mOr, mNot, mAndV_e, andK, mOrV_e, orK, mNotV_e, notK, mIf, mEq, mNe, dEq_int, dEq_bl, mIsN, D.isNon, mCons, mNil, mTup, mLst, mMov, mCall, bLen, bAbs, mIsi, isT, D.isDct, mCallF_e, callK, callO, callR, fill, puts, mOwnA, gN, gT, gC, gE, SO.opt, dAdd, dSub, dLt, dLe, dGt, dGe, dNeg, mChain_e, chK, mTru, dTru, mSeqI, mRng, msk, ix2_0, ix2_1, ix3_0, ix3_1, ix3_2, mDNew, mMov, SO.opt, swipe, lies_in_b h, on_corner_ev h.sm.1, upq, q, cor]) (by show 2 < 16000000; decide)
  show runF _ _ _ m_parents _ = _
  unfold runF m_parents sRet
  rw [show ([pl w p s, pt x y].map some ++ List.replicate (3 - [pl w p s, pt x y].length) none) = [some (pl w p s), some (pt x y), none] from rfl, e, List.map_id']
  rfl
theorem dEq_pt {a b c d : Int} : dEq (pt a b) (pt c d) = some (a == c && b == d) := by
  unfold dEq
  simp [D.flat, D.flats, D.eq, D.eqs]
theorem sorted_ext {α : Type} {r : α → α → Prop} (asym : ∀ a b, r a b → r b a → False) : ∀ {l m : List α}, l.Pairwise r → m.Pairwise r → (∀ a, a ∈ l ↔ a ∈ m) → l = m
  | [], [], _, _, _ => rfl
  | [], b :: m, _, _, h => absurd ((h b).mpr List.mem_cons_self) (by simp)
  | a :: l, [], _, _, h => absurd ((h a).mp List.mem_cons_self) (by simp)
  | a :: l, b :: m, hl, hm, h => by
    obtain ⟨h1, hl2⟩ := List.pairwise_cons.mp hl
    obtain ⟨h2, hm2⟩ := List.pairwise_cons.mp hm
    have e : a = b := by
      rcases List.mem_cons.mp ((h a).mp List.mem_cons_self) with e | ha
      · exact e
      · rcases List.mem_cons.mp ((h b).mpr List.mem_cons_self) with e | hb
        · exact e.symm
        · exact (asym a b (h1 b hb) (h2 a ha)).elim
    subst e
    have t := sorted_ext asym hl2 hm2 fun c => by
      constructor
      · intro hc
        rcases List.mem_cons.mp ((h c).mp (List.mem_cons_of_mem _ hc)) with rfl | hc2
        · exact (asym c c (h1 c hc) (h1 c hc)).elim
        · exact hc2
      · intro hc
        rcases List.mem_cons.mp ((h c).mpr (List.mem_cons_of_mem _ hc)) with rfl | hc2
        · exact (asym c c (h2 c hc) (h2 c hc)).elim
        · exact hc2
    rw [t]
theorem rng_has : ∀ {k : Nat} {lo x : Int}, lo ≤ x → x < lo + k → D.int x ∈ rng lo k
  | 0, _, _, h1, h2 => by omega
  | k + 1, lo, x, h1, h2 => by
    by_cases e : x = lo
    · rw [e]; exact List.mem_cons_self
    · exact List.mem_cons_of_mem _ (rng_has (by omega) (by omega))
theorem plc_has {w p s x y : Int} (hx : 0 ≤ x ∧ x ≤ w * s) (hy : 0 ≤ y ∧ y ≤ p * s) : pt x y ∈ plc w p s := by
  unfold plc pairs
  exact List.mem_flatMap.mpr ⟨_, rng_has hx.1 (by omega), List.mem_map.mpr ⟨_, rng_has hy.1 (by omega), rfl⟩⟩
theorem cutL_has {w p s x y : Int} (h : Cut w p s x y) : pt x y ∈ cutL w p s :=
  List.mem_filter.mpr ⟨plc_has h.hx h.hy, (Bool.not_eq_true' _).mpr h.c⟩
/-- a cut's children are no corners -/
def cs (s : Int) (a : I2) : Bool := a.1 % s == 0 && a.2 % s == 0
theorem Cut.upq {w p s x y : Int} (h : Cut w p s x y) : Bk.upq w p s (pt x y) = true := by
  refine Bool.and_eq_true_iff.mpr ⟨?_, (Bool.not_eq_true' _).mpr h.c⟩
  unfold inb
  simp [h.hx.1, h.hx.2, h.hy.1, h.hy.2]
structure Tr where
  a : Int
  b : Int
  c : Int
  d : Int
  e : Int
  f : Int
def Tr.D (t : Tr) : Bk.D := .tup [.int t.a, .int t.b, .int t.c, .int t.d, .int t.e, .int t.f]
def odd (t : Tr) : Bool := (t.a + t.c) % 2 == 1 || (t.b + t.d) % 2 == 1
def h1 (t : Tr) : Tr := ⟨t.a, t.b, t.e, t.f, (t.a + t.c) / 2, (t.b + t.d) / 2⟩
def h2 (t : Tr) : Tr := ⟨t.e, t.f, t.c, t.d, (t.a + t.c) / 2, (t.b + t.d) / 2⟩
def tree : Nat → Tr → List Tr
  | 0, _ => []
  | n + 1, t => t :: if odd t = true then [] else tree n (h1 t) ++ tree n (h2 t)
def fitT : Nat → Tr → Bool
  | 0, _ => false
  | n + 1, t => odd t || (fitT n (h1 t) && fitT n (h2 t))
theorem tree_self {n : Nat} {t : Tr} (h : fitT n t = true) : t ∈ tree n t := by
  cases n with
  | zero => cases h
  | succ n => exact List.mem_cons_self
/-- a tree's triangles have their halves in it -/
theorem tree_half : ∀ {n : Nat} {r t : Tr}, fitT n r = true → t ∈ tree n r → odd t = false → h1 t ∈ tree n r ∧ h2 t ∈ tree n r
  | 0, _, _, h, _, _ => by cases h
  | n + 1, r, t, h, ht, ho => by
    have hf : (odd r || (fitT n (h1 r) && fitT n (h2 r))) = true := h
    have ht : t ∈ r :: (if odd r = true then [] else tree n (h1 r) ++ tree n (h2 r)) := ht
    show h1 t ∈ r :: (if odd r = true then [] else tree n (h1 r) ++ tree n (h2 r)) ∧ h2 t ∈ r :: (if odd r = true then [] else tree n (h1 r) ++ tree n (h2 r))
    cases hr : odd r with
    | true =>
      rw [hr, if_pos rfl] at ht
      rw [List.mem_singleton.mp ht, hr] at ho
      cases ho
    | false =>
      rw [hr, if_neg (by decide)] at ht
      rw [if_neg (by decide)]
      rw [hr, Bool.false_or, Bool.and_eq_true] at hf
      rcases List.mem_cons.mp ht with e | ht
      · rw [e]
        exact ⟨List.mem_cons_of_mem _ (List.mem_append_left _ (tree_self hf.1)), List.mem_cons_of_mem _ (List.mem_append_right _ (tree_self hf.2))⟩
      · rcases List.mem_append.mp ht with ht | ht
        · obtain ⟨q1, q2⟩ := tree_half hf.1 ht ho
          exact ⟨List.mem_cons_of_mem _ (List.mem_append_left _ q1), List.mem_cons_of_mem _ (List.mem_append_left _ q2)⟩
        · obtain ⟨q1, q2⟩ := tree_half hf.2 ht ho
          exact ⟨List.mem_cons_of_mem _ (List.mem_append_right _ q1), List.mem_cons_of_mem _ (List.mem_append_right _ q2)⟩
theorem ix6_0 {a b c d e f : D} : dIx (.tup [a, b, c, d, e, f]) (.int 0) = some a := rfl
theorem ix6_1 {a b c d e f : D} : dIx (.tup [a, b, c, d, e, f]) (.int 1) = some b := rfl
theorem ix6_2 {a b c d e f : D} : dIx (.tup [a, b, c, d, e, f]) (.int 2) = some c := rfl
theorem ix6_3 {a b c d e f : D} : dIx (.tup [a, b, c, d, e, f]) (.int 3) = some d := rfl
def mid (t : Tr) : D := if odd t = true then .non else .tup [.int ((t.a + t.c) / 2), .int ((t.b + t.d) / 2)]
/-- the roots of a plan -/
def rts2 (i j s : Int) : List Tr := if (i + j) % 2 == 0 then [⟨i * s, j * s, i * s + s, j * s + s, i * s + s, j * s⟩, ⟨i * s + s, j * s + s, i * s, j * s, i * s, j * s + s⟩]
  else [⟨i * s + s, j * s, i * s, j * s + s, i * s + s, j * s + s⟩, ⟨i * s, j * s + s, i * s + s, j * s, i * s, j * s⟩]
def rts (w p s : Int) : List Tr := (List.range w.toNat).flatMap fun (i : Nat) => (List.range p.toNat).flatMap fun (j : Nat) => rts2 (i : Int) (j : Int) s
def shp (w p s : Int) : List Tr := (rts w p s).flatMap (tree 8)
def plans : List (Int × Int × Int) := [(1, 1, 2), (1, 1, 4), (1, 1, 8), (1, 2, 2), (1, 2, 4), (1, 2, 8), (1, 3, 2), (1, 3, 4), (1, 3, 8), (2, 1, 2), (2, 1, 4), (2, 1, 8), (2, 2, 2), (2, 2, 4), (2, 2, 8), (2, 3, 2), (2, 3, 4), (2, 3, 8),
  (3, 1, 2), (3, 1, 4), (3, 1, 8), (3, 2, 2), (3, 2, 4), (3, 2, 8), (3, 3, 2), (3, 3, 4), (3, 3, 8)]
theorem Plan.mem {w p s : Int} (q : Plan w p s) : (w, p, s) ∈ plans := by
  obtain ⟨hw, hp, hs⟩ := q
  have hw : w = 1 ∨ w = 2 ∨ w = 3 := by omega
  have hp : p = 1 ∨ p = 2 ∨ p = 3 := by omega
  rcases hw with rfl | rfl | rfl <;> rcases hp with rfl | rfl | rfl <;> rcases hs with rfl | rfl | rfl <;> decide
/-- what the kernel has found for all plans -/
theorem by_plans {f : Int → Int → Int → Bool} (h : (plans.all fun z => f z.1 z.2.1 z.2.2) = true) {w p s : Int} (q : Plan w p s) : f w p s = true := List.all_eq_true.mp h _ q.mem
theorem rts_fit {w p s : Int} (h : Plan w p s) : (∀ t ∈ rts w p s, fitT 8 t = true) ∧ 0 < (rts w p s).length ∧ (rts w p s).length ≤ 18 := by
  have q := by_plans (f := fun w p s => (rts w p s).all (fitT 8) && (decide (0 < (rts w p s).length) && decide ((rts w p s).length ≤ 18))) (by decide +kernel) h
  simp only [Bool.and_eq_true, decide_eq_true_eq, List.all_eq_true] at q
  exact ⟨q.1, q.2.1, q.2.2⟩
theorem shp_half {w p s : Int} (h : Plan w p s) {t : Tr} (ht : t ∈ shp w p s) (ho : odd t = false) : h1 t ∈ shp w p s ∧ h2 t ∈ shp w p s := by
  unfold shp at ht ⊢
  obtain ⟨r, hr, ht⟩ := List.mem_flatMap.mp ht
  obtain ⟨q1, q2⟩ := tree_half ((rts_fit h).1 r hr) ht ho
  exact ⟨List.mem_flatMap.mpr ⟨r, hr, q1⟩, List.mem_flatMap.mpr ⟨r, hr, q2⟩⟩
theorem shp_root {w p s : Int} (h : Plan w p s) {t : Tr} (ht : t ∈ rts w p s) : t ∈ shp w p s := List.mem_flatMap.mpr ⟨t, ht, tree_self ((rts_fit h).1 t ht)⟩
theorem middle_ev (t : Tr) : f_middle [t.D] = .ok (mid t) [none] := by
  have m := fun i => dMod_p (i := i) (j := 2) (by decide)
  have v := fun i => dDiv_p (i := i) (j := 2) (by decide) (by decide)
  show runF _ _ _ m_middle _ = _
  unfold runF m_middle mid odd Tr.D
  cases q1 : (t.a + t.c) % 2 == 1 <;> cases q2 : (t.b + t.d) % 2 == 1 <;> simp [sSeq, sSet, sRet, sRetN, sExp, sIf, sNil, sAsg, sPar, mVar, mK, mOp, mUn, mTst_e, tstK, mAnd, mOr, mNot, mAndV_e, andK, mOrV_e, orK, mNotV_e, notK, mIf, mEq, mNe, dEq_int, dEq_bl, mIsN, D.isNon, mCons, mNil, mTup, mLst, mMov, mCall, bLen, bAbs, mIsi, isT, D.isDct, mCallF_e, callK, callO, callR, fill, puts, mOwnA, gN, gT, gC, gE, SO.opt, dAdd, dSub, dLt, dLe, dGt, dGe, dNeg, mChain_e, chK, mTru, dTru, mSeqI, mRng, msk, ix2_0, ix2_1, ix3_0, ix3_1, ix3_2, mDNew, mMov, SO.opt, ix6_0, ix6_1, ix6_2, ix6_3, m, v, q1, q2]
theorem halved_ev (t : Tr) (h : odd t = false) : f_halved [t.D] = .ok (.lst [(h1 t).D, (h2 t).D]) [none] := by
  have e := middle_ev t
  unfold mid at e
  rw [h, if_neg (by decide)] at e
  show runF _ _ _ m_halved _ = _
  unfold runF m_halved
  unfold Tr.D at e ⊢
  simp [sSeq, sSet, sRet, sRetN, sExp, sIf, sNil, sAsg, sPar, mVar, mK, mOp, mUn, mTst_e, tstK, mAnd, mOr, mNot, mAndV_e, andK, mOrV_e, orK, mNotV_e, notK, mIf, mEq, mNe, dEq_int, dEq_bl, mIsN, D.isNon, mCons, mNil, mTup, mLst, mMov, mCall, bLen, bAbs, mIsi, isT, D.isDct, mCallF_e, callK, callO, callR, fill, puts, mOwnA, gN, gT, gC, gE, SO.opt, dAdd, dSub, dLt, dLe, dGt, dGe, dNeg, mChain_e, chK, mTru, dTru, mSeqI, mRng, msk, ix2_0, ix2_1, ix3_0, ix3_1, ix3_2, mDNew, mMov, SO.opt, e, h1, h2]
theorem roots_ev {w p s : Int} (h : Plan w p s) : f_roots [pl w p s] = .ok (.lst ((rts w p s).map Tr.D)) [none] := by
  have q := by_plans (f := fun w p s => match okV 1 (f_roots [pl w p s]) with | some d => D.beq d (.lst ((rts w p s).map Tr.D)) | none => false) (by decide +kernel) h
  split at q
  · rename_i d e
    rw [okV_eq e, D.beq_eq _ _ q]
    rfl
  · cases q
def toI : D → I2
  | .tup [.int x, .int y] => (x, y)
  | _ => (0, 0)
def kP (a : I2) : List Key := [.inl a.1, .inl a.2]
theorem keyOf_pt (a : I2) : keyOf (ptP a) = some (kP a) := rfl
theorem kDs_kP (a : I2) : kDs (kP a) = ptP a := rfl
theorem kP_inj {a b : I2} (h : kP a = kP b) : a = b := by
  unfold kP at h
  injection h with h1 h2
  injection h2 with h2 _
  exact Prod.ext (Sum.inl.inj h1) (Sum.inl.inj h2)
theorem kP_mem {L : List I2} {a : I2} : kP a ∈ L.map kP ↔ a ∈ L := ⟨fun h => by
  obtain ⟨b, hb, e⟩ := List.mem_map.mp h
  rw [← kP_inj e]
  exact hb, fun h => List.mem_map.mpr ⟨a, h, rfl⟩⟩
theorem memK_pt {L : List I2} {a : I2} : memK (L.map kP) (kP a) = decide (a ∈ L) := by
  by_cases h : a ∈ L
  · rw [memK_iff.mpr (kP_mem.mpr h), decide_eq_true h]
  · rw [decide_eq_false h]
    cases e : memK (L.map kP) (kP a) with
    | false => rfl
    | true => exact absurd (kP_mem.mp (memK_iff.mp e)) h
def leP (a b : I2) : Bool := decide (a.1 < b.1 ∨ (a.1 = b.1 ∧ a.2 ≤ b.2))
def ltP2 (a b : I2) : Prop := a.1 < b.1 ∨ (a.1 = b.1 ∧ a.2 < b.2)
theorem leP_iff {a b : I2} : leP a b = true ↔ a.1 < b.1 ∨ (a.1 = b.1 ∧ a.2 ≤ b.2) := by unfold leP; rw [decide_eq_true_iff]
theorem dSle_pt (a b : I2) : dSle (ptP a) (ptP b) = leP a b := congrFun (congrFun (PySem.W.dataLe_ii (β := I2) (fun a => a.1) fun a => a.2) a) b
theorem kLe_pt (a b : I2) : kLe (kP a) (kP b) = leP a b := congrFun (congrFun (PySem.W.dataLe_ii (β := I2) (fun a => a.1) fun a => a.2) a) b
theorem sort_pts (L : List I2) : (L.map ptP).mergeSort dSle = (L.mergeSort leP).map ptP := (List.map_mergeSort fun a _ b _ => (dSle_pt a b).symm).symm
theorem sort_keys (L : List I2) : (L.map kP).mergeSort kLe = (L.mergeSort leP).map kP := (List.map_mergeSort fun a _ b _ => (kLe_pt a b).symm).symm
theorem sort_pw (L : List I2) : (L.mergeSort leP).Pairwise fun a b => leP a b = true := List.pairwise_mergeSort (fun a b c h1 h2 => by
  rw [leP_iff] at *
  omega) (fun a b => by
  rw [Bool.or_eq_true, leP_iff, leP_iff]
  omega) L
theorem sort_mem {L : List I2} {a : I2} : a ∈ L.mergeSort leP ↔ a ∈ L := (List.mergeSort_perm L leP).mem_iff
theorem alike_pt (a b : I2) : PySem.W.alike (ptP a).py (ptP b).py = true := by
  show PySem.W.alike (.tuple [.int a.1, .int a.2]) (.tuple [.int b.1, .int b.2]) = true
  simp [PySem.W.alike, PySem.W.alikeAll]
theorem alike_kP (a b : I2) : PySem.W.alike (kPy (kP a)) (kPy (kP b)) = true := alike_pt a b
theorem flats_ptP (L : List I2) : D.flats 60 (L.map ptP) = true := by
  induction L with
  | nil => rfl
  | cons a L ih =>
    show (D.flat 60 (ptP a) && D.flats 60 (L.map ptP)) = true
    rw [ih]
    rfl
theorem sortOk_pts (L : List I2) : sortOk (L.map ptP) = true := by
  unfold sortOk
  rw [flats_ptP, Bool.true_and, Bool.and_eq_true, List.all_eq_true]
  refine ⟨fun d hd => List.all_eq_true.mpr fun e he => ?_, ?_⟩
  · obtain ⟨a, _, rfl⟩ := List.mem_map.mp hd
    obtain ⟨b, _, rfl⟩ := List.mem_map.mp he
    exact alike_pt a b
  · rw [Bool.or_eq_true]
    refine .inl (List.all_eq_true.mpr fun d hd => ?_)
    obtain ⟨a, _, rfl⟩ := List.mem_map.mp hd
    rfl
theorem keysOk_pts (L : List I2) : keysOk (L.map kP) = true := by
  unfold keysOk
  refine List.all_eq_true.mpr fun d hd => ?_
  obtain ⟨a, _, rfl⟩ := List.mem_map.mp hd
  rw [Bool.and_eq_true]
  refine ⟨rfl, List.all_eq_true.mpr fun e he => ?_⟩
  obtain ⟨b, _, rfl⟩ := List.mem_map.mp he
  exact alike_kP a b
theorem dSorted_pts (L : List I2) : dSorted (.lst (L.map ptP)) = some ((L.mergeSort leP).map ptP) := by
  show (if sortOk (L.map ptP) = true then some ((L.map ptP).mergeSort dSle) else none) = _
  rw [if_pos (sortOk_pts L), sort_pts]
theorem dSorted_keys (L : List I2) (vs : List D) : dSorted (.dct (L.map kP) vs) = some ((L.mergeSort leP).map ptP) := by
  show (if keysOk (L.map kP) = true then some (((L.map kP).mergeSort kLe).map kDs) else none) = _
  rw [if_pos (keysOk_pts L), sort_keys, List.map_map]
  rfl
/-- each once, by its first place -/
def ded (L : List I2) : List I2 := L.foldl (fun acc a => if a ∈ acc then acc else acc ++ [a]) []
theorem ded_go : ∀ (L acc : List I2), acc.Pairwise ltP2 → (∀ a ∈ acc, ∀ b ∈ L, leP a b = true) → (L.Pairwise fun a b => leP a b = true) →
    (L.foldl (fun acc a => if a ∈ acc then acc else acc ++ [a]) acc).Pairwise ltP2 ∧ ∀ a, a ∈ L.foldl (fun acc a => if a ∈ acc then acc else acc ++ [a]) acc ↔ a ∈ acc ∨ a ∈ L
  | [], acc, h, _, _ => ⟨h, fun a => by simp⟩
  | x :: L, acc, h, hl, hp => by
    obtain ⟨p1, p2⟩ := List.pairwise_cons.mp hp
    rw [List.foldl_cons]
    by_cases hx : x ∈ acc
    · rw [if_pos hx]
      obtain ⟨g1, g2⟩ := ded_go L acc h (fun a ha b hb => hl a ha b (List.mem_cons_of_mem _ hb)) p2
      refine ⟨g1, fun a => ?_⟩
      rw [g2, List.mem_cons]
      constructor
      · rintro (q | q)
        · exact .inl q
        · exact .inr (.inr q)
      · rintro (q | q | q)
        · exact .inl q
        · rw [q]; exact .inl hx
        · exact .inr q
    · rw [if_neg hx]
      obtain ⟨g1, g2⟩ := ded_go L (acc ++ [x]) (List.pairwise_append.mpr ⟨h, List.pairwise_singleton _ _, fun a ha b hb => by
        rw [List.mem_singleton.mp hb]
        have q := leP_iff.mp (hl a ha x List.mem_cons_self)
        have ne : ¬(a.1 = x.1 ∧ a.2 = x.2) := fun z => hx (by rw [← show a = x from Prod.ext z.1 z.2]; exact ha)
        unfold ltP2
        omega⟩) (fun a ha b hb => by
        rcases List.mem_append.mp ha with q | q
        · exact hl a q b (List.mem_cons_of_mem _ hb)
        · rw [List.mem_singleton.mp q]; exact p1 b hb) p2
      refine ⟨g1, fun a => ?_⟩
      rw [g2, List.mem_append, List.mem_singleton, List.mem_cons]
      constructor
      · rintro ((q | q) | q)
        · exact .inl q
        · exact .inr (.inl q)
        · exact .inr (.inr q)
      · rintro (q | q | q)
        · exact .inl (.inl q)
        · exact .inl (.inr q)
        · exact .inr q
/-- the things of a list, each once, in order -/
def can (L : List I2) : List I2 := ded (L.mergeSort leP)
theorem can_pw (L : List I2) : (can L).Pairwise ltP2 := (ded_go _ [] .nil (fun _ h => by cases h) (sort_pw L)).1
theorem can_mem {L : List I2} {a : I2} : a ∈ can L ↔ a ∈ L := by
  unfold can ded
  rw [(ded_go _ [] .nil (fun _ h => by cases h) (sort_pw L)).2 a, sort_mem]
  simp
theorem ltP2_asym (a b : I2) (h1 : ltP2 a b) (h2 : ltP2 b a) : False := by
  unfold ltP2 at *
  omega
theorem pw_nodup {L : List I2} (h : L.Pairwise ltP2) : L.Nodup := h.imp fun {a b} q e => by
  subst e
  exact ltP2_asym a a q q
theorem pw_ext {L M : List I2} (h1 : L.Pairwise ltP2) (h2 : M.Pairwise ltP2) (h : ∀ a, a ∈ L ↔ a ∈ M) : L = M := sorted_ext ltP2_asym h1 h2 h
theorem sort_lt {L : List I2} (h : L.Nodup) : (L.mergeSort leP).Pairwise ltP2 := by
  have h1 := sort_pw L
  have h2 : (L.mergeSort leP).Nodup := (List.mergeSort_perm L leP).nodup_iff.mpr h
  exact (h1.and h2).imp fun {a b} ⟨q1, q2⟩ => by
    have q1 := leP_iff.mp q1
    have ne : ¬(a.1 = b.1 ∧ a.2 = b.2) := fun z => q2 (Prod.ext z.1 z.2)
    unfold ltP2
    omega
theorem can_ext {L M : List I2} (h : ∀ a, a ∈ L ↔ a ∈ M) : can L = can M := pw_ext (can_pw L) (can_pw M) fun a => by rw [can_mem, can_mem, h]
theorem can_self {L : List I2} (h : L.Pairwise ltP2) : can L = L := pw_ext (can_pw L) h fun a => can_mem
theorem ded_len : ∀ (L acc : List I2), (L.foldl (fun acc a => if a ∈ acc then acc else acc ++ [a]) acc).length ≤ acc.length + L.length
  | [], acc => by simp
  | x :: L, acc => by
    rw [List.foldl_cons]
    by_cases hx : x ∈ acc
    · rw [if_pos hx]
      have := ded_len L acc
      rw [List.length_cons]
      omega
    · rw [if_neg hx]
      have := ded_len L (acc ++ [x])
      rw [List.length_append] at this
      simp only [List.length_cons, List.length_nil] at this ⊢
      omega
theorem can_len (L : List I2) : (can L).length ≤ L.length := by
  have := ded_len (L.mergeSort leP) []
  rw [(List.mergeSort_perm L leP).length_eq] at this
  simpa [can, ded] using this
/-- a dict comprehension, its things and keys told -/
theorem dcompM_ev {g : MG} {c : MB} {ek ev : M} {vs : List Nat} {s0 : Env} {κ : D → List Key} {ζ : D → D} : ∀ {ds : List D} {acc : Dc}, (∀ d ∈ ds, ∃ s1 s2 s3 s4 kd, g d s0 = some s1 ∧ c s1 = .ok true s2 ∧ ek s2 = .ok kd s3 ∧ keyOf kd = some (κ d) ∧ ev s3 = .ok (ζ d) s4 ∧ swipe s4 vs = s0) → acc.1.length + ds.length < 16000000 →
    dcompM g c ek ev vs ds s0 acc = .ok (ds.foldl (fun (a : Dc) d => ((putKs a.1 (κ d), putV a.1 a.2 (κ d) (ζ d)) : Dc)) acc) s0
  | [], acc, _, _ => rfl
  | d :: ds, acc, h, hl => by
    obtain ⟨s1, s2, s3, s4, kd, e1, e2, e3, e4, e5, e6⟩ := h d List.mem_cons_self
    have hl : acc.1.length + (ds.length + 1) < 16000000 := hl
    have hlt : acc.1.length < 16000000 := by omega
    unfold dcompM
    rw [e1]
    simp only []
    rw [e2, R.bind_ok, if_pos rfl, e3, R.bind_ok, e5, R.bind_ok, e4]
    simp only []
    rw [if_pos hlt, e6, dcompM_ev (fun d hd => h d (List.mem_cons_of_mem _ hd)) (by
      have := putKs_le (ks := acc.1) (k := κ d)
      show (putKs acc.1 (κ d)).length + ds.length < 16000000
      omega), List.foldl_cons]
theorem putKs_map (L : List I2) (a : I2) : putKs (L.map kP) (kP a) = (if a ∈ L then L else L ++ [a]).map kP := by
  unfold putKs
  rw [memK_pt]
  by_cases h : a ∈ L
  · rw [decide_eq_true h, if_pos rfl, if_pos h]
  · rw [decide_eq_false h, if_neg (by decide), if_neg h, List.map_append]
    rfl
/-- .. of points, all with one value -/
theorem fold_const (z : D) : ∀ (L acc : List I2), (L.map ptP).foldl (fun (a : Dc) d => ((putKs a.1 (kP (toI d)), putV a.1 a.2 (kP (toI d)) z) : Dc)) (acc.map kP, List.replicate acc.length z) =
    ((L.foldl (fun acc a => if a ∈ acc then acc else acc ++ [a]) acc).map kP, List.replicate (L.foldl (fun acc a => if a ∈ acc then acc else acc ++ [a]) acc).length z)
  | [], acc => rfl
  | a :: L, acc => by
    rw [List.map_cons, List.foldl_cons, List.foldl_cons]
    have e2 : putV (acc.map kP) (List.replicate acc.length z) (kP a) z = List.replicate (if a ∈ acc then acc else acc ++ [a]).length z := by
      unfold putV
      rw [memK_pt]
      by_cases h : a ∈ acc
      · rw [decide_eq_true h, if_pos rfl, if_pos h]
        refine List.eq_replicate_iff.mpr ⟨by rw [List.length_map, List.length_zip, List.length_map, List.length_replicate, Nat.min_self], fun b hb => ?_⟩
        obtain ⟨q, hq, rfl⟩ := List.mem_map.mp hb
        split
        · rfl
        · exact (List.mem_replicate.mp (List.of_mem_zip hq).2).2
      · rw [decide_eq_false h, if_neg (by decide), if_neg h, List.length_append]
        exact (List.replicate_succ' ..).symm
    show List.foldl _ (putKs (acc.map kP) (kP a), putV (acc.map kP) (List.replicate acc.length z) (kP a) z) _ = _
    rw [putKs_map, e2]
    exact fold_const z L _
def isCut (w p s : Int) (a : I2) : Prop := Cut w p s a.1 a.2
def upI (w p s : Int) (a : I2) : List I2 := [(ups2 a.1 a.2).1, (ups2 a.1 a.2).2].filter fun b => upq w p s (ptP b)
theorem upI_map (w p s : Int) (a : I2) : [ptP (ups2 a.1 a.2).1, ptP (ups2 a.1 a.2).2].filter (upq w p s) = (upI w p s a).map ptP := by
  show ([(ups2 a.1 a.2).1, (ups2 a.1 a.2).2].map ptP).filter (upq w p s) = _
  rw [List.filter_map]
  rfl
theorem upI_cut {w p s : Int} (h : Plan w p s) {a b : I2} (hb : b ∈ upI w p s a) : isCut w p s b := Cut.of h (List.mem_filter.mp hb).2
theorem upI_len {w p s : Int} {a : I2} : (upI w p s a).length ≤ 2 := List.length_filter_le _ _
theorem upI_up {w p s : Int} {a b : I2} (hb : b ∈ upI w p s a) : b = (ups2 a.1 a.2).1 ∨ b = (ups2 a.1 a.2).2 := by
  have := (List.mem_filter.mp hb).1
  simpa using this
theorem par_ev {w p s : Int} {a : I2} (h : isCut w p s a) : f_parents [pl w p s, ptP a] = .ok (.lst ((upI w p s a).map ptP)) [none, none] := by
  rw [← upI_map]
  exact parents_ev h
theorem lups_ev {w p s : Int} (h : Plan w p s) (a : I2) : f_lw_ups [pl w p s, ptP a] = .ok (.lst ((upI w p s a).map ptP)) [none, none] := by
  rw [← upI_map]
  exact lw_ups_ev h
theorem noted_ev {w p s : Int} {S : List I2} (hS : ∀ a ∈ S, isCut w p s a) (hl : S.length < 16000000) : f_noted [pl w p s, .lst (S.map ptP)] = .ok (.dct ((can S).map kP) (List.replicate (can S).length (.bl true))) [none, none] := by
  refine run_eq f_noted_eq (by conv => lhs; simp) ?_
  refine for_step (ds := S.map ptP) (s0 := [some (pl w p s), some (.lst (S.map ptP)), none]) (fun rest st => (∀ d ∈ rest, ∃ a ∈ S, d = ptP a) ∧ ∃ o, st = [some (pl w p s), some (.lst (S.map ptP)), o]) rfl (by first | simp [sSeq, sSet, sRet, sRetN, sExp, sIf, sNil, sAsg, sPar, mVar, mK, mOp, mUn, mTst_e, tstK, mAnd, mOr, mNot, mAndV_e, andK, mOrV_e, orK, mNotV_e, notK, mIf, mEq, mNe, dEq_int, dEq_bl, mIsN, D.isNon, mCons, mNil, mTup, mLst, mMov, mCall, bLen, bAbs, mIsi, isT, D.isDct, mCallF_e, callK, callO, callR, fill, puts, mOwnA, gN, gT, gC, gE, SO.opt, dAdd, dSub, dLt, dLe, dGt, dGe, dNeg, mChain_e, chK, mTru, dTru, mSeqI, mRng, msk, ix2_0, ix2_1, ix3_0, ix3_1, ix3_2, mDNew, mMov, SO.opt] | simp [sSeq, sSet, sRet, sRetN, sExp, sIf, sNil, sAsg, sPar, mVar, mK, mOp, mUn, mTst_e, tstK, mAnd, mOr, mNot, mAndV_e, andK, mOrV_e, orK, mNotV_e, notK, mIf, mEq, mNe, dEq_int, dEq_bl, mIsN, D.isNon, mCons, mNil, mTup, mLst, mMov, mCall, bLen, bAbs, mIsi, isT, D.isDct, mCallF_e, callK, callO, callR, fill, puts, mOwnA, gN, gT, gC, gE, SO.opt, dAdd, dSub, dLt, dLe, dGt, dGe, dNeg, mChain_e, chK, mTru, dTru, mSeqI, mRng, msk, ix2_0, ix2_1, ix3_0, ix3_1, ix3_2, mDNew, mMov, SO.opt, mSeqE]) ⟨fun d hd => by
    obtain ⟨a, ha, rfl⟩ := List.mem_map.mp hd
    exact ⟨a, ha, rfl⟩, none, rfl⟩ (fun d rest st ⟨hd, o, es⟩ => ?_) fun st ⟨_, o, es⟩ => ?_
  · subst es
    obtain ⟨a, ha, rfl⟩ := hd d List.mem_cons_self
    refine ⟨_, rfl, ?_⟩
    have e := cut_only_ev (hS a ha)
    generalize pl w p s = PL at *
    refine nx_is (by conv => lhs; simp [sSeq, sSet, sRet, sRetN, sExp, sIf, sNil, sAsg, sPar, mVar, mK, mOp, mUn, mTst_e, tstK, mAnd, mOr, mNot, mAndV_e, andK, mOrV_e, orK, mNotV_e, notK, mIf, mEq, mNe, dEq_int, dEq_bl, mIsN, D.isNon, mCons, mNil, mTup, mLst, mMov, mCall, bLen, bAbs, mIsi, isT, D.isDct, mCallF_e, callK, callO, callR, fill, puts, mOwnA, gN, gT, gC, gE, SO.opt, dAdd, dSub, dLt, dLe, dGt, dGe, dNeg, mChain_e, chK, mTru, dTru, mSeqI, mRng, msk, ix2_0, ix2_1, ix3_0, ix3_1, ix3_2, mDNew, mMov, SO.opt, m_noted_2, e]) ?_
    exact ⟨fun d hd' => hd d (List.mem_cons_of_mem _ hd'), _, rfl⟩
  · subst es
    have e := dcompM_ev (g := gN 2) (c := mYes) (ek := mVar 2) (ev := mK (.bl true)) (vs := [2]) (s0 := [some (pl w p s), some (.lst (S.map ptP)), none]) (κ := fun d => kP (toI d)) (ζ := fun _ => .bl true) (ds := (S.mergeSort leP).map ptP) (acc := ([], [])) (fun d hd => by
      obtain ⟨a, ha, rfl⟩ := List.mem_map.mp hd
      exact ⟨[some (pl w p s), some (.lst (S.map ptP)), some (ptP a)], [some (pl w p s), some (.lst (S.map ptP)), some (ptP a)], [some (pl w p s), some (.lst (S.map ptP)), some (ptP a)], [some (pl w p s), some (.lst (S.map ptP)), some (ptP a)], ptP a, rfl, rfl, rfl, rfl, rfl, rfl⟩) (by
        rw [List.length_map, (List.mergeSort_perm _ _).length_eq]
        simpa using hl)
    have f := fold_const (.bl true) (S.mergeSort leP) []
    rw [show (([] : List I2).map kP, List.replicate ([] : List I2).length (D.bl true)) = (([], []) : Dc) from rfl] at f
    rw [f] at e
    have hd := dSorted_pts S
    refine nx_is (o := .rt (.dct ((can S).map kP) (List.replicate (can S).length (.bl true))) [some (pl w p s), some (.lst (S.map ptP)), o]) ?_ rfl
    have em : ∀ f : D → Option (List D), f (.lst (S.map ptP)) = some ((S.mergeSort leP).map ptP) → (mSeqI (mNewL f (mVar 1))) [some (pl w p s), some (.lst (S.map ptP)), o] = .ok ((S.mergeSort leP).map ptP) [some (pl w p s), some (.lst (S.map ptP)), o] := fun f hd => by
      generalize pl w p s = PL at *
      simp [sSeq, sSet, sRet, sRetN, sExp, sIf, sNil, sAsg, sPar, mVar, mK, mOp, mUn, mTst_e, tstK, mAnd, mOr, mNot, mAndV_e, andK, mOrV_e, orK, mNotV_e, notK, mIf, mEq, mNe, dEq_int, dEq_bl, mIsN, D.isNon, mCons, mNil, mTup, mLst, mMov, mCall, bLen, bAbs, mIsi, isT, D.isDct, mCallF_e, callK, callO, callR, fill, puts, mOwnA, gN, gT, gC, gE, SO.opt, dAdd, dSub, dLt, dLe, dGt, dGe, dNeg, mChain_e, chK, mTru, dTru, mSeqI, mRng, msk, ix2_0, ix2_1, ix3_0, ix3_1, ix3_2, mDNew, mMov, SO.opt, mNewL, hd]
    unfold m_noted_3 sRet mDComp
    first
      | rw [em dSorted hd, R.bind_ok]
      | rw [em dSortedA hd, R.bind_ok]
    have ew : swipe [some (pl w p s), some (.lst (S.map ptP)), o] [2] = [some (pl w p s), some (.lst (S.map ptP)), none] := rfl
    rw [ew, e]
    rfl
/-- what a list of cuts leans on -/
inductive Rch (w p s : Int) (S : List I2) : I2 → Prop
  | base {a : I2} : a ∈ S → Rch w p s S a
  | up {a b : I2} : Rch w p s S a → b ∈ upI w p s a → Rch w p s S b
theorem Rch.cut {w p s : Int} {S : List I2} (h : Plan w p s) (hS : ∀ a ∈ S, isCut w p s a) {a : I2} (r : Rch w p s S a) : isCut w p s a := by
  induction r with
  | base h => exact hS _ h
  | up _ hb _ => exact upI_cut h hb
/-- closed under what it leans on: all that is reached is there -/
theorem Rch.least {w p s : Int} {S T : List I2} (h : ∀ a ∈ S, a ∈ T) (hT : ∀ a ∈ T, ∀ b ∈ upI w p s a, b ∈ T) {a : I2} (r : Rch w p s S a) : a ∈ T := by
  induction r with
  | base q => exact h _ q
  | up _ hb ih => exact hT _ ih _ hb
def cutI (w p s : Int) : List I2 := (cutL w p s).map toI
theorem cutI_has {w p s : Int} {a : I2} (h : isCut w p s a) : a ∈ cutI w p s := List.mem_map.mpr ⟨_, cutL_has h, rfl⟩
theorem cutI_cut {w p s : Int} (h : Plan w p s) {a : I2} (ha : a ∈ cutI w p s) : isCut w p s a := by
  obtain ⟨d, hd, rfl⟩ := List.mem_map.mp ha
  obtain ⟨x, y, rfl, hc⟩ := cutL_mem h hd
  exact hc
theorem cutI_map {w p s : Int} (h : Plan w p s) : (cutI w p s).map ptP = cutL w p s := by
  unfold cutI
  rw [List.map_map]
  refine (List.map_congr_left fun d hd => ?_).trans (List.map_id _)
  obtain ⟨x, y, rfl, hc⟩ := cutL_mem h hd
  rfl
theorem cutI_len {w p s : Int} (h : Plan w p s) : (cutI w p s).length ≤ 625 := by
  have k := h.sm
  unfold cutI cutL plc
  rw [List.length_map]
  refine Nat.le_trans (List.length_filter_le _ _) ?_
  rw [pairs_len, rng_len, rng_len]
  have h1 : (w * s + 1).toNat ≤ 25 := by omega
  have h2 : (p * s + 1).toNat ≤ 25 := by omega
  exact Nat.mul_le_mul h1 h2
/-- how many of a list are not yet there -/
def left (L ks : List I2) : Nat := (L.filter fun a => decide (a ∉ ks)).length
theorem left_le (L ks : List I2) : left L ks ≤ L.length := List.length_filter_le _ _
theorem left_mono {ks : List I2} {b : I2} : ∀ L : List I2, left L (ks ++ [b]) ≤ left L ks
  | [] => Nat.le_refl _
  | a :: L => by
    have ih := left_mono (ks := ks) (b := b) L
    unfold left at ih ⊢
    rw [List.filter_cons, List.filter_cons]
    by_cases h1 : a ∈ ks
    · have h2 : a ∈ ks ++ [b] := List.mem_append_left _ h1
      rw [if_neg (fun z => absurd h2 (of_decide_eq_true z)), if_neg (fun z => absurd h1 (of_decide_eq_true z))]
      exact ih
    · rw [if_pos (c := decide (a ∉ ks) = true) (decide_eq_true h1)]
      split
      · rw [List.length_cons, List.length_cons]; omega
      · rw [List.length_cons]; omega
theorem left_add {ks : List I2} {b : I2} (hb : b ∉ ks) : ∀ {L : List I2}, b ∈ L → left L (ks ++ [b]) + 1 ≤ left L ks
  | [], h => by cases h
  | a :: L, h => by
    by_cases e : b = a
    · subst e
      have ih := left_mono (ks := ks) (b := b) L
      unfold left at ih ⊢
      rw [List.filter_cons, List.filter_cons, if_neg (fun z => absurd (List.mem_append_right ks (List.mem_singleton.mpr rfl)) (of_decide_eq_true z)), if_pos (decide_eq_true hb), List.length_cons]
      omega
    · have h : b ∈ L := (List.mem_cons.mp h).resolve_left e
      have ih := left_add hb h
      unfold left at ih ⊢
      rw [List.filter_cons, List.filter_cons]
      by_cases h1 : a ∈ ks
      · have h2 : a ∈ ks ++ [b] := List.mem_append_left _ h1
        rw [if_neg (fun z => absurd h2 (of_decide_eq_true z)), if_neg (fun z => absurd h1 (of_decide_eq_true z))]
        exact ih
      · have h2 : ¬a ∈ ks ++ [b] := fun q => by
          rcases List.mem_append.mp q with q | q
          · exact h1 q
          · exact e (List.mem_singleton.mp q).symm
        rw [if_pos (decide_eq_true h2), if_pos (decide_eq_true h1), List.length_cons, List.length_cons]
        omega
theorem putV_new {ks : List I2} {vs : List D} {b : I2} {z : D} (hn : b ∉ ks) : putV (ks.map kP) vs (kP b) z = vs ++ [z] := by
  unfold putV
  rw [memK_pt, decide_eq_false hn, if_neg (by decide)]
theorem putKs_new {ks : List I2} {b : I2} (hn : b ∉ ks) : putKs (ks.map kP) (kP b) = (ks ++ [b]).map kP := by
  rw [putKs_map, if_neg hn]
theorem dInD_pt {ks : List I2} {vs : List D} {b : I2} : dInD (ptP b) (.dct (ks.map kP) vs) = some (decide (b ∈ ks)) := by
  show some (memK (ks.map kP) (kP b)) = _
  rw [memK_pt]
theorem lastI {L : List I2} (h : L ≠ []) : ∃ (i : List I2) (x : I2), L = i ++ [x] := ⟨L.dropLast, L.getLast h, (List.dropLast_concat_getLast h).symm⟩
theorem lenO_last {x y z o4 : Option D} {ti : List I2} {a : I2} : mTst (mOp dGt (mLenO 3) (mK (.int 0))) [x, y, z, some (.lst ((ti ++ [a]).map ptP)), o4] = .ok true [x, y, z, some (.lst ((ti ++ [a]).map ptP)), o4] := by
  have hp : (0 : Int) < (((ti ++ [a]).map ptP).length : Nat) := by rw [List.map_append, List.length_append]; simp only [List.map_cons, List.map_nil, List.length_cons, List.length_nil]; omega
  generalize (ti ++ [a]).map ptP = W at *
  have hd : decide ((0 : Int) < (W.length : Nat)) = true := decide_eq_true hp
  show R.ok (decide ((0 : Int) < (W.length : Nat))) _ = _
  rw [hd]
theorem lw_closed_ev {w p s : Int} (h : Plan w p s) {S : List I2} (hS : ∀ a ∈ S, isCut w p s a) (hl : S.length ≤ 2000) : ∃ M : List I2, f_lw_closed [pl w p s, .lst (S.map ptP)] = .ok (.lst (M.map ptP)) [none, none] ∧ M.Pairwise ltP2 ∧ (∀ a, a ∈ M ↔ Rch w p s S a) ∧ M.length ≤ 625 := by
  refine run_go f_lw_closed_eq (Q := fun r => ∃ M : List I2, r = .ok (.lst (M.map ptP)) [none, none] ∧ M.Pairwise ltP2 ∧ (∀ a, a ∈ M ↔ Rch w p s S a) ∧ M.length ≤ 625) (by conv => lhs; simp) ?_
  refine nx_step rfl (by conv => lhs; simp [sSeq, sSet, sRet, sRetN, sExp, sIf, sNil, sAsg, sPar, mVar, mK, mOp, mUn, mTst_e, tstK, mAnd, mOr, mNot, mAndV_e, andK, mOrV_e, orK, mNotV_e, notK, mIf, mEq, mNe, dEq_int, dEq_bl, mIsN, D.isNon, mCons, mNil, mTup, mLst, mMov, mCall, bLen, bAbs, mIsi, isT, D.isDct, mCallF_e, callK, callO, callR, fill, puts, mOwnA, gN, gT, gC, gE, SO.opt, dAdd, dSub, dLt, dLe, dGt, dGe, dNeg, mChain_e, chK, mTru, dTru, mSeqI, mRng, msk, ix2_0, ix2_1, ix3_0, ix3_1, ix3_2, mDNew, mMov, SO.opt]) ?_
  have e2 : sSet 3 (mNewL dList (mVar 1)) [some (pl w p s), some (.lst (S.map ptP)), some (.dct [] []), none, none] = .nx [some (pl w p s), some (.lst (S.map ptP)), some (.dct [] []), some (.lst (S.map ptP)), none] := rfl
  refine nx_step rfl e2 ?_
  have hL := cutI_len h
  have hL2 := left_le (cutI w p s) []
  refine while_step (k := S.length + 2 * left (cutI w p s) []) (fun k st => ∃ (ks : List I2) (vs : List D) (td : List I2) (o4 : Option D), st = [some (pl w p s), some (.lst (S.map ptP)), some (.dct (ks.map kP) vs), some (.lst (td.map ptP)), o4] ∧ ks.Nodup ∧ vs.length = ks.length ∧ (∀ a ∈ ks, Rch w p s S a) ∧ (∀ a ∈ td, Rch w p s S a) ∧ (∀ a ∈ S, a ∈ ks ∨ a ∈ td) ∧ (∀ a ∈ ks, ∀ b ∈ upI w p s a, b ∈ ks ∨ b ∈ td) ∧ td.length + 2 * left (cutI w p s) ks ≤ k ∧ k ≤ 4000 ∧ ks.length + left (cutI w p s) ks ≤ 625) rfl (by show _ < 6000; omega) ⟨[], [], S, none, rfl, List.nodup_nil, rfl, fun _ h => (by cases h), fun a ha => .base ha, fun a ha => .inr ha, fun _ h => (by cases h), Nat.le_refl _, by omega, by simp only [List.length_nil]; omega⟩ (fun k st ⟨ks, vs, td, o4, es, nd, le, r1, r2, hs, cl, hk, hk2, hkl⟩ => ?_)
  subst es
  by_cases hw : td = []
  · subst hw
    refine ⟨false, _, rfl, ?_⟩
    rw [if_neg (by decide)]
    have hd := dSorted_keys ks vs
    have e3 : m_lw_closed_8 [some (pl w p s), some (.lst (S.map ptP)), some (.dct (ks.map kP) vs), some (.lst (([] : List I2).map ptP)), o4] = .rt (.lst ((ks.mergeSort leP).map ptP)) [some (pl w p s), some (.lst (S.map ptP)), some (.dct (ks.map kP) vs), some (.lst (([] : List I2).map ptP)), o4] := by
      generalize pl w p s = PL at *
      simp [sSeq, sSet, sRet, sRetN, sExp, sIf, sNil, sAsg, sPar, mVar, mK, mOp, mUn, mTst_e, tstK, mAnd, mOr, mNot, mAndV_e, andK, mOrV_e, orK, mNotV_e, notK, mIf, mEq, mNe, dEq_int, dEq_bl, mIsN, D.isNon, mCons, mNil, mTup, mLst, mMov, mCall, bLen, bAbs, mIsi, isT, D.isDct, mCallF_e, callK, callO, callR, fill, puts, mOwnA, gN, gT, gC, gE, SO.opt, dAdd, dSub, dLt, dLe, dGt, dGe, dNeg, mChain_e, chK, mTru, dTru, mSeqI, mRng, msk, ix2_0, ix2_1, ix3_0, ix3_1, ix3_2, mDNew, mMov, SO.opt, m_lw_closed_8, mSortedO, hd]
    refine nx_is e3 ⟨ks.mergeSort leP, rfl, sort_lt nd, fun a => ?_, by rw [(List.mergeSort_perm _ _).length_eq]; omega⟩
    rw [sort_mem]
    refine ⟨r1 a, fun r => Rch.least (fun a ha => (hs a ha).elim id fun q => (by cases q)) (fun a ha b hb => (cl a ha b hb).elim id fun q => by cases q) r⟩
  · obtain ⟨ti, a, rfl⟩ := lastI hw
    have ra : Rch w p s S a := r2 a (by simp)
    refine ⟨true, _, lenO_last, ?_⟩
    rw [if_pos rfl]
    rw [List.length_append] at hk
    simp only [List.length_cons, List.length_nil] at hk
    refine ⟨by omega, ?_⟩
    have e3 : sSet 4 (mPop 3) [some (pl w p s), some (.lst (S.map ptP)), some (.dct (ks.map kP) vs), some (.lst ((ti ++ [a]).map ptP)), o4] = .nx [some (pl w p s), some (.lst (S.map ptP)), some (.dct (ks.map kP) vs), some (.lst (ti.map ptP)), some (ptP a)] := by
      rw [List.map_append]
      unfold sSet mPop
      simp
    refine nx_step rfl e3 ?_
    have hin := dInD_pt (ks := ks) (vs := vs) (b := a)
    by_cases hak : a ∈ ks
    · rw [decide_eq_true hak] at hin
      generalize pl w p s = PL at *
      refine nx_is (by conv => lhs; simp [sSeq, sSet, sRet, sRetN, sExp, sIf, sNil, sAsg, sPar, mVar, mK, mOp, mUn, mTst_e, tstK, mAnd, mOr, mNot, mAndV_e, andK, mOrV_e, orK, mNotV_e, notK, mIf, mEq, mNe, dEq_int, dEq_bl, mIsN, D.isNon, mCons, mNil, mTup, mLst, mMov, mCall, bLen, bAbs, mIsi, isT, D.isDct, mCallF_e, callK, callO, callR, fill, puts, mOwnA, gN, gT, gC, gE, SO.opt, dAdd, dSub, dLt, dLe, dGt, dGe, dNeg, mChain_e, chK, mTru, dTru, mSeqI, mRng, msk, ix2_0, ix2_1, ix3_0, ix3_1, ix3_2, mDNew, mMov, SO.opt, m_lw_closed_5, mInO, hin]) ?_
      exact ⟨ti.length + 2 * left (cutI w p s) ks, by omega, ks, vs, ti, _, rfl, nd, le, r1, fun b hb => r2 b (List.mem_append_left _ hb), fun b hb => (hs b hb).elim .inl fun q => (List.mem_append.mp q).elim .inr fun z => .inl (by rw [List.mem_singleton.mp z]; exact hak), fun c hc b hb => (cl c hc b hb).elim .inl fun q => (List.mem_append.mp q).elim .inr fun z => .inl (by rw [List.mem_singleton.mp z]; exact hak), Nat.le_refl _, by omega, hkl⟩
    · rw [decide_eq_false hak] at hin
      have la := left_add hak (cutI_has (ra.cut h hS))
      have hlt : (ks.map kP).length < 16000000 := by rw [List.length_map]; omega
      have hu := upI_len (w := w) (p := p) (s := s) (a := a)
      have hlt2 : (ti.map ptP).length + ((upI w p s a).map ptP).length < 16000000 := by rw [List.length_map, List.length_map]; omega
      have pk := putKs_new hak
      have pv := putV_new (vs := vs) (z := D.bl true) hak
      have ko := keyOf_pt a
      have eu := lups_ev h a
      have ea : ti.map ptP ++ (upI w p s a).map ptP = (ti ++ upI w p s a).map ptP := by rw [List.map_append]
      refine nx_is (o := .nx [some (pl w p s), some (.lst (S.map ptP)), some (.dct ((ks ++ [a]).map kP) (vs ++ [.bl true])), some (.lst ((ti ++ upI w p s a).map ptP)), some (ptP a)]) (by
        rw [← ea, ← pk, ← pv]
        generalize pl w p s = PL at *
        generalize ptP a = A' at *
        generalize ks.map kP = K2 at *
        generalize ti.map ptP = W2 at *
        generalize (upI w p s a).map ptP = U2 at *
        simp [sSeq, sSet, sRet, sRetN, sExp, sIf, sNil, sAsg, sPar, mVar, mK, mOp, mUn, mTst_e, tstK, mAnd, mOr, mNot, mAndV_e, andK, mOrV_e, orK, mNotV_e, notK, mIf, mEq, mNe, dEq_int, dEq_bl, mIsN, D.isNon, mCons, mNil, mTup, mLst, mMov, mCall, bLen, bAbs, mIsi, isT, D.isDct, mCallF_e, callK, callO, callR, fill, puts, mOwnA, gN, gT, gC, gE, SO.opt, dAdd, dSub, dLt, dLe, dGt, dGe, dNeg, mChain_e, chK, mTru, dTru, mSeqI, mRng, msk, ix2_0, ix2_1, ix3_0, ix3_1, ix3_2, mDNew, mMov, SO.opt, m_lw_closed_5, m_lw_closed_6, m_lw_closed_7, mInO, hin, sPutO, dPut, ko, hlt, hlt2, sExt, eu]) ?_
      refine ⟨(ti ++ upI w p s a).length + 2 * left (cutI w p s) (ks ++ [a]), by rw [List.length_append]; omega, ks ++ [a], vs ++ [.bl true], ti ++ upI w p s a, _, rfl, List.nodup_append.mpr ⟨nd, by simp, fun x hx y hy e => ?_⟩, by rw [List.length_append, List.length_append, le]; rfl, fun x hx => ?_, fun x hx => ?_, fun x hx => ?_, fun c hc b hb => ?_, Nat.le_refl _, by rw [List.length_append]; omega, by simp only [List.length_append, List.length_cons, List.length_nil]; omega⟩
      · rw [List.mem_singleton.mp hy] at e
        rw [e] at hx
        exact hak hx
      · rcases List.mem_append.mp hx with q | q
        · exact r1 x q
        · rw [List.mem_singleton.mp q]; exact ra
      · rcases List.mem_append.mp hx with q | q
        · exact r2 x (List.mem_append_left _ q)
        · exact .up ra q
      · rcases hs x hx with q | q
        · exact .inl (List.mem_append_left _ q)
        · rcases List.mem_append.mp q with q | q
          · exact .inr (List.mem_append_left _ q)
          · exact .inl (List.mem_append_right _ q)
      · rcases List.mem_append.mp hc with q | q
        · rcases cl c q b hb with z | z
          · exact .inl (List.mem_append_left _ z)
          · rcases List.mem_append.mp z with z | z
            · exact .inr (List.mem_append_left _ z)
            · exact .inl (List.mem_append_right _ z)
        · rw [List.mem_singleton.mp q] at hb
          exact .inr (List.mem_append_right _ hb)
/-- a list comprehension over any turns, the state going on -/
theorem compM_inv {g : MG} {c : MB} {e : M} {vs : List Nat} {I : Env → Prop} {A : D → Prop} : ∀ {ds acc : List D} {s : Env}, I s → (∀ d ∈ acc, A d) → (∀ d ∈ ds, ∀ s, I s → ∃ s1 b s2, g d s = some s1 ∧ c s1 = .ok b s2 ∧ (b = false → I (swipe s2 vs)) ∧ (b = true → ∃ z s3, e s2 = .ok z s3 ∧ A z ∧ I (swipe s3 vs))) → acc.length + ds.length < 16000000 →
    ∃ zs s', compM g c e vs ds s acc = .ok zs s' ∧ I s' ∧ (∀ z ∈ zs, A z) ∧ zs.length ≤ acc.length + ds.length
  | [], acc, s, hI, hA, _, _ => ⟨acc, s, rfl, hI, hA, by simp⟩
  | d :: ds, acc, s, hI, hA, h, hl => by
    obtain ⟨s1, b, s2, e1, e2, h0, h1⟩ := h d List.mem_cons_self s hI
    have hl : acc.length + (ds.length + 1) < 16000000 := hl
    have hlt : acc.length < 16000000 := by omega
    unfold compM
    rw [e1]
    simp only []
    rw [e2, R.bind_ok]
    cases b with
    | false =>
      rw [if_neg (by decide)]
      obtain ⟨zs, s', q1, q2, q3, q4⟩ := compM_inv (h0 rfl) hA (fun d hd => h d (List.mem_cons_of_mem _ hd)) (by omega)
      exact ⟨zs, s', q1, q2, q3, by rw [List.length_cons]; omega⟩
    | true =>
      obtain ⟨z, s3, e3, hz, h3⟩ := h1 rfl
      rw [if_pos rfl, e3, R.bind_ok, if_pos hlt]
      obtain ⟨zs, s', q1, q2, q3, q4⟩ := compM_inv (acc := acc ++ [z]) h3 (fun d hd => (List.mem_append.mp hd).elim (hA d) fun q => by rw [List.mem_singleton.mp q]; exact hz) (fun d hd => h d (List.mem_cons_of_mem _ hd)) (by rw [List.length_append]; simp only [List.length_cons, List.length_nil]; omega)
      refine ⟨zs, s', q1, q2, q3, ?_⟩
      rw [List.length_append] at q4
      simp only [List.length_cons, List.length_nil] at q4 ⊢
      omega
theorem mComp_inv {mi : MA} {g : MG} {c : MB} {e : M} {vs : List Nat} {s s1 : Env} {ds : List D} (I : Env → Prop) (A : D → Prop) (hi : mi s = .ok ds s1) (h0 : I (swipe s1 vs)) (h : ∀ d ∈ ds, ∀ s, I s → ∃ s1 b s2, g d s = some s1 ∧ c s1 = .ok b s2 ∧ (b = false → I (swipe s2 vs)) ∧ (b = true → ∃ z s3, e s2 = .ok z s3 ∧ A z ∧ I (swipe s3 vs))) (hl : ds.length < 16000000) :
    ∃ zs s', mComp mi g c e vs s = .ok (.lst zs) (srest s1 s' vs) ∧ I s' ∧ (∀ z ∈ zs, A z) ∧ zs.length ≤ ds.length := by
  obtain ⟨zs, s', q1, q2, q3, q4⟩ := compM_inv (acc := []) h0 (fun _ h => by cases h) h (by simpa using hl)
  refine ⟨zs, s', ?_, q2, q3, by simpa using q4⟩
  unfold mComp
  rw [hi, R.bind_ok, q1]
  rfl
theorem all_pts {P : I2 → Prop} : ∀ {L : List D}, (∀ d ∈ L, ∃ a, d = ptP a ∧ P a) → ∃ S : List I2, L = S.map ptP ∧ ∀ a ∈ S, P a
  | [], _ => ⟨[], rfl, fun _ h => by cases h⟩
  | d :: L, h => by
    obtain ⟨a, rfl, ha⟩ := h d List.mem_cons_self
    obtain ⟨S, rfl, hS⟩ := all_pts fun d hd => h d (List.mem_cons_of_mem _ hd)
    exact ⟨a :: S, rfl, fun b hb => (List.mem_cons.mp hb).elim (fun e => by rw [e]; exact ha) (hS b)⟩
theorem lwc_ev {w p s : Int} (h : Plan w p s) : f_lw_cuts [pl w p s] = .ok (.lst ((cutI w p s).map ptP)) [none] := by
  rw [cutI_map h]
  exact lw_cuts_ev h
theorem lw_picks_ev {w p s : Int} (h : Plan w p s) {b : D} (hb : IsBag b) : ∃ (S : List I2) (b' : D), f_lw_picks [b, pl w p s] = .ok (.lst (S.map ptP)) [some b', none] ∧ IsBag b' ∧ (∀ a ∈ S, isCut w p s a) ∧ S.length ≤ 625 := by
  have hc := lwc_ev h
  have hC := cutI_len h
  have hp : 0 < ((cutI w p s).map ptP).length := by rw [cutI_map h]; exact cutL_pos h
  have hA : ∀ d ∈ (cutI w p s).map ptP, ∃ a, d = ptP a ∧ isCut w p s a := fun d hd => by
    obtain ⟨a, ha, rfl⟩ := List.mem_map.mp hd
    exact ⟨a, rfl, cutI_cut h ha⟩
  obtain ⟨k, b1, e1, k0, k1, hb1⟩ := draw_lt (n := 11) hb (by decide) (by decide)
  have hL : ((cutI w p s).map ptP).length ≤ 625 := by rw [List.length_map]; exact hC
  refine run_go f_lw_picks_eq (Q := fun r => ∃ (S : List I2) (b' : D), r = .ok (.lst (S.map ptP)) [some b', none] ∧ IsBag b' ∧ (∀ a ∈ S, isCut w p s a) ∧ S.length ≤ 625) (by conv => lhs; simp) ?_
  have fin : ∀ (L : List D) (b' : D), (∀ d ∈ L, ∃ a, d = ptP a ∧ isCut w p s a) → L.length ≤ 625 → IsBag b' → ∃ (S : List I2) (b2 : D), (R.ok (D.lst L) [some b', none] : R D) = R.ok (D.lst (S.map ptP)) [some b2, none] ∧ IsBag b2 ∧ (∀ a ∈ S, isCut w p s a) ∧ S.length ≤ 625 := fun L b' hL hl hb' => by
    obtain ⟨S, rfl, hS⟩ := all_pts hL
    exact ⟨S, b', rfl, hb', hS, by simpa using hl⟩
  generalize (cutI w p s).map ptP = LC at *
  generalize hPL : pl w p s = PL at *
  refine nx_step rfl (by conv => lhs; simp [sSeq, sSet, sRet, sRetN, sExp, sIf, sNil, sAsg, sPar, mVar, mK, mOp, mUn, mTst_e, tstK, mAnd, mOr, mNot, mAndV_e, andK, mOrV_e, orK, mNotV_e, notK, mIf, mEq, mNe, dEq_int, dEq_bl, mIsN, D.isNon, mCons, mNil, mTup, mLst, mMov, mCall, bLen, bAbs, mIsi, isT, D.isDct, mCallF_e, callK, callO, callR, fill, puts, mOwnA, gN, gT, gC, gE, SO.opt, dAdd, dSub, dLt, dLe, dGt, dGe, dNeg, mChain_e, chK, mTru, dTru, mSeqI, mRng, msk, ix2_0, ix2_1, ix3_0, ix3_1, ix3_2, mDNew, mMov, SO.opt, hc]) ?_
  refine nx_step rfl (by conv => lhs; simp [sSeq, sSet, sRet, sRetN, sExp, sIf, sNil, sAsg, sPar, mVar, mK, mOp, mUn, mTst_e, tstK, mAnd, mOr, mNot, mAndV_e, andK, mOrV_e, orK, mNotV_e, notK, mIf, mEq, mNe, dEq_int, dEq_bl, mIsN, D.isNon, mCons, mNil, mTup, mLst, mMov, mCall, bLen, bAbs, mIsi, isT, D.isDct, mCallF_e, callK, callO, callR, fill, puts, mOwnA, gN, gT, gC, gE, SO.opt, dAdd, dSub, dLt, dLe, dGt, dGe, dNeg, mChain_e, chK, mTru, dTru, mSeqI, mRng, msk, ix2_0, ix2_1, ix3_0, ix3_1, ix3_2, mDNew, mMov, SO.opt, e1]) ?_
  by_cases c0 : (k == 0) = true
  · refine if_t rfl (by conv => lhs; simp [sSeq, sSet, sRet, sRetN, sExp, sIf, sNil, sAsg, sPar, mVar, mK, mOp, mUn, mTst_e, tstK, mAnd, mOr, mNot, mAndV_e, andK, mOrV_e, orK, mNotV_e, notK, mIf, mEq, mNe, dEq_int, dEq_bl, mIsN, D.isNon, mCons, mNil, mTup, mLst, mMov, mCall, bLen, bAbs, mIsi, isT, D.isDct, mCallF_e, callK, callO, callR, fill, puts, mOwnA, gN, gT, gC, gE, SO.opt, dAdd, dSub, dLt, dLe, dGt, dGe, dNeg, mChain_e, chK, mTru, dTru, mSeqI, mRng, msk, ix2_0, ix2_1, ix3_0, ix3_1, ix3_2, mDNew, mMov, SO.opt, c0]) ?_
    refine seqP_rt (by conv => lhs; simp [sSeq, sSet, sRet, sRetN, sExp, sIf, sNil, sAsg, sPar, mVar, mK, mOp, mUn, mTst_e, tstK, mAnd, mOr, mNot, mAndV_e, andK, mOrV_e, orK, mNotV_e, notK, mIf, mEq, mNe, dEq_int, dEq_bl, mIsN, D.isNon, mCons, mNil, mTup, mLst, mMov, mCall, bLen, bAbs, mIsi, isT, D.isDct, mCallF_e, callK, callO, callR, fill, puts, mOwnA, gN, gT, gC, gE, SO.opt, dAdd, dSub, dLt, dLe, dGt, dGe, dNeg, mChain_e, chK, mTru, dTru, mSeqI, mRng, msk, ix2_0, ix2_1, ix3_0, ix3_1, ix3_2, mDNew, mMov, SO.opt, m_lw_picks_4]) ?_
    exact fin [] b1 (fun _ h => by cases h) (by decide) hb1
  · have c0 : (k == 0) = false := by simpa using c0
    refine if_fn rfl (by conv => lhs; simp [sSeq, sSet, sRet, sRetN, sExp, sIf, sNil, sAsg, sPar, mVar, mK, mOp, mUn, mTst_e, tstK, mAnd, mOr, mNot, mAndV_e, andK, mOrV_e, orK, mNotV_e, notK, mIf, mEq, mNe, dEq_int, dEq_bl, mIsN, D.isNon, mCons, mNil, mTup, mLst, mMov, mCall, bLen, bAbs, mIsi, isT, D.isDct, mCallF_e, callK, callO, callR, fill, puts, mOwnA, gN, gT, gC, gE, SO.opt, dAdd, dSub, dLt, dLe, dGt, dGe, dNeg, mChain_e, chK, mTru, dTru, mSeqI, mRng, msk, ix2_0, ix2_1, ix3_0, ix3_1, ix3_2, mDNew, mMov, SO.opt, c0]) ?_
    by_cases c1 : (k == 1) = true
    · refine if_t rfl (by conv => lhs; simp [sSeq, sSet, sRet, sRetN, sExp, sIf, sNil, sAsg, sPar, mVar, mK, mOp, mUn, mTst_e, tstK, mAnd, mOr, mNot, mAndV_e, andK, mOrV_e, orK, mNotV_e, notK, mIf, mEq, mNe, dEq_int, dEq_bl, mIsN, D.isNon, mCons, mNil, mTup, mLst, mMov, mCall, bLen, bAbs, mIsi, isT, D.isDct, mCallF_e, callK, callO, callR, fill, puts, mOwnA, gN, gT, gC, gE, SO.opt, dAdd, dSub, dLt, dLe, dGt, dGe, dNeg, mChain_e, chK, mTru, dTru, mSeqI, mRng, msk, ix2_0, ix2_1, ix3_0, ix3_1, ix3_2, mDNew, mMov, SO.opt, c1]) ?_
      refine seqP_rt (by conv => lhs; simp [sSeq, sSet, sRet, sRetN, sExp, sIf, sNil, sAsg, sPar, mVar, mK, mOp, mUn, mTst_e, tstK, mAnd, mOr, mNot, mAndV_e, andK, mOrV_e, orK, mNotV_e, notK, mIf, mEq, mNe, dEq_int, dEq_bl, mIsN, D.isNon, mCons, mNil, mTup, mLst, mMov, mCall, bLen, bAbs, mIsi, isT, D.isDct, mCallF_e, callK, callO, callR, fill, puts, mOwnA, gN, gT, gC, gE, SO.opt, dAdd, dSub, dLt, dLe, dGt, dGe, dNeg, mChain_e, chK, mTru, dTru, mSeqI, mRng, msk, ix2_0, ix2_1, ix3_0, ix3_1, ix3_2, mDNew, mMov, SO.opt, m_lw_picks_6]) ?_
      exact fin LC b1 hA hL hb1
    · have c1 : (k == 1) = false := by simpa using c1
      refine if_fn rfl (by conv => lhs; simp [sSeq, sSet, sRet, sRetN, sExp, sIf, sNil, sAsg, sPar, mVar, mK, mOp, mUn, mTst_e, tstK, mAnd, mOr, mNot, mAndV_e, andK, mOrV_e, orK, mNotV_e, notK, mIf, mEq, mNe, dEq_int, dEq_bl, mIsN, D.isNon, mCons, mNil, mTup, mLst, mMov, mCall, bLen, bAbs, mIsi, isT, D.isDct, mCallF_e, callK, callO, callR, fill, puts, mOwnA, gN, gT, gC, gE, SO.opt, dAdd, dSub, dLt, dLe, dGt, dGe, dNeg, mChain_e, chK, mTru, dTru, mSeqI, mRng, msk, ix2_0, ix2_1, ix3_0, ix3_1, ix3_2, mDNew, mMov, SO.opt, c1]) ?_
      have turn : ∀ (q : Int → Bool) (n : Int) (tst : MB), 0 < n → n < 100 → (∀ (bb : D) (r : Int) (b2 : D) (z : D), drawF [bb, .int n] = .ok (.int r) [some b2, none] → tst [some bb, some PL, some (D.lst LC), some (D.int k), some z, none] = .ok (q r) [some b2, some PL, some (D.lst LC), some (D.int k), some z, none]) →
          ∃ (L : List D) (b' : D), mComp (mSeqI (mVar 2)) (gN 4) tst (mVar 4) [4] [some b1, some PL, some (D.lst LC), some (D.int k), none, none] = .ok (.lst L) [some b', some PL, some (D.lst LC), some (D.int k), none, none] ∧ (∀ d ∈ L, ∃ a, d = ptP a ∧ isCut w p s a) ∧ L.length ≤ 625 ∧ IsBag b' := fun q n tst n0 n1 ht => by
        obtain ⟨zs, s', q1, ⟨b', hb', rfl⟩, q3, q4⟩ := mComp_inv (mi := mSeqI (mVar 2)) (g := gN 4) (c := tst) (e := mVar 4) (vs := [4]) (s := [some b1, some PL, some (D.lst LC), some (D.int k), none, none]) (s1 := [some b1, some PL, some (D.lst LC), some (D.int k), none, none]) (ds := LC)
          (fun (st : Env) => ∃ bb : D, IsBag bb ∧ st = [some bb, some PL, some (D.lst LC), some (D.int k), none, none]) (fun d => ∃ a, d = ptP a ∧ isCut w p s a) rfl ⟨b1, hb1, rfl⟩ (fun d hd st ⟨bb, hbb, es⟩ => by
          subst es
          obtain ⟨r, b2, e2, _, _, hb2⟩ := draw_lt (n := n) hbb n0 (by omega)
          exact ⟨_, q r, _, rfl, ht bb r b2 d e2, fun _ => ⟨b2, hb2, rfl⟩, fun _ => ⟨d, _, rfl, hA d hd, b2, hb2, rfl⟩⟩) (by omega)
        exact ⟨zs, b', q1, q3, by omega, hb'⟩
      by_cases c2 : k < 4
      · refine if_t rfl (by conv => lhs; simp [sSeq, sSet, sRet, sRetN, sExp, sIf, sNil, sAsg, sPar, mVar, mK, mOp, mUn, mTst_e, tstK, mAnd, mOr, mNot, mAndV_e, andK, mOrV_e, orK, mNotV_e, notK, mIf, mEq, mNe, dEq_int, dEq_bl, mIsN, D.isNon, mCons, mNil, mTup, mLst, mMov, mCall, bLen, bAbs, mIsi, isT, D.isDct, mCallF_e, callK, callO, callR, fill, puts, mOwnA, gN, gT, gC, gE, SO.opt, dAdd, dSub, dLt, dLe, dGt, dGe, dNeg, mChain_e, chK, mTru, dTru, mSeqI, mRng, msk, ix2_0, ix2_1, ix3_0, ix3_1, ix3_2, mDNew, mMov, SO.opt, c2]) ?_
        obtain ⟨L, b', eL, hLL, hl, hb'⟩ := turn (fun r => r == 1) 2 (mTst (mEq (mCallF drawF [some 0, none] [] (mOwnA 0 (mCons (mK (.int 2)) mNil))) (mK (.int 1)))) (by decide) (by decide) (fun bb r b2 z e2 => by simp [sSeq, sSet, sRet, sRetN, sExp, sIf, sNil, sAsg, sPar, mVar, mK, mOp, mUn, mTst_e, tstK, mAnd, mOr, mNot, mAndV_e, andK, mOrV_e, orK, mNotV_e, notK, mIf, mEq, mNe, dEq_int, dEq_bl, mIsN, D.isNon, mCons, mNil, mTup, mLst, mMov, mCall, bLen, bAbs, mIsi, isT, D.isDct, mCallF_e, callK, callO, callR, fill, puts, mOwnA, gN, gT, gC, gE, SO.opt, dAdd, dSub, dLt, dLe, dGt, dGe, dNeg, mChain_e, chK, mTru, dTru, mSeqI, mRng, msk, ix2_0, ix2_1, ix3_0, ix3_1, ix3_2, mDNew, mMov, SO.opt, e2])
        refine seqP_rt (by conv => lhs; simp [sSeq, sSet, sRet, sRetN, sExp, sIf, sNil, sAsg, sPar, mVar, mK, mOp, mUn, mTst_e, tstK, mAnd, mOr, mNot, mAndV_e, andK, mOrV_e, orK, mNotV_e, notK, mIf, mEq, mNe, dEq_int, dEq_bl, mIsN, D.isNon, mCons, mNil, mTup, mLst, mMov, mCall, bLen, bAbs, mIsi, isT, D.isDct, mCallF_e, callK, callO, callR, fill, puts, mOwnA, gN, gT, gC, gE, SO.opt, dAdd, dSub, dLt, dLe, dGt, dGe, dNeg, mChain_e, chK, mTru, dTru, mSeqI, mRng, msk, ix2_0, ix2_1, ix3_0, ix3_1, ix3_2, mDNew, mMov, SO.opt, m_lw_picks_8, eL]) ?_
        exact fin L b' hLL hl hb'
      · refine if_fn rfl (by conv => lhs; simp [sSeq, sSet, sRet, sRetN, sExp, sIf, sNil, sAsg, sPar, mVar, mK, mOp, mUn, mTst_e, tstK, mAnd, mOr, mNot, mAndV_e, andK, mOrV_e, orK, mNotV_e, notK, mIf, mEq, mNe, dEq_int, dEq_bl, mIsN, D.isNon, mCons, mNil, mTup, mLst, mMov, mCall, bLen, bAbs, mIsi, isT, D.isDct, mCallF_e, callK, callO, callR, fill, puts, mOwnA, gN, gT, gC, gE, SO.opt, dAdd, dSub, dLt, dLe, dGt, dGe, dNeg, mChain_e, chK, mTru, dTru, mSeqI, mRng, msk, ix2_0, ix2_1, ix3_0, ix3_1, ix3_2, mDNew, mMov, SO.opt, c2]) ?_
        by_cases c3 : k < 6
        · refine if_t rfl (by conv => lhs; simp [sSeq, sSet, sRet, sRetN, sExp, sIf, sNil, sAsg, sPar, mVar, mK, mOp, mUn, mTst_e, tstK, mAnd, mOr, mNot, mAndV_e, andK, mOrV_e, orK, mNotV_e, notK, mIf, mEq, mNe, dEq_int, dEq_bl, mIsN, D.isNon, mCons, mNil, mTup, mLst, mMov, mCall, bLen, bAbs, mIsi, isT, D.isDct, mCallF_e, callK, callO, callR, fill, puts, mOwnA, gN, gT, gC, gE, SO.opt, dAdd, dSub, dLt, dLe, dGt, dGe, dNeg, mChain_e, chK, mTru, dTru, mSeqI, mRng, msk, ix2_0, ix2_1, ix3_0, ix3_1, ix3_2, mDNew, mMov, SO.opt, c3]) ?_
          obtain ⟨L, b', eL, hLL, hl, hb'⟩ := turn (fun r => decide (0 < r)) 5 (mTst (mOp dGt (mCallF drawF [some 0, none] [] (mOwnA 0 (mCons (mK (.int 5)) mNil))) (mK (.int 0)))) (by decide) (by decide) (fun bb r b2 z e2 => by simp [sSeq, sSet, sRet, sRetN, sExp, sIf, sNil, sAsg, sPar, mVar, mK, mOp, mUn, mTst_e, tstK, mAnd, mOr, mNot, mAndV_e, andK, mOrV_e, orK, mNotV_e, notK, mIf, mEq, mNe, dEq_int, dEq_bl, mIsN, D.isNon, mCons, mNil, mTup, mLst, mMov, mCall, bLen, bAbs, mIsi, isT, D.isDct, mCallF_e, callK, callO, callR, fill, puts, mOwnA, gN, gT, gC, gE, SO.opt, dAdd, dSub, dLt, dLe, dGt, dGe, dNeg, mChain_e, chK, mTru, dTru, mSeqI, mRng, msk, ix2_0, ix2_1, ix3_0, ix3_1, ix3_2, mDNew, mMov, SO.opt, e2])
          refine seqP_rt (by conv => lhs; simp [sSeq, sSet, sRet, sRetN, sExp, sIf, sNil, sAsg, sPar, mVar, mK, mOp, mUn, mTst_e, tstK, mAnd, mOr, mNot, mAndV_e, andK, mOrV_e, orK, mNotV_e, notK, mIf, mEq, mNe, dEq_int, dEq_bl, mIsN, D.isNon, mCons, mNil, mTup, mLst, mMov, mCall, bLen, bAbs, mIsi, isT, D.isDct, mCallF_e, callK, callO, callR, fill, puts, mOwnA, gN, gT, gC, gE, SO.opt, dAdd, dSub, dLt, dLe, dGt, dGe, dNeg, mChain_e, chK, mTru, dTru, mSeqI, mRng, msk, ix2_0, ix2_1, ix3_0, ix3_1, ix3_2, mDNew, mMov, SO.opt, m_lw_picks_10, eL]) ?_
          exact fin L b' hLL hl hb'
        · refine if_fn rfl (by conv => lhs; simp [sSeq, sSet, sRet, sRetN, sExp, sIf, sNil, sAsg, sPar, mVar, mK, mOp, mUn, mTst_e, tstK, mAnd, mOr, mNot, mAndV_e, andK, mOrV_e, orK, mNotV_e, notK, mIf, mEq, mNe, dEq_int, dEq_bl, mIsN, D.isNon, mCons, mNil, mTup, mLst, mMov, mCall, bLen, bAbs, mIsi, isT, D.isDct, mCallF_e, callK, callO, callR, fill, puts, mOwnA, gN, gT, gC, gE, SO.opt, dAdd, dSub, dLt, dLe, dGt, dGe, dNeg, mChain_e, chK, mTru, dTru, mSeqI, mRng, msk, ix2_0, ix2_1, ix3_0, ix3_1, ix3_2, mDNew, mMov, SO.opt, c3]) ?_
          obtain ⟨n, b2, e2, n0, n1, hb2⟩ := draw_lt (n := 7) hb1 (by decide) (by decide)
          have rk : bRng1 [.int (1 + n)] = some (rng 0 (1 + n).toNat) := rng_z (by
            unfold rg
            exact decide_eq_true ⟨by decide, by decide, by omega, by omega⟩)
          have hi : (mRng bRng1 (mCons (mOp dAdd (mK (.int 1)) (mCallF drawF [some 0, none] [] (mOwnA 0 (mCons (mK (.int 7)) mNil)))) mNil)) [some b1, some PL, some (D.lst LC), some (D.int k), none, none] = .ok (rng 0 (1 + n).toNat) [some b2, some PL, some (D.lst LC), some (D.int k), none, none] := by
            simp [sSeq, sSet, sRet, sRetN, sExp, sIf, sNil, sAsg, sPar, mVar, mK, mOp, mUn, mTst_e, tstK, mAnd, mOr, mNot, mAndV_e, andK, mOrV_e, orK, mNotV_e, notK, mIf, mEq, mNe, dEq_int, dEq_bl, mIsN, D.isNon, mCons, mNil, mTup, mLst, mMov, mCall, bLen, bAbs, mIsi, isT, D.isDct, mCallF_e, callK, callO, callR, fill, puts, mOwnA, gN, gT, gC, gE, SO.opt, dAdd, dSub, dLt, dLe, dGt, dGe, dNeg, mChain_e, chK, mTru, dTru, mSeqI, mRng, msk, ix2_0, ix2_1, ix3_0, ix3_1, ix3_2, mDNew, mMov, SO.opt, e2, rk]
          obtain ⟨zs, s', q1, ⟨b', hb', rfl⟩, q3, q4⟩ := mComp_inv (g := gN 5) (c := mYes) (e := mOp dIx (mVar 2) (mCallF drawF [some 0, none] [] (mOwnA 0 (mCons (mCall bLen (mCons (mVar 2) mNil)) mNil)))) (vs := [5])
            (fun (st : Env) => ∃ bb : D, IsBag bb ∧ st = [some bb, some PL, some (D.lst LC), some (D.int k), none, none]) (fun d => ∃ a, d = ptP a ∧ isCut w p s a) hi ⟨b2, hb2, rfl⟩ (fun d hd st ⟨bb, hbb, es⟩ => by
            subst es
            obtain ⟨r, b3, e3, r0, r1, hb3⟩ := draw_lt (n := (LC.length : Int)) hbb (by omega) (by omega)
            obtain ⟨z, hz, ez⟩ := ix_mem r0 r1
            refine ⟨_, true, _, rfl, rfl, fun q => (by cases q), fun _ => ⟨z, [some b3, some PL, some (D.lst LC), some (D.int k), none, some d], ?_, hA z hz, b3, hb3, rfl⟩⟩
            simp [sSeq, sSet, sRet, sRetN, sExp, sIf, sNil, sAsg, sPar, mVar, mK, mOp, mUn, mTst_e, tstK, mAnd, mOr, mNot, mAndV_e, andK, mOrV_e, orK, mNotV_e, notK, mIf, mEq, mNe, dEq_int, dEq_bl, mIsN, D.isNon, mCons, mNil, mTup, mLst, mMov, mCall, bLen, bAbs, mIsi, isT, D.isDct, mCallF_e, callK, callO, callR, fill, puts, mOwnA, gN, gT, gC, gE, SO.opt, dAdd, dSub, dLt, dLe, dGt, dGe, dNeg, mChain_e, chK, mTru, dTru, mSeqI, mRng, msk, ix2_0, ix2_1, ix3_0, ix3_1, ix3_2, mDNew, mMov, SO.opt, e3, ez]) (by rw [rng_len]; omega)
          rw [rng_len] at q4
          refine nx_is (o := .rt (.lst zs) [some b', some PL, some (D.lst LC), some (D.int k), none, none]) (by
            unfold m_lw_picks_11 sRet
            rw [q1]
            rfl) ?_
          exact fin zs b' q3 (by omega) hb'
theorem flats_le {n : Nat} : ∀ L : List I2, D.flats (n + 1) (L.map ptP) = true
  | [] => rfl
  | a :: L => by
    show (D.flat (n + 1) (ptP a) && D.flats (n + 1) (L.map ptP)) = true
    rw [flats_le L]
    rfl
theorem cut_to (ds : List D) (r : Int) (h : 0 ≤ r) : cutD ds none (some r) = ds.take r.toNat := by
  have h3 : ¬r < 0 := by omega
  have e : HT.sIx ds.length ds.length (some r) = min r.toNat ds.length := by
    unfold HT.sIx
    simp only [h3, if_false]
  unfold cutD
  rw [e]
  show (ds.drop 0).take (min r.toNat ds.length - 0) = _
  rw [List.drop_zero, Nat.sub_zero, List.take_eq_take_iff]
  omega
theorem lw_some_ev {w p s : Int} (h : Plan w p s) {b : D} (hb : IsBag b) : ∃ (S : List I2) (b' : D), f_lw_some [b, pl w p s] = .ok (.lst (S.map ptP)) [some b', none] ∧ IsBag b' ∧ (∀ a ∈ S, isCut w p s a) ∧ S.length ≤ 625 ∧ S.Pairwise ltP2 ∧ ∀ a ∈ S, ∀ c ∈ upI w p s a, c ∈ S := by
  obtain ⟨S0, b1, e1, hb1, hc, hl⟩ := lw_picks_ev h hb
  obtain ⟨M, e2, hM, hm, hML⟩ := lw_closed_ev h hc (by omega)
  refine run_go f_lw_some_eq (Q := fun r => ∃ (S : List I2) (b' : D), r = .ok (.lst (S.map ptP)) [some b', none] ∧ IsBag b' ∧ (∀ a ∈ S, isCut w p s a) ∧ S.length ≤ 625 ∧ S.Pairwise ltP2 ∧ ∀ a ∈ S, ∀ c ∈ upI w p s a, c ∈ S) (by conv => lhs; simp) ?_
  refine nx_is (o := .rt (.lst (M.map ptP)) [some b1, some (pl w p s)]) (by
    generalize pl w p s = PL at *
    generalize S0.map ptP = L0 at *
    simp [sSeq, sSet, sRet, sRetN, sExp, sIf, sNil, sAsg, sPar, mVar, mK, mOp, mUn, mTst_e, tstK, mAnd, mOr, mNot, mAndV_e, andK, mOrV_e, orK, mNotV_e, notK, mIf, mEq, mNe, dEq_int, dEq_bl, mIsN, D.isNon, mCons, mNil, mTup, mLst, mMov, mCall, bLen, bAbs, mIsi, isT, D.isDct, mCallF_e, callK, callO, callR, fill, puts, mOwnA, gN, gT, gC, gE, SO.opt, dAdd, dSub, dLt, dLe, dGt, dGe, dNeg, mChain_e, chK, mTru, dTru, mSeqI, mRng, msk, ix2_0, ix2_1, ix3_0, ix3_1, ix3_2, mDNew, mMov, SO.opt, m_lw_some, e1, e2]) ?_
  exact ⟨M, b1, rfl, hb1, fun a ha => ((hm a).mp ha).cut h hc, hML, hM, fun a ha c hcc => (hm c).mpr (.up ((hm a).mp ha) hcc)⟩
def lackU (T : List I2) : List I2 → Option I2
  | [] => none
  | b :: bs => if b ∈ T then lackU T bs else some b
def crk (w p s : Int) (T : List I2) : List I2 → Option (I2 × I2)
  | [] => none
  | a :: as => match lackU T (upI w p s a) with
    | some b => some (a, b)
    | none => crk w p s T as
def crkD : Option (I2 × I2) → D
  | none => .non
  | some z => .tup [ptP z.1, ptP z.2]
theorem sFor_ev {mi : MA} {g : MG} {b : MS} {st s0 : Env} {ds : List D} {o : SO} (h : mi st = .ok ds s0) (h2 : forM g b ds s0 = o) : sFor mi g b st = o := by
  unfold sFor
  rw [h]
  exact h2
theorem lack_in {PL X : D} {T : List I2} {vs : List D} {a : I2} : ∀ (bs : List I2) (o : Option D), ∃ o', forM (gN 4) (sIf (mTst (mInD (fun k => !k) (mVar 4) (mVar 2))) (sRet (mTup (mCons (mVar 3) (mCons (mVar 4) mNil)))) sNil) (bs.map ptP) [some PL, some X, some (.dct (T.map kP) vs), some (ptP a), o] =
    (match lackU T bs with
      | some b => SO.rt (.tup [ptP a, ptP b]) [some PL, some X, some (.dct (T.map kP) vs), some (ptP a), o']
      | none => SO.nx [some PL, some X, some (.dct (T.map kP) vs), some (ptP a), o'])
  | [], o => ⟨o, rfl⟩
  | b :: bs, o => by
    have hin := dInD_pt (ks := T) (vs := vs) (b := b)
    by_cases hb : b ∈ T
    · rw [decide_eq_true hb] at hin
      obtain ⟨o', ih⟩ := lack_in (PL := PL) (X := X) (T := T) (vs := vs) (a := a) bs (some (ptP b))
      refine ⟨o', ?_⟩
      have hB : (sIf (mTst (mInD (fun k => !k) (mVar 4) (mVar 2))) (sRet (mTup (mCons (mVar 3) (mCons (mVar 4) mNil)))) sNil) [some PL, some X, some (.dct (T.map kP) vs), some (ptP a), some (ptP b)] = .nx [some PL, some X, some (.dct (T.map kP) vs), some (ptP a), some (ptP b)] := by
        generalize ptP b = B at *
        generalize ptP a = A at *
        simp [sSeq, sSet, sRet, sRetN, sExp, sIf, sNil, sAsg, sPar, mVar, mK, mOp, mUn, mTst_e, tstK, mAnd, mOr, mNot, mAndV_e, andK, mOrV_e, orK, mNotV_e, notK, mIf, mEq, mNe, dEq_int, dEq_bl, mIsN, D.isNon, mCons, mNil, mTup, mLst, mMov, mCall, bLen, bAbs, mIsi, isT, D.isDct, mCallF_e, callK, callO, callR, fill, puts, mOwnA, gN, gT, gC, gE, SO.opt, dAdd, dSub, dLt, dLe, dGt, dGe, dNeg, mChain_e, chK, mTru, dTru, mSeqI, mRng, msk, ix2_0, ix2_1, ix3_0, ix3_1, ix3_2, mDNew, mMov, SO.opt, mInD, hin]
      rw [List.map_cons]
      unfold lackU
      rw [if_pos hb, ← ih]
      show (match (sIf _ _ _) _ with | .nx s2 => forM (gN 4) _ (bs.map ptP) s2 | .ct s2 => forM (gN 4) _ (bs.map ptP) s2 | .bk s2 => .nx s2 | .rt d s2 => .rt d s2 | .err e s2 => .err e s2 | .stuck => .stuck) = _
      rw [show [some PL, some X, some (D.dct (T.map kP) vs), some (ptP a), o].set 4 (some (ptP b)) = [some PL, some X, some (.dct (T.map kP) vs), some (ptP a), some (ptP b)] from rfl, hB]
    · rw [decide_eq_false hb] at hin
      refine ⟨some (ptP b), ?_⟩
      have hB : (sIf (mTst (mInD (fun k => !k) (mVar 4) (mVar 2))) (sRet (mTup (mCons (mVar 3) (mCons (mVar 4) mNil)))) sNil) [some PL, some X, some (.dct (T.map kP) vs), some (ptP a), some (ptP b)] = .rt (.tup [ptP a, ptP b]) [some PL, some X, some (.dct (T.map kP) vs), some (ptP a), some (ptP b)] := by
        generalize ptP b = B at *
        generalize ptP a = A at *
        simp [sSeq, sSet, sRet, sRetN, sExp, sIf, sNil, sAsg, sPar, mVar, mK, mOp, mUn, mTst_e, tstK, mAnd, mOr, mNot, mAndV_e, andK, mOrV_e, orK, mNotV_e, notK, mIf, mEq, mNe, dEq_int, dEq_bl, mIsN, D.isNon, mCons, mNil, mTup, mLst, mMov, mCall, bLen, bAbs, mIsi, isT, D.isDct, mCallF_e, callK, callO, callR, fill, puts, mOwnA, gN, gT, gC, gE, SO.opt, dAdd, dSub, dLt, dLe, dGt, dGe, dNeg, mChain_e, chK, mTru, dTru, mSeqI, mRng, msk, ix2_0, ix2_1, ix3_0, ix3_1, ix3_2, mDNew, mMov, SO.opt, mInD, hin]
      rw [List.map_cons]
      unfold lackU
      rw [if_neg hb]
      show (match (sIf _ _ _) _ with | .nx s2 => forM (gN 4) _ (bs.map ptP) s2 | .ct s2 => forM (gN 4) _ (bs.map ptP) s2 | .bk s2 => .nx s2 | .rt d s2 => .rt d s2 | .err e s2 => .err e s2 | .stuck => .stuck) = _
      rw [show [some PL, some X, some (D.dct (T.map kP) vs), some (ptP a), o].set 4 (some (ptP b)) = [some PL, some X, some (.dct (T.map kP) vs), some (ptP a), some (ptP b)] from rfl, hB]
theorem lack_out {w p s : Int} {X : D} {T : List I2} {vs : List D} {f : List D → R D} : ∀ (as : List I2), (∀ a ∈ as, f [pl w p s, ptP a] = .ok (.lst ((upI w p s a).map ptP)) [none, none]) → ∀ (o3 o4 : Option D), ∃ o3' o4', forM (gN 3) (sFor (mSeqI (mCallF f [none, none] [] (mCons (mVar 0) (mCons (mVar 3) mNil)))) (gN 4) (sIf (mTst (mInD (fun k => !k) (mVar 4) (mVar 2))) (sRet (mTup (mCons (mVar 3) (mCons (mVar 4) mNil)))) sNil)) (as.map ptP) [some (pl w p s), some X, some (.dct (T.map kP) vs), o3, o4] =
    (match crk w p s T as with
      | some z => SO.rt (.tup [ptP z.1, ptP z.2]) [some (pl w p s), some X, some (.dct (T.map kP) vs), o3', o4']
      | none => SO.nx [some (pl w p s), some X, some (.dct (T.map kP) vs), o3', o4'])
  | [], _, o3, o4 => ⟨o3, o4, rfl⟩
  | a :: as, hf, o3, o4 => by
    obtain ⟨o', e1⟩ := lack_in (PL := pl w p s) (X := X) (T := T) (vs := vs) (a := a) (upI w p s a) o4
    have hfa := hf a List.mem_cons_self
    have ei : mSeqI (mCallF f [none, none] [] (mCons (mVar 0) (mCons (mVar 3) mNil))) [some (pl w p s), some X, some (.dct (T.map kP) vs), some (ptP a), o4] = .ok ((upI w p s a).map ptP) [some (pl w p s), some X, some (.dct (T.map kP) vs), some (ptP a), o4] := by
      generalize pl w p s = PL at *
      generalize ptP a = A at *
      simp [sSeq, sSet, sRet, sRetN, sExp, sIf, sNil, sAsg, sPar, mVar, mK, mOp, mUn, mTst_e, tstK, mAnd, mOr, mNot, mAndV_e, andK, mOrV_e, orK, mNotV_e, notK, mIf, mEq, mNe, dEq_int, dEq_bl, mIsN, D.isNon, mCons, mNil, mTup, mLst, mMov, mCall, bLen, bAbs, mIsi, isT, D.isDct, mCallF_e, callK, callO, callR, fill, puts, mOwnA, gN, gT, gC, gE, SO.opt, dAdd, dSub, dLt, dLe, dGt, dGe, dNeg, mChain_e, chK, mTru, dTru, mSeqI, mRng, msk, ix2_0, ix2_1, ix3_0, ix3_1, ix3_2, mDNew, mMov, SO.opt, hfa]
    have hB := sFor_ev ei e1
    rw [List.map_cons]
    cases hl : lackU T (upI w p s a) with
    | some b =>
      rw [hl] at hB
      refine ⟨some (ptP a), o', ?_⟩
      have hc : crk w p s T (a :: as) = some (a, b) := by
        unfold crk
        rw [hl]
      rw [hc]
      show (match (sFor _ _ _) _ with | .nx s2 => forM (gN 3) _ (as.map ptP) s2 | .ct s2 => forM (gN 3) _ (as.map ptP) s2 | .bk s2 => .nx s2 | .rt d s2 => .rt d s2 | .err e s2 => .err e s2 | .stuck => .stuck) = _
      rw [show [some (pl w p s), some X, some (D.dct (T.map kP) vs), o3, o4].set 3 (some (ptP a)) = [some (pl w p s), some X, some (.dct (T.map kP) vs), some (ptP a), o4] from rfl, hB]
    | none =>
      rw [hl] at hB
      obtain ⟨o3', o4', ih⟩ := lack_out (w := w) (p := p) (s := s) (X := X) (T := T) (vs := vs) (f := f) as (fun x hx => hf x (List.mem_cons_of_mem _ hx)) (some (ptP a)) o'
      refine ⟨o3', o4', ?_⟩
      have hc : crk w p s T (a :: as) = crk w p s T as := by
        show (match lackU T (upI w p s a) with | some b => some (a, b) | none => crk w p s T as) = _
        rw [hl]
      rw [hc, ← ih]
      show (match (sFor _ _ _) _ with | .nx s2 => forM (gN 3) _ (as.map ptP) s2 | .ct s2 => forM (gN 3) _ (as.map ptP) s2 | .bk s2 => .nx s2 | .rt d s2 => .rt d s2 | .err e s2 => .err e s2 | .stuck => .stuck) = _
      rw [show [some (pl w p s), some X, some (D.dct (T.map kP) vs), o3, o4].set 3 (some (ptP a)) = [some (pl w p s), some X, some (.dct (T.map kP) vs), some (ptP a), o4] from rfl, hB]
theorem crack_ev {w p s : Int} {S : List I2} (hS : ∀ a ∈ S, isCut w p s a) (hl : S.length < 16000000) : f_crack [pl w p s, .lst (S.map ptP)] = .ok (crkD (crk w p s (can S) (can S))) [none, none] := by
  have hn := noted_ev hS hl
  obtain ⟨o3, o4, lo⟩ := lack_out (w := w) (p := p) (s := s) (X := .lst (S.map ptP)) (T := can S) (vs := List.replicate (can S).length (.bl true)) (f := f_parents) (can S) (fun a ha => par_ev (hS a (can_mem.mp ha))) none none
  refine run_eq f_crack_eq (by conv => lhs; simp) ?_
  generalize pl w p s = PL at *
  have ek : ((can S).map kP).map kDs = (can S).map ptP := by rw [List.map_map]; rfl
  generalize S.map ptP = LS at *
  refine nx_step rfl (show _ = SO.nx [some PL, some (.lst LS), some (.dct ((can S).map kP) (List.replicate (can S).length (.bl true))), none, none] by simp [sSeq, sSet, sRet, sRetN, sExp, sIf, sNil, sAsg, sPar, mVar, mK, mOp, mUn, mTst_e, tstK, mAnd, mOr, mNot, mAndV_e, andK, mOrV_e, orK, mNotV_e, notK, mIf, mEq, mNe, dEq_int, dEq_bl, mIsN, D.isNon, mCons, mNil, mTup, mLst, mMov, mCall, bLen, bAbs, mIsi, isT, D.isDct, mCallF_e, callK, callO, callR, fill, puts, mOwnA, gN, gT, gC, gE, SO.opt, dAdd, dSub, dLt, dLe, dGt, dGe, dNeg, mChain_e, chK, mTru, dTru, mSeqI, mRng, msk, ix2_0, ix2_1, ix3_0, ix3_1, ix3_2, mDNew, mMov, SO.opt, hn]) ?_
  have em : mKeysI (mVar 2) [some PL, some (.lst LS), some (.dct ((can S).map kP) (List.replicate (can S).length (.bl true))), none, none] = .ok ((can S).map ptP) [some PL, some (.lst LS), some (.dct ((can S).map kP) (List.replicate (can S).length (.bl true))), none, none] := by
    rw [← ek]
    rfl
  have hB := sFor_ev (g := gN 3) (b := m_crack_3) em lo
  cases hc : crk w p s (can S) (can S) with
  | some z =>
    rw [hc] at hB
    refine nx_is (o := .rt (.tup [ptP z.1, ptP z.2]) [some PL, some (.lst LS), some (.dct ((can S).map kP) (List.replicate (can S).length (.bl true))), o3, o4]) ?_ rfl
    unfold m_crack_2 sSeq
    rw [hB]
    rfl
  | none =>
    rw [hc] at hB
    refine nx_is (o := .rt .non [some PL, some (.lst LS), some (.dct ((can S).map kP) (List.replicate (can S).length (.bl true))), o3, o4]) ?_ rfl
    unfold m_crack_2 sSeq
    rw [hB]
    rfl
theorem eq_ptP (a b : I2) : D.eq (ptP a) (ptP b) = decide (a = b) := by
  have h : D.eq (ptP a) (ptP b) = (a.1 == b.1 && a.2 == b.2) := by simp [ptP, D.eq, D.eqs]
  rw [h]
  apply Bool.eq_iff_iff.mpr
  rw [Bool.and_eq_true, decide_eq_true_iff]
  exact ⟨fun q => Prod.ext (eq_of_beq q.1) (eq_of_beq q.2), fun q => by subst q; simp⟩
theorem dIn_ptL (a : I2) (L : List I2) : dIn (ptP a) (.lst (L.map ptP)) = some (decide (a ∈ L)) := by
  have h1 : D.flat 60 (ptP a) = true := rfl
  have h2 : D.flat 60 (.lst (L.map ptP)) = true := flats_le (n := 58) L
  unfold dIn
  show (if (D.flat 60 (ptP a) && D.flat 60 (.lst (L.map ptP))) = true then _ else _) = _
  rw [h1, h2]
  show some _ = some _
  congr 1
  apply Bool.eq_iff_iff.mpr
  rw [List.any_eq_true, decide_eq_true_iff]
  constructor
  · rintro ⟨d, hd, e⟩
    obtain ⟨b, hb, rfl⟩ := List.mem_map.mp hd
    rw [eq_ptP, decide_eq_true_iff] at e
    rw [← e]
    exact hb
  · intro hb
    exact ⟨ptP a, List.mem_map.mpr ⟨a, hb, rfl⟩, by rw [eq_ptP, decide_eq_true rfl]⟩
def crs (a b c d e f : Int) : Int := (c - a) * (f - b) - (e - a) * (d - b)
def sg (t : Tr) : Int := if crs t.a t.b t.c t.d t.e t.f < 0 then -1 else 1
def v2 (t : Tr) (x y : Int) : Int := sg t * crs t.a t.b x y t.e t.f
def lvI (s : Int) (a : I2) : Int := lv s a.1 a.2
theorem up_lvJ {w p s : Int} (hP : Plan w p s) {a b : I2} (h : isCut w p s a) (hb : b ∈ upI w p s a) : lvI s b = lvI s a - 1 := up_lv h (upI_up hb) (upI_cut hP hb)
theorem sortK_map {α : Type} (L : List α) (f g : α → D) : sortK (L.map f) (L.map g) = (L.mergeSort fun a b => dSle (g a) (g b)).map f := by
  unfold sortK
  have e : (L.map f).zip (L.map g) = L.map fun a => (f a, g a) := by
    induction L with
    | nil => rfl
    | cons a L ih => rw [List.map_cons, List.map_cons, List.zip_cons_cons, ih]; rfl
  rw [e, ← List.map_mergeSort (r := fun a b => dSle (g a) (g b)) (f := fun a => (f a, g a)) (fun _ _ _ _ => rfl), List.map_map]
  rfl
def mdI (t : Tr) : I2 := ((t.a + t.c) / 2, (t.b + t.d) / 2)
def hasM (C : List I2) (t : Tr) : Bool := !odd t && decide (mdI t ∈ C)
def lvs (C : List I2) : Nat → Tr → List Tr
  | 0, t => [t]
  | n + 1, t => if hasM C t = true then lvs C n (h1 t) ++ lvs C n (h2 t) else [t]
theorem lvs_len (C : List I2) : ∀ (n : Nat) (t : Tr), (lvs C n t).length ≤ 2 ^ n
  | 0, t => Nat.le_refl _
  | n + 1, t => by
    unfold lvs
    split
    · have i1 := lvs_len C n (h1 t)
      have i2 := lvs_len C n (h2 t)
      rw [List.length_append, Nat.pow_succ]
      omega
    · exact Nat.one_le_two_pow
theorem dInDN_mid {C : List I2} {vs : List D} (t : Tr) : dInDN (mid t) (.dct (C.map kP) vs) = some (hasM C t) := by
  unfold mid hasM
  cases ho : odd t with
  | true => rfl
  | false =>
    rw [if_neg (by decide)]
    exact dInD_pt (vs := vs) (b := mdI t)
theorem spread_ev (C : List I2) (vs : List D) : ∀ (n : Nat) (t : Tr) (acc : List D), fitT n t = true → acc.length + 2 ^ n < 16000000 → f_spread n [t.D, .dct (C.map kP) vs, .lst acc] = .ok .non [none, none, some (.lst (acc ++ (lvs C n t).map Tr.D))]
  | 0, t, acc, h, _ => by cases h
  | n + 1, t, acc, h, hl => by
    rw [Nat.pow_succ] at hl
    have hl1 : acc.length < 16000000 := by omega
    show runF _ _ _ (m_spread (f_spread n)) _ = _
    unfold runF m_spread
    rw [show ([t.D, D.dct (C.map kP) vs, D.lst acc].map some ++ List.replicate (4 - [t.D, D.dct (C.map kP) vs, D.lst acc].length) none) = [some t.D, some (.dct (C.map kP) vs), some (.lst acc), none] from rfl]
    have me := middle_ev t
    have hd := dInDN_mid (C := C) (vs := vs) t
    have eT : mTst (mInDN (mCallF f_middle [none] [] (mCons (mVar 0) mNil)) (mVar 1)) [some t.D, some (.dct (C.map kP) vs), some (.lst acc), none] = .ok (hasM C t) [some t.D, some (.dct (C.map kP) vs), some (.lst acc), none] := by
      generalize hasM C t = B at *
      generalize mid t = MM at *
      generalize t.D = T at *
      generalize D.dct (C.map kP) vs = DD at *
      simp [sSeq, sSet, sRet, sRetN, sExp, sIf, sNil, sAsg, sPar, mVar, mK, mOp, mUn, mTst_e, tstK, mAnd, mOr, mNot, mAndV_e, andK, mOrV_e, orK, mNotV_e, notK, mIf, mEq, mNe, dEq_int, dEq_bl, mIsN, D.isNon, mCons, mNil, mTup, mLst, mMov, mCall, bLen, bAbs, mIsi, isT, D.isDct, mCallF_e, callK, callO, callR, fill, puts, mOwnA, gN, gT, gC, gE, SO.opt, dAdd, dSub, dLt, dLe, dGt, dGe, dNeg, mChain_e, chK, mTru, dTru, mSeqI, mRng, msk, ix2_0, ix2_1, ix3_0, ix3_1, ix3_2, mDNew, mMov, SO.opt, mInDN, me, hd]
    cases hm : hasM C t with
    | false =>
      rw [hm] at eT
      have e : (lvs C (n + 1) t).map Tr.D = [t.D] := by
        unfold lvs
        rw [hm, if_neg (by decide)]
        rfl
      rw [e]
      unfold sIf
      rw [eT]
      show (match m_spread_5 (f_spread n) [some t.D, some (.dct (C.map kP) vs), some (.lst acc), none] with | .nx s => _ | .rt d s => _ | .err e s => _ | _ => _) = _
      have ea : m_spread_5 (f_spread n) [some t.D, some (.dct (C.map kP) vs), some (.lst acc), none] = .nx [some t.D, some (.dct (C.map kP) vs), some (.lst (acc ++ [t.D])), none] := app_ev (i := 2) (m := mVar 0) rfl rfl hl1
      rw [ea]
      rfl
    | true =>
      have ho : odd t = false := by
        unfold hasM at hm
        rw [Bool.and_eq_true] at hm
        simpa using hm.1
      rw [hm] at eT
      have hv := halved_ev t ho
      have hf : (odd t || (fitT n (h1 t) && fitT n (h2 t))) = true := h
      rw [ho, Bool.false_or, Bool.and_eq_true] at hf
      have et : lvs C (n + 1) t = lvs C n (h1 t) ++ lvs C n (h2 t) := by
        show (if hasM C t = true then _ else _) = _
        rw [hm, if_pos rfl]
      have l1 := lvs_len C n (h1 t)
      have i1 := spread_ev C vs n (h1 t) acc hf.1 (by omega)
      have i2 := spread_ev C vs n (h2 t) (acc ++ (lvs C n (h1 t)).map Tr.D) hf.2 (by rw [List.length_append, List.length_map]; omega)
      have ee : acc ++ (lvs C (n + 1) t).map Tr.D = acc ++ (lvs C n (h1 t)).map Tr.D ++ (lvs C n (h2 t)).map Tr.D := by
        rw [et]
        simp
      rw [ee]
      unfold sIf
      rw [eT]
      generalize acc ++ (lvs C n (h1 t)).map Tr.D ++ (lvs C n (h2 t)).map Tr.D = A3 at *
      generalize acc ++ (lvs C n (h1 t)).map Tr.D = A2 at *
      generalize (h1 t).D = T1 at *
      generalize (h2 t).D = T2 at *
      generalize t.D = T at *
      generalize D.dct (C.map kP) vs = DD at *
      simp [sSeq, sSet, sRet, sRetN, sExp, sIf, sNil, sAsg, sPar, mVar, mK, mOp, mUn, mTst_e, tstK, mAnd, mOr, mNot, mAndV_e, andK, mOrV_e, orK, mNotV_e, notK, mIf, mEq, mNe, dEq_int, dEq_bl, mIsN, D.isNon, mCons, mNil, mTup, mLst, mMov, mCall, bLen, bAbs, mIsi, isT, D.isDct, mCallF_e, callK, callO, callR, fill, puts, mOwnA, gN, gT, gC, gE, SO.opt, dAdd, dSub, dLt, dLe, dGt, dGe, dNeg, mChain_e, chK, mTru, dTru, mSeqI, mRng, msk, ix2_0, ix2_1, ix3_0, ix3_1, ix3_2, mDNew, mMov, SO.opt, m_spread_2, m_spread_3, hv, sFor, forM, i1, i2]
theorem leaves_loop (C : List I2) (vs : List D) : ∀ (ts : List Tr) (acc : List D) (P : D) (o : Option D), (∀ t ∈ ts, fitT 8 t = true) → acc.length + ts.length * 256 < 16000000 →
    ∃ o', forM (gN 3) m_leaves_3 (ts.map Tr.D) [some P, some (.dct (C.map kP) vs), some (.lst acc), o] = .nx [some P, some (.dct (C.map kP) vs), some (.lst (acc ++ (ts.flatMap (lvs C 8)).map Tr.D)), o']
  | [], acc, P, o, _, _ => ⟨o, by simp [forM]⟩
  | t :: ts, acc, P, o, h, hl => by
    rw [List.length_cons] at hl
    have g := spread_ev C vs 8 t acc (h t List.mem_cons_self) (by have : (2 : Nat) ^ 8 = 256 := rfl; omega)
    have l1 := lvs_len C 8 t
    have e8 : (2 : Nat) ^ 8 = 256 := rfl
    obtain ⟨o', ih⟩ := leaves_loop C vs ts (acc ++ (lvs C 8 t).map Tr.D) P (some t.D) (fun x hx => h x (List.mem_cons_of_mem _ hx)) (by rw [List.length_append, List.length_map]; omega)
    refine ⟨o', ?_⟩
    have hb : m_leaves_3 [some P, some (.dct (C.map kP) vs), some (.lst acc), some t.D] = .nx [some P, some (.dct (C.map kP) vs), some (.lst (acc ++ (lvs C 8 t).map Tr.D)), some t.D] := by
      generalize acc ++ (lvs C 8 t).map Tr.D = A at *
      generalize D.dct (C.map kP) vs = DD at *
      generalize t.D = T at *
      simp [sSeq, sSet, sRet, sRetN, sExp, sIf, sNil, sAsg, sPar, mVar, mK, mOp, mUn, mTst_e, tstK, mAnd, mOr, mNot, mAndV_e, andK, mOrV_e, orK, mNotV_e, notK, mIf, mEq, mNe, dEq_int, dEq_bl, mIsN, D.isNon, mCons, mNil, mTup, mLst, mMov, mCall, bLen, bAbs, mIsi, isT, D.isDct, mCallF_e, callK, callO, callR, fill, puts, mOwnA, gN, gT, gC, gE, SO.opt, dAdd, dSub, dLt, dLe, dGt, dGe, dNeg, mChain_e, chK, mTru, dTru, mSeqI, mRng, msk, ix2_0, ix2_1, ix3_0, ix3_1, ix3_2, mDNew, mMov, SO.opt, m_leaves_3, g]
    show (match m_leaves_3 [some P, some (.dct (C.map kP) vs), some (.lst acc), some t.D] with | .nx s2 => forM (gN 3) _ (ts.map Tr.D) s2 | .ct s2 => forM (gN 3) _ (ts.map Tr.D) s2 | .bk s2 => .nx s2 | .rt d s2 => .rt d s2 | .err e s2 => .err e s2 | .stuck => .stuck) = _
    rw [hb]
    show forM (gN 3) _ (ts.map Tr.D) _ = _
    rw [ih, List.append_assoc, List.flatMap_cons, List.map_append]
/-- the triangles of the mesh of C -/
def mshT (w p s : Int) (C : List I2) : List Tr := (rts w p s).flatMap (lvs C 8)
theorem leaves_ev {w p s : Int} (h : Plan w p s) (C : List I2) (vs : List D) : f_leaves [pl w p s, .dct (C.map kP) vs] = .ok (.lst ((mshT w p s C).map Tr.D)) [none, none] := by
  obtain ⟨f1, f2, f3⟩ := rts_fit h
  have er := roots_ev h
  obtain ⟨o', lo⟩ := leaves_loop C vs (rts w p s) [] (pl w p s) none f1 (by simp only [List.length_nil]; omega)
  refine run_eq f_leaves_eq (by conv => lhs; simp) ?_
  refine nx_step rfl (show _ = SO.nx [some (pl w p s), some (.dct (C.map kP) vs), some (.lst []), none] from rfl) ?_
  have em : mSeqI (mCallF f_roots [none] [] (mCons (mVar 0) mNil)) [some (pl w p s), some (.dct (C.map kP) vs), some (.lst []), none] = .ok ((rts w p s).map Tr.D) [some (pl w p s), some (.dct (C.map kP) vs), some (.lst []), none] := by
    generalize (rts w p s).map Tr.D = RR at *
    generalize D.dct (C.map kP) vs = DD at *
    generalize pl w p s = PL at *
    simp [sSeq, sSet, sRet, sRetN, sExp, sIf, sNil, sAsg, sPar, mVar, mK, mOp, mUn, mTst_e, tstK, mAnd, mOr, mNot, mAndV_e, andK, mOrV_e, orK, mNotV_e, notK, mIf, mEq, mNe, dEq_int, dEq_bl, mIsN, D.isNon, mCons, mNil, mTup, mLst, mMov, mCall, bLen, bAbs, mIsi, isT, D.isDct, mCallF_e, callK, callO, callR, fill, puts, mOwnA, gN, gT, gC, gE, SO.opt, dAdd, dSub, dLt, dLe, dGt, dGe, dNeg, mChain_e, chK, mTru, dTru, mSeqI, mRng, msk, ix2_0, ix2_1, ix3_0, ix3_1, ix3_2, mDNew, mMov, SO.opt, er]
  have hB := sFor_ev (g := gN 3) (b := m_leaves_3) em lo
  rw [List.nil_append] at hB
  refine nx_is (o := .rt (.lst ((mshT w p s C).map Tr.D)) [some (pl w p s), some (.dct (C.map kP) vs), none, o']) ?_ rfl
  unfold m_leaves_2 sSeq
  rw [hB]
  rfl
theorem lackU_all {T : List I2} : ∀ {L : List I2}, (∀ b ∈ L, b ∈ T) → lackU T L = none
  | [], _ => rfl
  | b :: L, h => by
    unfold lackU
    rw [if_pos (h b List.mem_cons_self)]
    exact lackU_all fun x hx => h x (List.mem_cons_of_mem _ hx)
theorem crk_closed {w p s : Int} {T : List I2} : ∀ {L : List I2}, (∀ a ∈ L, ∀ b ∈ upI w p s a, b ∈ T) → crk w p s T L = none
  | [], _ => rfl
  | a :: L, h => by
    unfold crk
    rw [lackU_all (h a List.mem_cons_self)]
    exact crk_closed fun x hx => h x (List.mem_cons_of_mem _ hx)
def meshD (w p s : Int) (S : List I2) : D := .obj "Mesh" ["plan", "there", "parts"] [pl w p s, .dct (S.map kP) (List.replicate S.length (.bl true)), .lst ((mshT w p s S).map Tr.D)]
theorem fO_new {i : Nat} {f : Str} {m : M} {st s1 : Env} {c : Str} {ns : List Str} {ds : List D} {d : D} (hm : m st = .ok d s1) (hi : s1[i]? = some (some (.obj c ns ds))) (hf : f ∉ ns) (hl : ns.length < 900) : sFldO i f m st = .nx (s1.set i (some (.obj c (ns ++ [f]) (ds ++ [d])))) := by
  unfold sFldO
  rw [hm]
  show (match s1[i]? with
    | some (some (.obj c ns ds)) => if f ∉ ns ∧ ns.length < 900 then SO.nx (s1.set i (some (.obj c (ns ++ [f]) (ds ++ [d])))) else .stuck
    | _ => .stuck) = _
  rw [hi]
  exact if_pos ⟨hf, hl⟩
theorem mesh_init_ev {w p s : Int} (h : Plan w p s) {S : List I2} (hS : ∀ a ∈ S, isCut w p s a) (hl : S.length < 16000000) (hc : ∀ a ∈ S, ∀ b ∈ upI w p s a, b ∈ S) : f_Mesh_init [.obj "Mesh" [] [], pl w p s, .lst (S.map ptP)] = .ok .non [some (meshD w p s (can S)), none, none] := by
  refine run_eq f_Mesh_init_eq (by conv => lhs; simp) ?_
  have e1 := crack_ev hS hl
  rw [crk_closed (T := can S) (L := can S) fun a ha b hb => can_mem.mpr (hc a (can_mem.mp ha) b hb)] at e1
  have e1 : f_crack [pl w p s, .lst (S.map ptP)] = .ok .non [none, none] := e1
  have e2 := noted_ev hS hl
  have e3 := leaves_ev h (can S) (List.replicate (can S).length (.bl true))
  refine nx_step rfl (show _ = SO.nx [some (.obj "Mesh" [] []), some (pl w p s), some (.lst (S.map ptP)), some .non] by
    generalize pl w p s = PL at *
    generalize S.map ptP = LS at *
    simp [sSeq, sSet, sRet, sRetN, sExp, sIf, sNil, sAsg, sPar, mVar, mK, mOp, mUn, mTst_e, tstK, mAnd, mOr, mNot, mAndV_e, andK, mOrV_e, orK, mNotV_e, notK, mIf, mEq, mNe, dEq_int, dEq_bl, mIsN, D.isNon, mCons, mNil, mTup, mLst, mMov, mCall, bLen, bAbs, mIsi, isT, D.isDct, mCallF_e, callK, callO, callR, fill, puts, mOwnA, gN, gT, gC, gE, SO.opt, dAdd, dSub, dLt, dLe, dGt, dGe, dNeg, mChain_e, chK, mTru, dTru, mSeqI, mRng, msk, ix2_0, ix2_1, ix3_0, ix3_1, ix3_2, mDNew, mMov, SO.opt, e1]) ?_
  refine nx_step rfl (show _ = SO.nx [some (.obj "Mesh" [] []), some (pl w p s), some (.lst (S.map ptP)), some .non] by
    generalize pl w p s = PL at *
    generalize S.map ptP = LS at *
    simp [sSeq, sSet, sRet, sRetN, sExp, sIf, sNil, sAsg, sPar, mVar, mK, mOp, mUn, mTst_e, tstK, mAnd, mOr, mNot, mAndV_e, andK, mOrV_e, orK, mNotV_e, notK, mIf, mEq, mNe, dEq_int, dEq_bl, mIsN, D.isNon, mCons, mNil, mTup, mLst, mMov, mCall, bLen, bAbs, mIsi, isT, D.isDct, mCallF_e, callK, callO, callR, fill, puts, mOwnA, gN, gT, gC, gE, SO.opt, dAdd, dSub, dLt, dLe, dGt, dGe, dNeg, mChain_e, chK, mTru, dTru, mSeqI, mRng, msk, ix2_0, ix2_1, ix3_0, ix3_1, ix3_2, mDNew, mMov, SO.opt]) ?_
  refine nx_step rfl (fO_new (i := 0) (f := "plan") (m := mVar 1) (c := "Mesh") (ns := []) (ds := []) rfl rfl (by decide) (by decide)) ?_
  refine nx_step rfl (fO_new (i := 0) (f := "there") (c := "Mesh") (ns := ["plan"]) (ds := [pl w p s]) (d := .dct ((can S).map kP) (List.replicate (can S).length (.bl true))) (s1 := [some (.obj "Mesh" ["plan"] [pl w p s]), some (pl w p s), some (.lst (S.map ptP)), some .non]) (by
    show mCallF f_noted [none, none] [] (mCons (mVar 1) (mCons (mVar 2) mNil)) [some (.obj "Mesh" ["plan"] [pl w p s]), some (pl w p s), some (.lst (S.map ptP)), some .non] = _
    generalize D.dct ((can S).map kP) (List.replicate (can S).length (.bl true)) = DD at *
    generalize pl w p s = PL at *
    generalize S.map ptP = LS at *
    simp [sSeq, sSet, sRet, sRetN, sExp, sIf, sNil, sAsg, sPar, mVar, mK, mOp, mUn, mTst_e, tstK, mAnd, mOr, mNot, mAndV_e, andK, mOrV_e, orK, mNotV_e, notK, mIf, mEq, mNe, dEq_int, dEq_bl, mIsN, D.isNon, mCons, mNil, mTup, mLst, mMov, mCall, bLen, bAbs, mIsi, isT, D.isDct, mCallF_e, callK, callO, callR, fill, puts, mOwnA, gN, gT, gC, gE, SO.opt, dAdd, dSub, dLt, dLe, dGt, dGe, dNeg, mChain_e, chK, mTru, dTru, mSeqI, mRng, msk, ix2_0, ix2_1, ix3_0, ix3_1, ix3_2, mDNew, mMov, SO.opt, e2]) rfl (by decide) (by decide)) ?_
  refine nx_is (fO_new (i := 0) (f := "parts") (c := "Mesh") (ns := ["plan", "there"]) (ds := [pl w p s, .dct ((can S).map kP) (List.replicate (can S).length (.bl true))]) (d := .lst ((mshT w p s (can S)).map Tr.D)) (s1 := [some (.obj "Mesh" ["plan", "there"] [pl w p s, .dct ((can S).map kP) (List.replicate (can S).length (.bl true))]), some (pl w p s), some (.lst (S.map ptP)), some .non]) (by
    have ef : ∀ P T : D, mFldO 0 "there" [some (.obj "Mesh" ["plan", "there"] [P, T]), some (pl w p s), some (.lst (S.map ptP)), some .non] = .ok T [some (.obj "Mesh" ["plan", "there"] [P, T]), some (pl w p s), some (.lst (S.map ptP)), some .non] := fun P T => rfl
    have ef := ef (pl w p s) (.dct ((can S).map kP) (List.replicate (can S).length (.bl true)))
    show mCallF f_leaves [none, none] [] (mCons (mVar 1) (mCons (mFldO 0 "there") mNil)) [some (.obj "Mesh" ["plan", "there"] [pl w p s, .dct ((can S).map kP) (List.replicate (can S).length (.bl true))]), some (pl w p s), some (.lst (S.map ptP)), some .non] = _
    generalize D.dct ((can S).map kP) (List.replicate (can S).length (.bl true)) = DD at *
    generalize (mshT w p s (can S)).map Tr.D = TT at *
    generalize pl w p s = PL at *
    generalize S.map ptP = LS at *
    simp [sSeq, sSet, sRet, sRetN, sExp, sIf, sNil, sAsg, sPar, mVar, mK, mOp, mUn, mTst_e, tstK, mAnd, mOr, mNot, mAndV_e, andK, mOrV_e, orK, mNotV_e, notK, mIf, mEq, mNe, dEq_int, dEq_bl, mIsN, D.isNon, mCons, mNil, mTup, mLst, mMov, mCall, bLen, bAbs, mIsi, isT, D.isDct, mCallF_e, callK, callO, callR, fill, puts, mOwnA, gN, gT, gC, gE, SO.opt, dAdd, dSub, dLt, dLe, dGt, dGe, dNeg, mChain_e, chK, mTru, dTru, mSeqI, mRng, msk, ix2_0, ix2_1, ix3_0, ix3_1, ix3_2, mDNew, mMov, SO.opt, ef, e3]) rfl (by decide) (by decide)) rfl
theorem fld_mesh0 {w p s : Int} {S : List I2} {m : M} {st s1 : Env} (hm : m st = .ok (meshD w p s S) s1) : mFld "Mesh" "plan" m st = .ok (pl w p s) s1 := by
  unfold mFld
  rw [hm]
  rfl
theorem fld_mesh1 {w p s : Int} {S : List I2} {m : M} {st s1 : Env} (hm : m st = .ok (meshD w p s S) s1) : mFld "Mesh" "there" m st = .ok (.dct (S.map kP) (List.replicate S.length (.bl true))) s1 := by
  unfold mFld
  rw [hm]
  rfl
theorem fld_mesh2 {w p s : Int} {S : List I2} {m : M} {st s1 : Env} (hm : m st = .ok (meshD w p s S) s1) : mFld "Mesh" "parts" m st = .ok (.lst ((mshT w p s S).map Tr.D)) s1 := by
  unfold mFld
  rw [hm]
  rfl
theorem mesh_len_ev {w p s : Int} {S : List I2} : f_Mesh_len [meshD w p s S] = .ok (.int (mshT w p s S).length) [none] := by
  refine run_eq f_Mesh_len_eq (by conv => lhs; simp) ?_
  have e := fld_mesh2 (w := w) (p := p) (s := s) (S := S) (m := mVar 0) (st := [some (meshD w p s S)]) (s1 := [some (meshD w p s S)]) rfl
  refine nx_is (o := .rt (.int (mshT w p s S).length) [some (meshD w p s S)]) ?_ rfl
  unfold m_Mesh_len sRet mCall mCons
  rw [e]
  show SO.rt (.int (((mshT w p s S).map Tr.D).length : Nat)) _ = _
  rw [List.length_map]
theorem make_mesh {w p s : Int} (h : Plan w p s) {S : List I2} (hS : ∀ a ∈ S, isCut w p s a) (hl : S.length < 16000000) (hc : ∀ a ∈ S, ∀ b ∈ upI w p s a, b ∈ S) {ms : MA} {st s1 : Env} (hm : ms st = .ok [pl w p s, .lst (S.map ptP)] s1) : mMake "Mesh" f_Mesh_init [] ms st = .ok (meshD w p s (can S)) s1 := by
  have e := mesh_init_ev h hS hl hc
  unfold mMake
  rw [hm, R.bind_ok]
  show (match f_Mesh_init [.obj "Mesh" [] [], pl w p s, .lst (S.map ptP)] with
    | .ok .non (some (.obj c' ns fs) :: _) => (R.ok (D.obj c' ns fs) s1 : R D)
    | .ok _ _ => .stuck
    | .err er _ => .err er s1
    | .stuck => .stuck) = _
  rw [e]
  rfl
theorem meth_mesh {w p s : Int} {S : List I2} {m : Str} {f : List D → R D} {mo : M} {ms : MA} {ds : List D} {r : D} {st s1 s2 e' : Env} (hm : m ∉ (["plan", "there", "parts"] : List Str)) (h1 : mo st = .ok (meshD w p s S) s1) (h2 : ms s1 = .ok ds s2) (h3 : f (meshD w p s S :: ds) = .ok r e') : mMeth "Mesh" m f [] mo ms st = .ok r s2 := by
  unfold mMeth
  rw [h1, R.bind_ok]
  show (if (("Mesh" : Str) = "Mesh" ∧ m ∉ (["plan", "there", "parts"] : List Str)) ∧ ("Mesh" : Str) ≠ "()" then (ms s1).bind fun ds s2 => match f (meshD w p s S :: (ds ++ [])) with
      | .ok r _ => .ok r s2
      | .err er _ => .err er s2
      | .stuck => .stuck
    else .stuck) = _
  rw [if_pos ⟨⟨rfl, hm⟩, by decide⟩, h2, R.bind_ok, List.append_nil, h3]
theorem hasM_ext {C C' : List I2} (h : ∀ a, a ∈ C ↔ a ∈ C') (t : Tr) : hasM C t = hasM C' t := by
  unfold hasM
  congr 1
  rw [Bool.eq_iff_iff, decide_eq_true_iff, decide_eq_true_iff]
  exact h _
theorem lvs_ext {C C' : List I2} (h : ∀ a, a ∈ C ↔ a ∈ C') : ∀ (n : Nat) (t : Tr), lvs C n t = lvs C' n t
  | 0, _ => rfl
  | n + 1, t => by
    unfold lvs
    rw [hasM_ext h, lvs_ext h n (h1 t), lvs_ext h n (h2 t)]
theorem mshT_ext {w p s : Int} {C C' : List I2} (h : ∀ a, a ∈ C ↔ a ∈ C') : mshT w p s C = mshT w p s C' := by
  unfold mshT
  exact congrArg (fun f => (rts w p s).flatMap f) (funext fun t => lvs_ext h 8 t)
theorem keys_pts (S : List I2) : (S.map kP).map kDs = S.map ptP := by
  rw [List.map_map]
  exact List.map_congr_left fun a _ => kDs_kP a
theorem mesh_cuts_ev {w p s : Int} {S : List I2} : f_Mesh_cuts [meshD w p s S] = .ok (.lst (S.map ptP)) [none] := by
  refine run_eq f_Mesh_cuts_eq (by conv => lhs; simp) ?_
  have e := fld_mesh1 (w := w) (p := p) (s := s) (S := S) (m := mVar 0) (st := [some (meshD w p s S)]) (s1 := [some (meshD w p s S)]) rfl
  refine nx_is (o := .rt (.lst (S.map ptP)) [some (meshD w p s S)]) ?_ rfl
  unfold m_Mesh_cuts sRet mNewL
  rw [e, ← keys_pts]
  rfl
theorem cut_loop {w p s : Int} {S : List I2} {a : I2} : ∀ (bs : List I2) (o : Option D), ∃ o', forM (gN 2) m_Mesh_cut_5 (bs.map ptP) [some (meshD w p s S), some (ptP a), o] =
    (match lackU S bs with
      | some b => SO.err ⟨"Cracked", ["other", "at"], [ptP b, ptP a]⟩ [some (meshD w p s S), some (ptP a), o']
      | none => SO.nx [some (meshD w p s S), some (ptP a), o'])
  | [], o => ⟨o, rfl⟩
  | b :: bs, o => by
    have hin := dInD_pt (ks := S) (vs := List.replicate S.length (.bl true)) (b := b)
    have fm := fld_mesh1 (w := w) (p := p) (s := s) (S := S) (m := mVar 0) (st := [some (meshD w p s S), some (ptP a), some (ptP b)]) (s1 := [some (meshD w p s S), some (ptP a), some (ptP b)]) rfl
    by_cases hb : b ∈ S
    · rw [decide_eq_true hb] at hin
      obtain ⟨o', ih⟩ := cut_loop (w := w) (p := p) (s := s) (S := S) (a := a) bs (some (ptP b))
      refine ⟨o', ?_⟩
      have hB : m_Mesh_cut_5 [some (meshD w p s S), some (ptP a), some (ptP b)] = .nx [some (meshD w p s S), some (ptP a), some (ptP b)] := by
        generalize meshD w p s S = MD at *
        generalize D.dct (S.map kP) (List.replicate S.length (.bl true)) = DD at *
        generalize ptP b = B at *
        generalize ptP a = A at *
        simp [sSeq, sSet, sRet, sRetN, sExp, sIf, sNil, sAsg, sPar, mVar, mK, mOp, mUn, mTst_e, tstK, mAnd, mOr, mNot, mAndV_e, andK, mOrV_e, orK, mNotV_e, notK, mIf, mEq, mNe, dEq_int, dEq_bl, mIsN, D.isNon, mCons, mNil, mTup, mLst, mMov, mCall, bLen, bAbs, mIsi, isT, D.isDct, mCallF_e, callK, callO, callR, fill, puts, mOwnA, gN, gT, gC, gE, SO.opt, dAdd, dSub, dLt, dLe, dGt, dGe, dNeg, mChain_e, chK, mTru, dTru, mSeqI, mRng, msk, ix2_0, ix2_1, ix3_0, ix3_1, ix3_2, mDNew, mMov, SO.opt, m_Mesh_cut_5, m_Mesh_cut_6, mInD, fm, hin]
      rw [List.map_cons]
      unfold lackU
      rw [if_pos hb, ← ih]
      show (match m_Mesh_cut_5 _ with | .nx s2 => forM (gN 2) _ (bs.map ptP) s2 | .ct s2 => forM (gN 2) _ (bs.map ptP) s2 | .bk s2 => .nx s2 | .rt d s2 => .rt d s2 | .err e s2 => .err e s2 | .stuck => .stuck) = _
      rw [show [some (meshD w p s S), some (ptP a), o].set 2 (some (ptP b)) = [some (meshD w p s S), some (ptP a), some (ptP b)] from rfl, hB]
    · rw [decide_eq_false hb] at hin
      refine ⟨some (ptP b), ?_⟩
      have hB : m_Mesh_cut_5 [some (meshD w p s S), some (ptP a), some (ptP b)] = .err ⟨"Cracked", ["other", "at"], [ptP b, ptP a]⟩ [some (meshD w p s S), some (ptP a), some (ptP b)] := by
        generalize meshD w p s S = MD at *
        generalize D.dct (S.map kP) (List.replicate S.length (.bl true)) = DD at *
        generalize ptP b = B at *
        generalize ptP a = A at *
        simp [sSeq, sSet, sRet, sRetN, sExp, sIf, sNil, sAsg, sPar, mVar, mK, mOp, mUn, mTst_e, tstK, mAnd, mOr, mNot, mAndV_e, andK, mOrV_e, orK, mNotV_e, notK, mIf, mEq, mNe, dEq_int, dEq_bl, mIsN, D.isNon, mCons, mNil, mTup, mLst, mMov, mCall, bLen, bAbs, mIsi, isT, D.isDct, mCallF_e, callK, callO, callR, fill, puts, mOwnA, gN, gT, gC, gE, SO.opt, dAdd, dSub, dLt, dLe, dGt, dGe, dNeg, mChain_e, chK, mTru, dTru, mSeqI, mRng, msk, ix2_0, ix2_1, ix3_0, ix3_1, ix3_2, mDNew, mMov, SO.opt, m_Mesh_cut_5, m_Mesh_cut_6, mInD, fm, hin, sRaise]
      rw [List.map_cons]
      unfold lackU
      rw [if_neg hb]
      show (match m_Mesh_cut_5 _ with | .nx s2 => forM (gN 2) _ (bs.map ptP) s2 | .ct s2 => forM (gN 2) _ (bs.map ptP) s2 | .bk s2 => .nx s2 | .rt d s2 => .rt d s2 | .err e s2 => .err e s2 | .stuck => .stuck) = _
      rw [show [some (meshD w p s S), some (ptP a), o].set 2 (some (ptP b)) = [some (meshD w p s S), some (ptP a), some (ptP b)] from rfl, hB]
theorem lackU_none {T : List I2} : ∀ {L : List I2}, lackU T L = none → ∀ b ∈ L, b ∈ T
  | [], _, b, hb => by cases hb
  | c :: L, h, b, hb => by
    unfold lackU at h
    by_cases hc : c ∈ T
    · rw [if_pos hc] at h
      rcases List.mem_cons.mp hb with q | q
      · rw [q]; exact hc
      · exact lackU_none h b q
    · rw [if_neg hc] at h
      cases h
def twiceE (a : I2) : Err := ⟨"Twice", ["at"], [ptP a]⟩
def torn (a b : I2) : Err := ⟨"Cracked", ["other", "at"], [ptP b, ptP a]⟩
/-- a cut more -/
theorem mesh_cut_ev {w p s : Int} (h : Plan w p s) {S : List I2} (hS : ∀ x ∈ S, isCut w p s x) (hl : S.length < 15000000) (hc : ∀ x ∈ S, ∀ b ∈ upI w p s x, b ∈ S) {a : I2} (ha : isCut w p s a) :
    f_Mesh_cut [meshD w p s S, ptP a] = if a ∈ S then .err (twiceE a) [none, none] else
      match lackU S (upI w p s a) with
      | some b => .err (torn a b) [none, none]
      | none => .ok (meshD w p s (can (S ++ [a]))) [none, none] := by
  refine run_eq f_Mesh_cut_eq (by conv => lhs; simp) ?_
  have ec : f_cut_only [pl w p s, ptP a] = .ok .non [none, none] := cut_only_ev ha
  have ep := par_ev ha
  have f0 := fun o : Option D => fld_mesh0 (w := w) (p := p) (s := s) (S := S) (m := mVar 0) (st := [some (meshD w p s S), some (ptP a), o]) (s1 := [some (meshD w p s S), some (ptP a), o]) rfl
  have f1 := fun o : Option D => fld_mesh1 (w := w) (p := p) (s := s) (S := S) (m := mVar 0) (st := [some (meshD w p s S), some (ptP a), o]) (s1 := [some (meshD w p s S), some (ptP a), o]) rfl
  refine nx_step rfl (show _ = SO.nx [some (meshD w p s S), some (ptP a), none] by
    generalize meshD w p s S = MD at *
    generalize pl w p s = PL at *
    generalize ptP a = A at *
    simp [sSeq, sSet, sRet, sRetN, sExp, sIf, sNil, sAsg, sPar, mVar, mK, mOp, mUn, mTst_e, tstK, mAnd, mOr, mNot, mAndV_e, andK, mOrV_e, orK, mNotV_e, notK, mIf, mEq, mNe, dEq_int, dEq_bl, mIsN, D.isNon, mCons, mNil, mTup, mLst, mMov, mCall, bLen, bAbs, mIsi, isT, D.isDct, mCallF_e, callK, callO, callR, fill, puts, mOwnA, gN, gT, gC, gE, SO.opt, dAdd, dSub, dLt, dLe, dGt, dGe, dNeg, mChain_e, chK, mTru, dTru, mSeqI, mRng, msk, ix2_0, ix2_1, ix3_0, ix3_1, ix3_2, mDNew, mMov, SO.opt, f0, ec]) ?_
  have hin := dInD_pt (ks := S) (vs := List.replicate S.length (.bl true)) (b := a)
  by_cases hb : a ∈ S
  · rw [decide_eq_true hb] at hin
    rw [if_pos hb]
    refine nx_is (o := .err (twiceE a) [some (meshD w p s S), some (ptP a), none]) (by
      unfold twiceE
      generalize meshD w p s S = MD at *
      generalize D.dct (S.map kP) (List.replicate S.length (.bl true)) = DD at *
      generalize ptP a = A at *
      simp [sSeq, sSet, sRet, sRetN, sExp, sIf, sNil, sAsg, sPar, mVar, mK, mOp, mUn, mTst_e, tstK, mAnd, mOr, mNot, mAndV_e, andK, mOrV_e, orK, mNotV_e, notK, mIf, mEq, mNe, dEq_int, dEq_bl, mIsN, D.isNon, mCons, mNil, mTup, mLst, mMov, mCall, bLen, bAbs, mIsi, isT, D.isDct, mCallF_e, callK, callO, callR, fill, puts, mOwnA, gN, gT, gC, gE, SO.opt, dAdd, dSub, dLt, dLe, dGt, dGe, dNeg, mChain_e, chK, mTru, dTru, mSeqI, mRng, msk, ix2_0, ix2_1, ix3_0, ix3_1, ix3_2, mDNew, mMov, SO.opt, m_Mesh_cut_2, m_Mesh_cut_3, mInD, f1, hin, sRaise]) ?_
    rfl
  · rw [decide_eq_false hb] at hin
    rw [if_neg hb]
    refine nx_step rfl (show _ = SO.nx [some (meshD w p s S), some (ptP a), none] by
      generalize meshD w p s S = MD at *
      generalize D.dct (S.map kP) (List.replicate S.length (.bl true)) = DD at *
      generalize ptP a = A at *
      simp [sSeq, sSet, sRet, sRetN, sExp, sIf, sNil, sAsg, sPar, mVar, mK, mOp, mUn, mTst_e, tstK, mAnd, mOr, mNot, mAndV_e, andK, mOrV_e, orK, mNotV_e, notK, mIf, mEq, mNe, dEq_int, dEq_bl, mIsN, D.isNon, mCons, mNil, mTup, mLst, mMov, mCall, bLen, bAbs, mIsi, isT, D.isDct, mCallF_e, callK, callO, callR, fill, puts, mOwnA, gN, gT, gC, gE, SO.opt, dAdd, dSub, dLt, dLe, dGt, dGe, dNeg, mChain_e, chK, mTru, dTru, mSeqI, mRng, msk, ix2_0, ix2_1, ix3_0, ix3_1, ix3_2, mDNew, mMov, SO.opt, m_Mesh_cut_3, mInD, f1, hin]) ?_
    obtain ⟨o', lo⟩ := cut_loop (w := w) (p := p) (s := s) (S := S) (a := a) (upI w p s a) none
    have ei : mSeqI (mCallF f_parents [none, none] [] (mCons (mFld "Mesh" "plan" (mVar 0)) (mCons (mVar 1) mNil))) [some (meshD w p s S), some (ptP a), none] = .ok ((upI w p s a).map ptP) [some (meshD w p s S), some (ptP a), none] := by
      generalize meshD w p s S = MD at *
      generalize pl w p s = PL at *
      generalize ptP a = A at *
      simp [sSeq, sSet, sRet, sRetN, sExp, sIf, sNil, sAsg, sPar, mVar, mK, mOp, mUn, mTst_e, tstK, mAnd, mOr, mNot, mAndV_e, andK, mOrV_e, orK, mNotV_e, notK, mIf, mEq, mNe, dEq_int, dEq_bl, mIsN, D.isNon, mCons, mNil, mTup, mLst, mMov, mCall, bLen, bAbs, mIsi, isT, D.isDct, mCallF_e, callK, callO, callR, fill, puts, mOwnA, gN, gT, gC, gE, SO.opt, dAdd, dSub, dLt, dLe, dGt, dGe, dNeg, mChain_e, chK, mTru, dTru, mSeqI, mRng, msk, ix2_0, ix2_1, ix3_0, ix3_1, ix3_2, mDNew, mMov, SO.opt, f0, ep]
    have hB := sFor_ev ei lo
    unfold m_Mesh_cut_4
    show Hs _ ((sFor _ (gN 2) m_Mesh_cut_5 _).bind m_Mesh_cut_7)
    rw [hB]
    cases hk : lackU S (upI w p s a) with
    | some b => rfl
    | none =>
      have hal : ∀ x ∈ S ++ [a], isCut w p s x := fun x hx => (List.mem_append.mp hx).elim (hS x) fun q => by rw [List.mem_singleton.mp q]; exact ha
      have hup : ∀ b ∈ upI w p s a, b ∈ S := lackU_none hk
      have hcl : ∀ x ∈ S ++ [a], ∀ b ∈ upI w p s x, b ∈ S ++ [a] := fun x hx b hb2 => List.mem_append.mpr (.inl ((List.mem_append.mp hx).elim (fun q => hc x q b hb2) fun q => by rw [List.mem_singleton.mp q] at hb2; exact hup b hb2))
      have em := make_mesh h hal (by rw [List.length_append]; simp only [List.length_cons, List.length_nil]; omega) hcl (ms := mCons (mFld "Mesh" "plan" (mVar 0)) (mCons (mCat (mMeth "Mesh" "cuts" f_Mesh_cuts [] (mVar 0) mNil) (mLst (mCons (mVar 1) mNil))) mNil)) (st := [some (meshD w p s S), some (ptP a), o']) (s1 := [some (meshD w p s S), some (ptP a), o']) (by
        have e2 := meth_mesh (w := w) (p := p) (s := s) (S := S) (m := "cuts") (f := f_Mesh_cuts) (mo := mVar 0) (ms := mNil) (ds := []) (st := [some (meshD w p s S), some (ptP a), o']) (s1 := [some (meshD w p s S), some (ptP a), o']) (s2 := [some (meshD w p s S), some (ptP a), o']) (by decide) rfl rfl mesh_cuts_ev
        have f0 := f0 o'
        rw [List.map_append]
        show _ = R.ok [pl w p s, .lst (S.map ptP ++ [ptP a])] _
        have el : (S.map ptP).length + 1 < 16000000 := by rw [List.length_map]; omega
        generalize meshD w p s S = MD at *
        generalize pl w p s = PL at *
        generalize S.map ptP = LS at *
        generalize ptP a = A at *
        simp [sSeq, sSet, sRet, sRetN, sExp, sIf, sNil, sAsg, sPar, mVar, mK, mOp, mUn, mTst_e, tstK, mAnd, mOr, mNot, mAndV_e, andK, mOrV_e, orK, mNotV_e, notK, mIf, mEq, mNe, dEq_int, dEq_bl, mIsN, D.isNon, mCons, mNil, mTup, mLst, mMov, mCall, bLen, bAbs, mIsi, isT, D.isDct, mCallF_e, callK, callO, callR, fill, puts, mOwnA, gN, gT, gC, gE, SO.opt, dAdd, dSub, dLt, dLe, dGt, dGe, dNeg, mChain_e, chK, mTru, dTru, mSeqI, mRng, msk, ix2_0, ix2_1, ix3_0, ix3_1, ix3_2, mDNew, mMov, SO.opt, f0, e2, mCat, dCat, el])
      show Hs _ (m_Mesh_cut_7 [some (meshD w p s S), some (ptP a), o'])
      refine nx_is (m := m_Mesh_cut_7) (s := [some (meshD w p s S), some (ptP a), o']) (o := .rt (meshD w p s (can (S ++ [a]))) [some (meshD w p s S), some (ptP a), o']) (by
        unfold m_Mesh_cut_7 sRet
        rw [em]
        rfl) ?_
      rfl
theorem dEq_ptP (x a : I2) : dEq (ptP x) (ptP a) = some (decide (x = a)) := by
  obtain ⟨x1, x2⟩ := x
  obtain ⟨a1, a2⟩ := a
  refine (dEq_pt (a := x1) (b := x2) (c := a1) (d := a2)).trans ?_
  have q : (x1 == a1 && x2 == a2) = decide ((x1, x2) = (a1, a2)) := by
    rw [Bool.eq_iff_iff]
    simp
  rw [q]
def qP (a : I2) : D := ptP a
def qL (S : List I2) : D := .lst (S.map qP)
def qPl (w p s : Int) : D := pl w p s
def qT (t : Tr) : D := t.D
def qTs (L : List Tr) : D := .lst (L.map qT)
def qS (S : List I2) : D := .dct (S.map kP) (List.replicate S.length (.bl true))
def qM (w p s : Int) (S : List I2) : D := meshD w p s S
theorem qP_x (a : I2) : dIx (qP a) (.int 0) = some (.int a.1) := rfl
theorem qP_y (a : I2) : dIx (qP a) (.int 1) = some (.int a.2) := rfl
theorem qPl_w (w p s : Int) : dIx (qPl w p s) (.int 0) = some (.int w) := rfl
theorem qPl_p (w p s : Int) : dIx (qPl w p s) (.int 1) = some (.int p) := rfl
theorem qPl_s (w p s : Int) : dIx (qPl w p s) (.int 2) = some (.int s) := rfl
theorem qP_in (a : I2) (L : List I2) : dIn (qP a) (qL L) = some (decide (a ∈ L)) := dIn_ptL a L
theorem qP_eq (a b : I2) : dEq (qP a) (qP b) = some (decide (a = b)) := dEq_ptP a b
theorem qP_inD (a : I2) (L : List I2) : dInD (qP a) (qS L) = some (decide (a ∈ L)) := dInD_pt
theorem qL_len (L : List I2) : bLen [qL L] = some (.int L.length) := by
  show some (D.int ((L.map qP).length : Nat)) = _
  rw [List.length_map]
theorem qTs_len (L : List Tr) : bLen [qTs L] = some (.int L.length) := by
  show some (D.int ((L.map qT).length : Nat)) = _
  rw [List.length_map]
theorem qL_one (a : I2) : D.lst [qP a] = qL [a] := rfl
theorem qL_nil : D.lst [] = qL [] := rfl
theorem qL_two (a b : I2) : D.lst [qP a, qP b] = qL [a, b] := rfl
theorem qL_map (L : List I2) : D.lst (L.map qP) = qL L := rfl
theorem qTs_map (L : List Tr) : D.lst (L.map qT) = qTs L := rfl
theorem qL_seq (L : List I2) : seqI (qL L) = some (L.map qP) := rfl
theorem qTs_seq (L : List Tr) : seqI (qTs L) = some (L.map qT) := rfl
theorem qS_keys (L : List I2) : keysI (qS L) = some (L.map qP) := congrArg some (keys_pts L)
theorem qL_cat {L M : List I2} (h : L.length + M.length < 16000000) : dCat (qL L) (qL M) = some ((L ++ M).map qP) := by
  show (if (L.map qP).length + (M.map qP).length < 16000000 then some (L.map qP ++ M.map qP) else none) = _
  rw [if_pos (by rw [List.length_map, List.length_map]; omega), List.map_append]
theorem qL_sorted (L : List I2) : dSorted (qL L) = some ((L.mergeSort leP).map qP) := dSorted_pts L
theorem qL_list (L : List I2) : dList (qL L) = some (L.map qP) := rfl
theorem qTs_list (L : List Tr) : dList (qTs L) = some (L.map qT) := rfl
theorem qP_non (a : I2) : D.isNon (qP a) = false := rfl
theorem qL_non (L : List I2) : D.isNon (qL L) = false := rfl
theorem qM_non (w p s : Int) (S : List I2) : D.isNon (qM w p s S) = false := rfl
theorem qM_obj (w p s : Int) (S : List I2) : (qM w p s S).isObj = true := rfl
theorem qM_isO (w p s : Int) (S : List I2) : isO "Mesh" (qM w p s S) = true := rfl
theorem qM_isi (w p s : Int) (S : List I2) : isiD "Mesh" (qM w p s S) = some (.bl true) := rfl
theorem qM_plan (w p s : Int) (S : List I2) : fldC "Mesh" "plan" (qM w p s S) = some (qPl w p s) := rfl
theorem qM_there (w p s : Int) (S : List I2) : fldC "Mesh" "there" (qM w p s S) = some (qS S) := rfl
theorem qM_parts (w p s : Int) (S : List I2) : fldC "Mesh" "parts" (qM w p s S) = some (qTs (mshT w p s S)) := rfl
theorem qM_isM (w p s : Int) (S : List I2) (m : Str) (h : (decide (m ∉ (["plan", "there", "parts"] : List Str))) = true := by decide) : isM "Mesh" m (qM w p s S) = true := decide_eq_true ⟨⟨rfl, of_decide_eq_true h⟩, by decide⟩
theorem qM_cut (w p s : Int) (S : List I2) : isM "Mesh" "cut" (qM w p s S) = true := qM_isM w p s S "cut"
theorem qM_mend (w p s : Int) (S : List I2) : isM "Mesh" "mend" (qM w p s S) = true := qM_isM w p s S "mend"
theorem qM_cuts (w p s : Int) (S : List I2) : isM "Mesh" "cuts" (qM w p s S) = true := qM_isM w p s S "cuts"
theorem qM_tris (w p s : Int) (S : List I2) : isM "Mesh" "triangles" (qM w p s S) = true := qM_isM w p s S "triangles"
theorem qP_mk (x y : Int) : D.tup [.int x, .int y] = qP (x, y) := rfl
theorem qL_s1 (a : I2) : slcD none (some 1) (qL [a]) = some (qL [a]) := rfl
theorem qL_s0 (a : I2) : slcD none (some 0) (qL [a]) = some (qL []) := rfl
theorem qZ_lst (ds : List D) : seqI (.lst ds) = some ds := rfl
theorem qZ_tup (ds : List D) : seqI (.tup ds) = some ds := rfl
theorem qM_mk (w p s : Int) (S : List I2) (s1 e : Env) : mkR s1 (.ok .non (some (qM w p s S) :: e)) = .ok (qM w p s S) s1 := rfl
theorem qN_non : D.isNon .non = true := rfl
theorem qN_bl (b : Bool) : D.isNon (.bl b) = false := rfl
theorem qN_int (b : Int) : D.isNon (.int b) = false := rfl
theorem qN_str (b : Str) : D.isNon (.str b) = false := rfl
theorem qN_tup (b : List D) : D.isNon (.tup b) = false := rfl
theorem qN_lst (b : List D) : D.isNon (.lst b) = false := rfl
theorem qB_lst (ds : List D) : bLen [.lst ds] = some (.int ds.length) := rfl
theorem qB_tup (ds : List D) : bLen [.tup ds] = some (.int ds.length) := rfl
theorem qL_unX (S : List I2) : unX (qL S) = qL S := rfl
theorem qL_itX (S : List I2) : itX (qL S) = some (S.map qP) := rfl
theorem qL_lstOf (S : List I2) : lstOf (qL S) = some (S.map qP) := rfl
theorem qTs_unX (S : List Tr) : unX (qTs S) = qTs S := rfl
theorem qTs_itX (S : List Tr) : itX (qTs S) = some (S.map qT) := rfl
theorem qTs_lstOf (S : List Tr) : lstOf (qTs S) = some (S.map qT) := rfl
theorem qTr_bl (b : Bool) : dTru (.bl b) = some b := rfl
theorem qTr_non : dTru .non = some false := rfl
theorem qTr_int (i : Int) : dTru (.int i) = some (i != 0) := rfl
theorem qTr_tup (L : List D) : dTru (.tup L) = some (!L.isEmpty) := rfl
theorem qTr_lst (L : List D) : dTru (.lst L) = some (!L.isEmpty) := rfl
theorem qTr_qL (S : List I2) : dTru (qL S) = some (!S.isEmpty) := by cases S <;> rfl
theorem q_init {w p s : Int} (h : Plan w p s) {S : List I2} (hS : ∀ a ∈ S, isCut w p s a) (hl : S.length < 16000000) (hc : ∀ a ∈ S, ∀ b ∈ upI w p s a, b ∈ S) : f_Mesh_init [.obj "Mesh" [] [], qPl w p s, qL S] = .ok .non [some (qM w p s (can S)), none, none] := mesh_init_ev h hS hl hc
def eTorn (a b : I2) : Err := ⟨"Cracked", ["other", "at"], [qP b, qP a]⟩
def eOut (a : I2) : Err := ⟨"NotIn", ["at"], [qP a]⟩
def eTwice (a : I2) : Err := ⟨"Twice", ["at"], [qP a]⟩
theorem q_ws {w p s : Int} (h : Plan w p s) : dMul (.int w) (.int s) = some (.int (w * s)) := dMul_l (by have := h.w; omega) (by have := h.w; omega)
theorem q_ps {w p s : Int} (h : Plan w p s) : dMul (.int p) (.int s) = some (.int (p * s)) := dMul_l (by have := h.p; omega) (by have := h.p; omega)
theorem q_some {w p s : Int} (h : Plan w p s) {b : D} (hb : IsBag b) : ∃ (S : List I2) (b' : D), f_lw_some [b, qPl w p s] = .ok (qL S) [some b', none] ∧ IsBag b' ∧ (∀ a ∈ S, isCut w p s a) ∧ S.length ≤ 625 ∧ S.Pairwise ltP2 ∧ ∀ a ∈ S, ∀ c ∈ upI w p s a, c ∈ S := lw_some_ev h hb
theorem q_plan {b : D} (hb : IsBag b) : ∃ w p s b', f_lw_plan [b] = .ok (qPl w p s) [some b'] ∧ Plan w p s ∧ IsBag b' := by
  obtain ⟨w, p, s, b', e, _, h, hb'⟩ := lw_plan_ev hb
  exact ⟨w, p, s, b', e, h, hb'⟩
def lackI (S L : List I2) : Option I2 := L.find? fun b => decide (b ∉ S)
theorem lackI_eq (S : List I2) : ∀ L, lackU S L = lackI S L
  | [] => rfl
  | b :: L => by
    unfold lackU lackI
    by_cases h : b ∈ S
    · rw [if_pos h, List.find?_cons_of_neg (by simpa using h), lackI_eq S L]; rfl
    · rw [if_neg h, List.find?_cons_of_pos (by simpa using h)]
theorem q_cut {w p s : Int} (h : Plan w p s) {S : List I2} (hS : ∀ x ∈ S, isCut w p s x) (hl : S.length < 15000000) (hc : ∀ x ∈ S, ∀ b ∈ upI w p s x, b ∈ S) {a : I2} (ha : isCut w p s a) :
    f_Mesh_cut [qM w p s S, qP a] = if a ∈ S then .err (eTwice a) [none, none] else
      match lackI S (upI w p s a) with
      | some b => .err (eTorn a b) [none, none]
      | none => .ok (qM w p s (can (S ++ [a]))) [none, none] := by
  rw [← lackI_eq]
  exact mesh_cut_ev h hS hl hc ha
def eNoPl (a : I2) : Err := ⟨"NoPlace", ["at"], [qP a]⟩
def eNoCt (a : I2) : Err := ⟨"NoCut", ["at"], [qP a]⟩
theorem flat_le {α β : Type} {f : α → List β} {k : Nat} : ∀ {L : List α}, (∀ a ∈ L, (f a).length ≤ k) → (L.flatMap f).length ≤ L.length * k
  | [], _ => Nat.zero_le _
  | a :: L, h => by
    have ih := flat_le (f := f) (k := k) (L := L) fun x hx => h x (List.mem_cons_of_mem _ hx)
    have h1 := h a List.mem_cons_self
    rw [List.flatMap_cons, List.length_append, List.length_cons, Nat.succ_mul]
    omega
theorem mshT_le {w p s : Int} (h : Plan w p s) (T : List I2) : (mshT w p s T).length ≤ 4608 := by
  have e := flat_le (f := lvs T 8) (k := 256) (L := rts w p s) fun t _ => lvs_len T 8 t
  have q := (rts_fit h).2.2
  unfold mshT
  omega
theorem msh_len {w p s : Int} (h : Plan w p s) (T : List I2) : (mshT w p s T).length < 16000000 := by
  have := mshT_le h T
  omega
def keD (g : I2 → Int) (a : I2) : D := .tup [.int (g a), qP a]
def leK (g : I2 → Int) (a b : I2) : Bool := dSle (keD g a) (keD g b)
theorem alike_keD (g : I2 → Int) (a b : I2) : PySem.W.alike (keD g a).py (keD g b).py = true := by
  show PySem.W.alike (.tuple [.int (g a), .tuple [.int a.1, .int a.2]]) (.tuple [.int (g b), .tuple [.int b.1, .int b.2]]) = true
  simp [PySem.W.alike, PySem.W.alikeAll]
theorem flats_keD (g : I2 → Int) (L : List I2) : D.flats 60 (L.map (keD g)) = true := by
  induction L with
  | nil => rfl
  | cons a L ih =>
    show (D.flat 60 (keD g a) && D.flats 60 (L.map (keD g))) = true
    rw [ih]
    rfl
theorem sortOk_keD (g : I2 → Int) (L : List I2) : sortOk (L.map (keD g)) = true := by
  unfold sortOk
  rw [flats_keD, Bool.true_and, Bool.and_eq_true, List.all_eq_true]
  refine ⟨fun d hd => List.all_eq_true.mpr fun e he => ?_, ?_⟩
  · obtain ⟨a, _, rfl⟩ := List.mem_map.mp hd
    obtain ⟨b, _, rfl⟩ := List.mem_map.mp he
    exact alike_keD g a b
  · rw [Bool.or_eq_true]
    refine .inl (List.all_eq_true.mpr fun d hd => ?_)
    obtain ⟨a, _, rfl⟩ := List.mem_map.mp hd
    rfl
theorem keysM_map {α : Type} {k : D → Option D} {q κ : α → D} : ∀ {L : List α}, (∀ a ∈ L, k (q a) = some (κ a)) → keysM k (L.map q) = some (L.map κ)
  | [], _ => rfl
  | a :: L, h => by
    rw [List.map_cons, List.map_cons]
    unfold keysM
    rw [h a List.mem_cons_self, keysM_map fun x hx => h x (List.mem_cons_of_mem _ hx)]
theorem q_sortK {ma kb : M} {js : List Nat} {s s1 : Env} {L : List I2} {g : I2 → Int} (hm : ma s = .ok (qL L) s1) (hk : ∀ a ∈ L, ∃ s', kb (some (qP a) :: js.map fun j => (s1[j]?).join) = .ok (keD g a) s') : mSortK ma kb js s = .ok (qL (L.mergeSort (leK g))) s1 := by
  unfold mSortK
  rw [hm, R.bind_ok]
  have e1 : keysM (keyM kb js s1) (L.map qP) = some (L.map (keD g)) := keysM_map fun a ha => by
    obtain ⟨s', e⟩ := hk a ha
    unfold keyM
    rw [e]
  show (match keysM (keyM kb js s1) (L.map qP) with
    | some zs => if sortOk zs = true then R.ok (D.lst (sortK (L.map qP) zs)) s1 else .stuck
    | none => .stuck) = _
  rw [e1]
  show (if sortOk (L.map (keD g)) = true then R.ok (D.lst (sortK (L.map qP) (L.map (keD g)))) s1 else .stuck) = _
  rw [if_pos (sortOk_keD g L), sortK_map]
  rfl
theorem q_lwlevel {w p s : Int} {a : I2} (ha : isCut w p s a) : f_lw_level [qPl w p s, qP a] = .ok (.int (lvI s a)) [none, none] := lw_level_ev ha
theorem dEq_pl (w p s w' p' s' : Int) : dEq (qPl w p s) (qPl w' p' s') = some (decide (w = w' ∧ p = p' ∧ s = s')) := by
  have e : ∀ b, D.eq (.tup [.int w, .int p, .int s]) (.tup [.int w', .int p', .int s']) = b → dEq (qPl w p s) (qPl w' p' s') = some b := fun b h => by
    rw [← h]
    rfl
  refine e _ ?_
  rw [Bool.eq_iff_iff]
  simp [D.eq, D.eqs]
theorem comp_a {α : Type} {mi : MA} {i : Nat} {e : M} {s s0 : Env} (L : List α) (q : α → D) (z : α → D) (hm : mi s = .ok (L.map q) s0) (hs : s0[i]? = some none) (hz : ∀ a ∈ L, ∃ o, e (s0.set i (some (q a))) = .ok (z a) (s0.set i o)) (hl : L.length < 16000000) : mComp mi (gN i) mYes e [i] s = .ok (D.lst (L.map z)) s0 := by
  have h := comp_q (c := mYes) (e := e) L q (fun _ => true) z hm hs (fun a _ => rfl) (fun a ha _ => hz a ha) hl
  rw [List.filter_eq_self.mpr fun _ _ => rfl] at h
  exact h
def qE : D := .obj "()" [] [.non]
theorem q_noted0 {d : D} : f_noted [d, qE] = .ok (qS []) [none, none] := by
  refine run_eq f_noted_eq (by conv => lhs; simp) ?_
  rfl
theorem q_crack0 {d : D} : f_crack [d, qE] = .ok .non [none, none] := by
  refine run_eq f_crack_eq (by conv => lhs; simp) ?_
  refine nx_step rfl (by conv => lhs; simp [sSeq, sSet, sRet, sRetN, sExp, sIf, sNil, sAsg, sPar, mVar, mK, mOp, mUn, mTst_e, tstK, mAnd, mOr, mNot, mAndV_e, andK, mOrV_e, orK, mNotV_e, notK, mIf, mEq, mNe, dEq_int, dEq_bl, mIsN, mCons, mNil, mTup, mLst, mMov, mCall, bAbs, mIsi, isT, D.isDct, mCallF_e, callK, callO, callR, fill, puts, mOwnA, gN, gT, gC, gE, SO.opt, dAdd, dSub, dLt, dLe, dGt, dGe, dNeg, mChain_e, chK, mTru, mSeqI_q, mKeysI_q, mFld_q, mMeth_q, mMake_q, mkR_err, clr_ok, clr_err, mIsiC_q, mLenM_q, mSlice_q, sTryRow_q, tryR_nx, tryR_err, mNewL, mCat, mInD, mInDN, mInB, sRaise, mVarX_q, varR, unX_own, unX_lst, unX_non, unX_tup, mLenX_q, itX_own, itX_lst, mIxX_q, atX_int, sAppX_q, appR_some, sInsX_q, insR_some, sSetXO_q, setR_some, lstOf_lst, ownOf_own, mOrT_e, orT,  mRng, msk, ix2_0, ix2_1, ix3_0, ix3_1, ix3_2, mDNew, mMov, SO.opt, qP_x, qP_y, qPl_w, qPl_p, qPl_s, qP_in, qP_eq, qP_inD, qL_len, qTs_len, qL_one, qL_nil, qL_two, qL_map, qTs_map, qL_seq, qTs_seq, qS_keys, qL_sorted, qL_list, qTs_list, qP_non, qL_non, qM_non, qM_obj, qM_isO, qM_isi, qM_plan, qM_there, qM_parts, qM_cut, qM_mend, qM_cuts, qM_tris, qP_mk, qL_s1, qL_s0, qZ_lst, qZ_tup, qM_mk, qN_non, qN_bl, qN_int, qN_str, qN_tup, qN_lst, qB_lst, qB_tup, qL_unX, qL_itX, qL_lstOf, qTs_unX, qTs_itX, qTs_lstOf, qTr_bl, qTr_non, qTr_int, qTr_tup, qTr_lst, qTr_qL, q_noted0]) ?_
  rfl
theorem q_init0 {w p s : Int} (h : Plan w p s) : f_Mesh_init [.obj "Mesh" [] [], qPl w p s, qE] = .ok .non [some (qM w p s []), none, none] := by
  refine run_eq f_Mesh_init_eq (by conv => lhs; simp) ?_
  have e1 := q_crack0 (d := qPl w p s)
  have e2 := q_noted0 (d := qPl w p s)
  have e3 : f_leaves [qPl w p s, qS []] = .ok (qTs (mshT w p s [])) [none, none] := leaves_ev h [] []
  refine nx_step rfl (by conv => lhs; simp [sSeq, sSet, sRet, sRetN, sExp, sIf, sNil, sAsg, sPar, mVar, mK, mOp, mUn, mTst_e, tstK, mAnd, mOr, mNot, mAndV_e, andK, mOrV_e, orK, mNotV_e, notK, mIf, mEq, mNe, dEq_int, dEq_bl, mIsN, mCons, mNil, mTup, mLst, mMov, mCall, bAbs, mIsi, isT, D.isDct, mCallF_e, callK, callO, callR, fill, puts, mOwnA, gN, gT, gC, gE, SO.opt, dAdd, dSub, dLt, dLe, dGt, dGe, dNeg, mChain_e, chK, mTru, mSeqI_q, mKeysI_q, mFld_q, mMeth_q, mMake_q, mkR_err, clr_ok, clr_err, mIsiC_q, mLenM_q, mSlice_q, sTryRow_q, tryR_nx, tryR_err, mNewL, mCat, mInD, mInDN, mInB, sRaise, mVarX_q, varR, unX_own, unX_lst, unX_non, unX_tup, mLenX_q, itX_own, itX_lst, mIxX_q, atX_int, sAppX_q, appR_some, sInsX_q, insR_some, sSetXO_q, setR_some, lstOf_lst, ownOf_own, mOrT_e, orT,  mRng, msk, ix2_0, ix2_1, ix3_0, ix3_1, ix3_2, mDNew, mMov, SO.opt, qP_x, qP_y, qPl_w, qPl_p, qPl_s, qP_in, qP_eq, qP_inD, qL_len, qTs_len, qL_one, qL_nil, qL_two, qL_map, qTs_map, qL_seq, qTs_seq, qS_keys, qL_sorted, qL_list, qTs_list, qP_non, qL_non, qM_non, qM_obj, qM_isO, qM_isi, qM_plan, qM_there, qM_parts, qM_cut, qM_mend, qM_cuts, qM_tris, qP_mk, qL_s1, qL_s0, qZ_lst, qZ_tup, qM_mk, qN_non, qN_bl, qN_int, qN_str, qN_tup, qN_lst, qB_lst, qB_tup, qL_unX, qL_itX, qL_lstOf, qTs_unX, qTs_itX, qTs_lstOf, qTr_bl, qTr_non, qTr_int, qTr_tup, qTr_lst, qTr_qL, e1]) ?_
  refine if_fn rfl (by conv => lhs; simp [sSeq, sSet, sRet, sRetN, sExp, sIf, sNil, sAsg, sPar, mVar, mK, mOp, mUn, mTst_e, tstK, mAnd, mOr, mNot, mAndV_e, andK, mOrV_e, orK, mNotV_e, notK, mIf, mEq, mNe, dEq_int, dEq_bl, mIsN, mCons, mNil, mTup, mLst, mMov, mCall, bAbs, mIsi, isT, D.isDct, mCallF_e, callK, callO, callR, fill, puts, mOwnA, gN, gT, gC, gE, SO.opt, dAdd, dSub, dLt, dLe, dGt, dGe, dNeg, mChain_e, chK, mTru, mSeqI_q, mKeysI_q, mFld_q, mMeth_q, mMake_q, mkR_err, clr_ok, clr_err, mIsiC_q, mLenM_q, mSlice_q, sTryRow_q, tryR_nx, tryR_err, mNewL, mCat, mInD, mInDN, mInB, sRaise, mVarX_q, varR, unX_own, unX_lst, unX_non, unX_tup, mLenX_q, itX_own, itX_lst, mIxX_q, atX_int, sAppX_q, appR_some, sInsX_q, insR_some, sSetXO_q, setR_some, lstOf_lst, ownOf_own, mOrT_e, orT,  mRng, msk, ix2_0, ix2_1, ix3_0, ix3_1, ix3_2, mDNew, mMov, SO.opt, qP_x, qP_y, qPl_w, qPl_p, qPl_s, qP_in, qP_eq, qP_inD, qL_len, qTs_len, qL_one, qL_nil, qL_two, qL_map, qTs_map, qL_seq, qTs_seq, qS_keys, qL_sorted, qL_list, qTs_list, qP_non, qL_non, qM_non, qM_obj, qM_isO, qM_isi, qM_plan, qM_there, qM_parts, qM_cut, qM_mend, qM_cuts, qM_tris, qP_mk, qL_s1, qL_s0, qZ_lst, qZ_tup, qM_mk, qN_non, qN_bl, qN_int, qN_str, qN_tup, qN_lst, qB_lst, qB_tup, qL_unX, qL_itX, qL_lstOf, qTs_unX, qTs_itX, qTs_lstOf, qTr_bl, qTr_non, qTr_int, qTr_tup, qTr_lst, qTr_qL]) ?_
  refine nx_step rfl (fO_new (i := 0) (f := "plan") (m := mVar 1) (c := "Mesh") (ns := []) (ds := []) rfl rfl (by decide) (by decide)) ?_
  refine nx_step rfl (fO_new (i := 0) (f := "there") (c := "Mesh") (ns := ["plan"]) (ds := [qPl w p s]) (d := qS []) (s1 := [some (.obj "Mesh" ["plan"] [qPl w p s]), some (qPl w p s), some qE, some .non]) (by simp [sSeq, sSet, sRet, sRetN, sExp, sIf, sNil, sAsg, sPar, mVar, mK, mOp, mUn, mTst_e, tstK, mAnd, mOr, mNot, mAndV_e, andK, mOrV_e, orK, mNotV_e, notK, mIf, mEq, mNe, dEq_int, dEq_bl, mIsN, mCons, mNil, mTup, mLst, mMov, mCall, bAbs, mIsi, isT, D.isDct, mCallF_e, callK, callO, callR, fill, puts, mOwnA, gN, gT, gC, gE, SO.opt, dAdd, dSub, dLt, dLe, dGt, dGe, dNeg, mChain_e, chK, mTru, mSeqI_q, mKeysI_q, mFld_q, mMeth_q, mMake_q, mkR_err, clr_ok, clr_err, mIsiC_q, mLenM_q, mSlice_q, sTryRow_q, tryR_nx, tryR_err, mNewL, mCat, mInD, mInDN, mInB, sRaise, mVarX_q, varR, unX_own, unX_lst, unX_non, unX_tup, mLenX_q, itX_own, itX_lst, mIxX_q, atX_int, sAppX_q, appR_some, sInsX_q, insR_some, sSetXO_q, setR_some, lstOf_lst, ownOf_own, mOrT_e, orT,  mRng, msk, ix2_0, ix2_1, ix3_0, ix3_1, ix3_2, mDNew, mMov, SO.opt, qP_x, qP_y, qPl_w, qPl_p, qPl_s, qP_in, qP_eq, qP_inD, qL_len, qTs_len, qL_one, qL_nil, qL_two, qL_map, qTs_map, qL_seq, qTs_seq, qS_keys, qL_sorted, qL_list, qTs_list, qP_non, qL_non, qM_non, qM_obj, qM_isO, qM_isi, qM_plan, qM_there, qM_parts, qM_cut, qM_mend, qM_cuts, qM_tris, qP_mk, qL_s1, qL_s0, qZ_lst, qZ_tup, qM_mk, qN_non, qN_bl, qN_int, qN_str, qN_tup, qN_lst, qB_lst, qB_tup, qL_unX, qL_itX, qL_lstOf, qTs_unX, qTs_itX, qTs_lstOf, qTr_bl, qTr_non, qTr_int, qTr_tup, qTr_lst, qTr_qL, e2]) rfl (by decide) (by decide)) ?_
  refine nx_is (fO_new (i := 0) (f := "parts") (c := "Mesh") (ns := ["plan", "there"]) (ds := [qPl w p s, qS []]) (d := qTs (mshT w p s [])) (s1 := [some (.obj "Mesh" ["plan", "there"] [qPl w p s, qS []]), some (qPl w p s), some qE, some .non]) (by
    have ef : mFldO 0 "there" [some (.obj "Mesh" ["plan", "there"] [qPl w p s, qS []]), some (qPl w p s), some qE, some .non] = .ok (qS []) [some (.obj "Mesh" ["plan", "there"] [qPl w p s, qS []]), some (qPl w p s), some qE, some .non] := rfl
    show mCallF f_leaves [none, none] [] (mCons (mVar 1) (mCons (mFldO 0 "there") mNil)) [some (.obj "Mesh" ["plan", "there"] [qPl w p s, qS []]), some (qPl w p s), some qE, some .non] = _
    generalize qS [] = DD at *
    generalize qTs (mshT w p s []) = TT at *
    simp [sSeq, sSet, sRet, sRetN, sExp, sIf, sNil, sAsg, sPar, mVar, mK, mOp, mUn, mTst_e, tstK, mAnd, mOr, mNot, mAndV_e, andK, mOrV_e, orK, mNotV_e, notK, mIf, mEq, mNe, dEq_int, dEq_bl, mIsN, mCons, mNil, mTup, mLst, mMov, mCall, bAbs, mIsi, isT, D.isDct, mCallF_e, callK, callO, callR, fill, puts, mOwnA, gN, gT, gC, gE, SO.opt, dAdd, dSub, dLt, dLe, dGt, dGe, dNeg, mChain_e, chK, mTru, mSeqI_q, mKeysI_q, mFld_q, mMeth_q, mMake_q, mkR_err, clr_ok, clr_err, mIsiC_q, mLenM_q, mSlice_q, sTryRow_q, tryR_nx, tryR_err, mNewL, mCat, mInD, mInDN, mInB, sRaise, mVarX_q, varR, unX_own, unX_lst, unX_non, unX_tup, mLenX_q, itX_own, itX_lst, mIxX_q, atX_int, sAppX_q, appR_some, sInsX_q, insR_some, sSetXO_q, setR_some, lstOf_lst, ownOf_own, mOrT_e, orT,  mRng, msk, ix2_0, ix2_1, ix3_0, ix3_1, ix3_2, mDNew, mMov, SO.opt, qP_x, qP_y, qPl_w, qPl_p, qPl_s, qP_in, qP_eq, qP_inD, qL_len, qTs_len, qL_one, qL_nil, qL_two, qL_map, qTs_map, qL_seq, qTs_seq, qS_keys, qL_sorted, qL_list, qTs_list, qP_non, qL_non, qM_non, qM_obj, qM_isO, qM_isi, qM_plan, qM_there, qM_parts, qM_cut, qM_mend, qM_cuts, qM_tris, qP_mk, qL_s1, qL_s0, qZ_lst, qZ_tup, qM_mk, qN_non, qN_bl, qN_int, qN_str, qN_tup, qN_lst, qB_lst, qB_tup, qL_unX, qL_itX, qL_lstOf, qTs_unX, qTs_itX, qTs_lstOf, qTr_bl, qTr_non, qTr_int, qTr_tup, qTr_lst, qTr_qL, ef, e3]) rfl (by decide) (by decide)) rfl
inductive Tll where
  | place (a : I2) | corner (a : I2) | twice (a : I2) | out (a : I2) | torn (a b : I2)
def Tll.err : Tll → Err
  | .place a => eNoPl a
  | .corner a => eNoCt a
  | .twice a => eTwice a
  | .out a => eOut a
  | .torn a b => eTorn a b
def Tll.d : Tll → D
  | .place a => .tup [.str "place", qP a]
  | .corner a => .tup [.str "corner", qP a]
  | .twice a => .tup [.str "twice", qP a]
  | .out a => .tup [.str "out", qP a]
  | .torn a b => .tup [.str "cracked", qP a, qP b]
theorem leK_iff {g : I2 → Int} {a b : I2} : leK g a b = true ↔ g a < g b ∨ (g a = g b ∧ leP a b = true) := by
  have e : leK g a b = !PySem.W.dataLt (.tuple [.int (g b), .tuple [.int b.1, .int b.2]]) (.tuple [.int (g a), .tuple [.int a.1, .int a.2]]) := rfl
  rw [e, PySem.W.dataLt_pair (by simp [PySem.W.alike]) (by simp [PySem.W.alike, PySem.W.alikeAll]), PySem.W.dataLt_int, PySem.W.dataLt_ii, leP_iff]
  simp only [PyData.eqv, PyData.eqvAll, beq_iff_eq, Bool.and_true, Bool.and_eq_true]
  by_cases q : g b = g a
  · rw [if_pos q]
    by_cases q2 : b.1 = a.1 ∧ b.2 = a.2
    · rw [if_pos q2]
      simp only [Bool.not_false, true_iff]
      omega
    · rw [if_neg q2, Bool.not_eq_true', decide_eq_false_iff_not]
      omega
  · rw [if_neg q, Bool.not_eq_true', decide_eq_false_iff_not]
    omega
theorem leK_pw (g : I2 → Int) (L : List I2) : (L.mergeSort (leK g)).Pairwise fun a b => leK g a b = true := List.pairwise_mergeSort (fun a b c h1 h2 => by
  rw [leK_iff, leP_iff] at *
  omega) (fun a b => by
  rw [Bool.or_eq_true, leK_iff, leK_iff, leP_iff, leP_iff]
  omega) L
def chkUp (w p s : Int) : Bool := (shp w p s).all fun t => odd t || [h1 t, h2 t].all fun c => odd c || (upI w p s (mdI c)).any fun u => u.1 == (mdI t).1 && u.2 == (mdI t).2
theorem mid_up {w p s : Int} (h : Plan w p s) {t c : Tr} (ht : t ∈ shp w p s) (ho : odd t = false) (hc : c = h1 t ∨ c = h2 t) (oc : odd c = false) : mdI t ∈ upI w p s (mdI c) := by
  have q := by_plans (f := chkUp) (by decide +kernel) h
  have q := List.all_eq_true.mp q t ht
  rw [ho, Bool.false_or] at q
  have q := List.all_eq_true.mp q c (by rcases hc with rfl | rfl <;> simp)
  rw [oc, Bool.false_or, List.any_eq_true] at q
  obtain ⟨u, hu, e⟩ := q
  rw [Bool.and_eq_true, beq_iff_eq, beq_iff_eq] at e
  have : u = mdI t := Prod.ext e.1 e.2
  rw [← this]
  exact hu
theorem hasM_iff {C : List I2} {t : Tr} : hasM C t = true ↔ odd t = false ∧ mdI t ∈ C := by
  unfold hasM
  simp
theorem hasM_up {w p s : Int} (h : Plan w p s) {C : List I2} (hc : ∀ a ∈ C, ∀ b ∈ upI w p s a, b ∈ C) {t c : Tr} (ht : t ∈ shp w p s) (ho : odd t = false) (e : c = h1 t ∨ c = h2 t) (hm : hasM C c = true) : hasM C t = true := by
  obtain ⟨o1, m1⟩ := hasM_iff.mp hm
  exact hasM_iff.mpr ⟨ho, hc _ m1 _ (mid_up h ht ho e o1)⟩
theorem none_below {w p s : Int} (h : Plan w p s) {C : List I2} (hc : ∀ a ∈ C, ∀ b ∈ upI w p s a, b ∈ C) : ∀ {n : Nat} {t : Tr}, t ∈ shp w p s → hasM C t = false → ((tree n t).filter (hasM C)).length = 0
  | 0, t, _, _ => rfl
  | n + 1, t, ht, hm => by
    show ((t :: if odd t = true then [] else tree n (h1 t) ++ tree n (h2 t)).filter (hasM C)).length = 0
    rw [List.filter_cons_of_neg (by rw [hm]; decide)]
    cases ho : odd t with
    | true => rfl
    | false =>
      obtain ⟨q1, q2⟩ := shp_half h ht ho
      have n1 : hasM C (h1 t) = false := by
        cases z : hasM C (h1 t) with
        | false => rfl
        | true => rw [hasM_up h hc ht ho (.inl rfl) z] at hm; cases hm
      have n2 : hasM C (h2 t) = false := by
        cases z : hasM C (h2 t) with
        | false => rfl
        | true => rw [hasM_up h hc ht ho (.inr rfl) z] at hm; cases hm
      have i1 := none_below h hc (n := n) q1 n1
      have i2 := none_below h hc (n := n) q2 n2
      rw [if_neg (by decide), List.filter_append, List.length_append, i1, i2]
theorem lvs_count {w p s : Int} (h : Plan w p s) {C : List I2} (hc : ∀ a ∈ C, ∀ b ∈ upI w p s a, b ∈ C) : ∀ {n : Nat} {t : Tr}, t ∈ shp w p s → fitT n t = true → (lvs C n t).length = 1 + ((tree n t).filter (hasM C)).length
  | 0, t, _, f => by cases f
  | n + 1, t, ht, f => by
    cases hm : hasM C t with
    | false =>
      rw [none_below h hc ht hm]
      show (if hasM C t = true then lvs C n (h1 t) ++ lvs C n (h2 t) else [t]).length = _
      rw [hm, if_neg (by decide)]
      rfl
    | true =>
      have ho := (hasM_iff.mp hm).1
      obtain ⟨q1, q2⟩ := shp_half h ht ho
      have f : (odd t || (fitT n (h1 t) && fitT n (h2 t))) = true := f
      rw [ho, Bool.false_or, Bool.and_eq_true] at f
      have i1 := lvs_count h hc q1 f.1
      have i2 := lvs_count h hc q2 f.2
      show (if hasM C t = true then lvs C n (h1 t) ++ lvs C n (h2 t) else [t]).length = 1 + ((t :: if odd t = true then [] else tree n (h1 t) ++ tree n (h2 t)).filter (hasM C)).length
      rw [hm, if_pos rfl, ho, if_neg (by decide), List.filter_cons_of_pos hm, List.length_cons, List.filter_append, List.length_append, List.length_append, i1, i2]
      omega
theorem flat_count {w p s : Int} (h : Plan w p s) {C : List I2} (hc : ∀ a ∈ C, ∀ b ∈ upI w p s a, b ∈ C) : ∀ {L : List Tr}, (∀ t ∈ L, t ∈ shp w p s ∧ fitT 8 t = true) → (L.flatMap (lvs C 8)).length = L.length + ((L.flatMap (tree 8)).filter (hasM C)).length
  | [], _ => rfl
  | t :: L, hL => by
    obtain ⟨t1, t2⟩ := hL t List.mem_cons_self
    have i1 := lvs_count h hc t1 t2
    have i2 := flat_count h hc (L := L) fun x hx => hL x (List.mem_cons_of_mem _ hx)
    rw [List.flatMap_cons, List.flatMap_cons, List.length_append, List.filter_append, List.length_append, List.length_cons, i1, i2]
    omega
def mids (w p s : Int) : List I2 := ((shp w p s).filter fun t => !odd t).map mdI
def gainN (w p s : Int) (a : I2) : Nat := if (a.1 == 0 || a.1 == w * s) || (a.2 == 0 || a.2 == p * s) then 1 else 2
def cntOk (w p s : Int) : Bool := (List.range 25).all fun x => (fun B => ((cutI w p s).filter fun a => a.1 == (x : Int)).all fun a => (B.countP fun m : I2 => m.2 == a.2) == gainN w p s a) ((mids w p s).filter fun m => m.1 == (x : Int))
theorem count_gain {w p s : Int} (h : Plan w p s) {a : I2} (ha : isCut w p s a) : (mids w p s).countP (fun m => decide (m = a)) = gainN w p s a := by
  have q := by_plans (f := cntOk) (by decide +kernel) h
  obtain ⟨⟨l1, l2⟩, _⟩ := Cut.le ha
  have q := List.all_eq_true.mp q a.1.toNat (List.mem_range.mpr (by omega))
  have q := List.all_eq_true.mp q a (List.mem_filter.mpr ⟨cutI_has ha, by rw [beq_iff_eq]; omega⟩)
  rw [beq_iff_eq, List.countP_filter] at q
  rw [← q]
  congr 1
  funext m
  rw [Bool.eq_iff_iff, decide_eq_true_iff, Bool.and_eq_true, beq_iff_eq, beq_iff_eq]
  constructor
  · rintro rfl; exact ⟨rfl, by omega⟩
  · rintro ⟨e1, e2⟩; exact Prod.ext (by omega) e1
theorem count_in {C : List I2} : ∀ {M : List I2} {a : I2}, a ∉ C → M.countP (fun m => decide (m ∈ a :: C)) = M.countP (fun m => decide (m = a)) + M.countP (fun m => decide (m ∈ C))
  | [], _, _ => rfl
  | m :: M, a, h => by
    have ih := count_in (C := C) (M := M) h
    rw [List.countP_cons, List.countP_cons, List.countP_cons, ih]
    by_cases q : m = a
    · subst q
      simp [h]
      omega
    · by_cases q2 : m ∈ C <;> simp [q, q2] <;> omega
theorem count_all {w p s : Int} (h : Plan w p s) : ∀ {C : List I2}, C.Nodup → (∀ a ∈ C, isCut w p s a) → (mids w p s).countP (fun m => decide (m ∈ C)) = (C.map (gainN w p s)).sum
  | [], _, _ => by simp
  | a :: C, nd, hC => by
    obtain ⟨n1, n2⟩ := List.nodup_cons.mp nd
    rw [count_in n1, count_gain h (hC a List.mem_cons_self), count_all h n2 fun x hx => hC x (List.mem_cons_of_mem _ hx), List.map_cons, List.sum_cons]
theorem rts_num {w p s : Int} (h : Plan w p s) : ((rts w p s).length : Int) = 2 * w * p := by
  have q := by_plans (f := fun w p s => ((rts w p s).length : Int) == 2 * w * p) (by decide +kernel) h
  exact eq_of_beq q
theorem msh_count {w p s : Int} (h : Plan w p s) {C : List I2} (hC : ∀ a ∈ C, isCut w p s a) (nd : C.Nodup) (hc : ∀ a ∈ C, ∀ b ∈ upI w p s a, b ∈ C) : (mshT w p s C).length = (rts w p s).length + (C.map (gainN w p s)).sum := by
  have e := flat_count h hc (L := rts w p s) fun t ht => ⟨shp_root h ht, (rts_fit h).1 t ht⟩
  show ((rts w p s).flatMap (lvs C 8)).length = _
  rw [e, ← count_all h nd hC]
  congr 1
  show ((shp w p s).filter (hasM C)).length = (((shp w p s).filter fun t => !odd t).map mdI).countP _
  rw [List.countP_map, List.countP_filter, List.countP_eq_length_filter]
  refine congrArg (fun f => (List.filter f (shp w p s)).length) (funext fun t => ?_)
  show hasM C t = (decide (mdI t ∈ C) && !odd t)
  unfold hasM
  rw [Bool.and_comm]
end Bk

set_option Elab.async false
set_option linter.all false
set_option maxRecDepth 100000
set_option maxHeartbeats 4000000
namespace Bk
open PySem L2
variable [Cls]
theorem q_gain {w p s : Int} (h : Plan w p s) (a : I2) : f_lw_gain [qPl w p s, qP a] = .ok (.int (gainN w p s a)) [none, none] := by
  refine run_eq f_lw_gain_eq (by conv => lhs; simp) ?_
  have e2 : ∀ x y : Int, dIn (.int x) (D.lst [.int 0, .int y]) = some (x == 0 || x == y) := fun x y => by
    have key : ∀ b, (D.eq (.int 0) (.int x) || (D.eq (.int y) (.int x) || false)) = b → dIn (.int x) (D.lst [.int 0, .int y]) = some b := fun b e => by rw [← e]; rfl
    refine key _ ?_
    have c1 : D.eq (.int 0) (.int x) = ((0 : Int) == x) := rfl
    have c2 : D.eq (.int y) (.int x) = (y == x) := rfl
    rw [c1, c2, Bool.or_false, Bool.eq_iff_iff]
    simp only [Bool.or_eq_true, beq_iff_eq]
    omega
  have m1 := q_ws h
  have m2 := q_ps h
  by_cases q1 : (a.1 == 0 || a.1 == w * s) = true
  · refine if_t rfl (by conv => lhs; simp [sSeq, sSet, sRet, sRetN, sExp, sIf, sNil, sAsg, sPar, mVar, mK, mOp, mUn, mTst_e, tstK, mAnd, mOr, mNot, mAndV_e, andK, mOrV_e, orK, mNotV_e, notK, mIf, mEq, mNe, dEq_int, dEq_bl, mIsN, mCons, mNil, mTup, mLst, mMov, mCall, bAbs, mIsi, isT, D.isDct, mCallF_e, callK, callO, callR, fill, puts, mOwnA, gN, gT, gC, gE, SO.opt, dAdd, dSub, dLt, dLe, dGt, dGe, dNeg, mChain_e, chK, mTru, mSeqI_q, mKeysI_q, mFld_q, mMeth_q, mMake_q, mkR_err, clr_ok, clr_err, mIsiC_q, mLenM_q, mSlice_q, sTryRow_q, tryR_nx, tryR_err, mNewL, mCat, mInD, mInDN, mInB, sRaise, mVarX_q, varR, unX_own, unX_lst, unX_non, unX_tup, mLenX_q, itX_own, itX_lst, mIxX_q, atX_int, sAppX_q, appR_some, sInsX_q, insR_some, sSetXO_q, setR_some, lstOf_lst, ownOf_own, mOrT_e, orT,  mRng, msk, ix2_0, ix2_1, ix3_0, ix3_1, ix3_2, mDNew, mMov, SO.opt, qP_x, qP_y, qPl_w, qPl_p, qPl_s, qP_in, qP_eq, qP_inD, qL_len, qTs_len, qL_one, qL_nil, qL_two, qL_map, qTs_map, qL_seq, qTs_seq, qS_keys, qL_sorted, qL_list, qTs_list, qP_non, qL_non, qM_non, qM_obj, qM_isO, qM_isi, qM_plan, qM_there, qM_parts, qM_cut, qM_mend, qM_cuts, qM_tris, qP_mk, qL_s1, qL_s0, qZ_lst, qZ_tup, qM_mk, qN_non, qN_bl, qN_int, qN_str, qN_tup, qN_lst, qB_lst, qB_tup, qL_unX, qL_itX, qL_lstOf, qTs_unX, qTs_itX, qTs_lstOf, qTr_bl, qTr_non, qTr_int, qTr_tup, qTr_lst, qTr_qL, m1, m2, e2, q1]) ?_
    have eg : gainN w p s a = 1 := by unfold gainN; rw [q1]; rfl
    rw [eg]
    refine seqP_rt (by conv => lhs; simp [sSeq, sSet, sRet, sRetN, sExp, sIf, sNil, sAsg, sPar, mVar, mK, mOp, mUn, mTst_e, tstK, mAnd, mOr, mNot, mAndV_e, andK, mOrV_e, orK, mNotV_e, notK, mIf, mEq, mNe, dEq_int, dEq_bl, mIsN, mCons, mNil, mTup, mLst, mMov, mCall, bAbs, mIsi, isT, D.isDct, mCallF_e, callK, callO, callR, fill, puts, mOwnA, gN, gT, gC, gE, SO.opt, dAdd, dSub, dLt, dLe, dGt, dGe, dNeg, mChain_e, chK, mTru, mSeqI_q, mKeysI_q, mFld_q, mMeth_q, mMake_q, mkR_err, clr_ok, clr_err, mIsiC_q, mLenM_q, mSlice_q, sTryRow_q, tryR_nx, tryR_err, mNewL, mCat, mInD, mInDN, mInB, sRaise, mVarX_q, varR, unX_own, unX_lst, unX_non, unX_tup, mLenX_q, itX_own, itX_lst, mIxX_q, atX_int, sAppX_q, appR_some, sInsX_q, insR_some, sSetXO_q, setR_some, lstOf_lst, ownOf_own, mOrT_e, orT,  mRng, msk, ix2_0, ix2_1, ix3_0, ix3_1, ix3_2, mDNew, mMov, SO.opt, qP_x, qP_y, qPl_w, qPl_p, qPl_s, qP_in, qP_eq, qP_inD, qL_len, qTs_len, qL_one, qL_nil, qL_two, qL_map, qTs_map, qL_seq, qTs_seq, qS_keys, qL_sorted, qL_list, qTs_list, qP_non, qL_non, qM_non, qM_obj, qM_isO, qM_isi, qM_plan, qM_there, qM_parts, qM_cut, qM_mend, qM_cuts, qM_tris, qP_mk, qL_s1, qL_s0, qZ_lst, qZ_tup, qM_mk, qN_non, qN_bl, qN_int, qN_str, qN_tup, qN_lst, qB_lst, qB_tup, qL_unX, qL_itX, qL_lstOf, qTs_unX, qTs_itX, qTs_lstOf, qTr_bl, qTr_non, qTr_int, qTr_tup, qTr_lst, qTr_qL, m_lw_gain_2]) ?_
    rfl
  · have q1 : (a.1 == 0 || a.1 == w * s) = false := by simpa using q1
    by_cases q2 : (a.2 == 0 || a.2 == p * s) = true
    · refine if_t rfl (by conv => lhs; simp [sSeq, sSet, sRet, sRetN, sExp, sIf, sNil, sAsg, sPar, mVar, mK, mOp, mUn, mTst_e, tstK, mAnd, mOr, mNot, mAndV_e, andK, mOrV_e, orK, mNotV_e, notK, mIf, mEq, mNe, dEq_int, dEq_bl, mIsN, mCons, mNil, mTup, mLst, mMov, mCall, bAbs, mIsi, isT, D.isDct, mCallF_e, callK, callO, callR, fill, puts, mOwnA, gN, gT, gC, gE, SO.opt, dAdd, dSub, dLt, dLe, dGt, dGe, dNeg, mChain_e, chK, mTru, mSeqI_q, mKeysI_q, mFld_q, mMeth_q, mMake_q, mkR_err, clr_ok, clr_err, mIsiC_q, mLenM_q, mSlice_q, sTryRow_q, tryR_nx, tryR_err, mNewL, mCat, mInD, mInDN, mInB, sRaise, mVarX_q, varR, unX_own, unX_lst, unX_non, unX_tup, mLenX_q, itX_own, itX_lst, mIxX_q, atX_int, sAppX_q, appR_some, sInsX_q, insR_some, sSetXO_q, setR_some, lstOf_lst, ownOf_own, mOrT_e, orT,  mRng, msk, ix2_0, ix2_1, ix3_0, ix3_1, ix3_2, mDNew, mMov, SO.opt, qP_x, qP_y, qPl_w, qPl_p, qPl_s, qP_in, qP_eq, qP_inD, qL_len, qTs_len, qL_one, qL_nil, qL_two, qL_map, qTs_map, qL_seq, qTs_seq, qS_keys, qL_sorted, qL_list, qTs_list, qP_non, qL_non, qM_non, qM_obj, qM_isO, qM_isi, qM_plan, qM_there, qM_parts, qM_cut, qM_mend, qM_cuts, qM_tris, qP_mk, qL_s1, qL_s0, qZ_lst, qZ_tup, qM_mk, qN_non, qN_bl, qN_int, qN_str, qN_tup, qN_lst, qB_lst, qB_tup, qL_unX, qL_itX, qL_lstOf, qTs_unX, qTs_itX, qTs_lstOf, qTr_bl, qTr_non, qTr_int, qTr_tup, qTr_lst, qTr_qL, m1, m2, e2, q1, q2]) ?_
      have eg : gainN w p s a = 1 := by unfold gainN; rw [q1, q2]; rfl
      rw [eg]
      refine seqP_rt (by conv => lhs; simp [sSeq, sSet, sRet, sRetN, sExp, sIf, sNil, sAsg, sPar, mVar, mK, mOp, mUn, mTst_e, tstK, mAnd, mOr, mNot, mAndV_e, andK, mOrV_e, orK, mNotV_e, notK, mIf, mEq, mNe, dEq_int, dEq_bl, mIsN, mCons, mNil, mTup, mLst, mMov, mCall, bAbs, mIsi, isT, D.isDct, mCallF_e, callK, callO, callR, fill, puts, mOwnA, gN, gT, gC, gE, SO.opt, dAdd, dSub, dLt, dLe, dGt, dGe, dNeg, mChain_e, chK, mTru, mSeqI_q, mKeysI_q, mFld_q, mMeth_q, mMake_q, mkR_err, clr_ok, clr_err, mIsiC_q, mLenM_q, mSlice_q, sTryRow_q, tryR_nx, tryR_err, mNewL, mCat, mInD, mInDN, mInB, sRaise, mVarX_q, varR, unX_own, unX_lst, unX_non, unX_tup, mLenX_q, itX_own, itX_lst, mIxX_q, atX_int, sAppX_q, appR_some, sInsX_q, insR_some, sSetXO_q, setR_some, lstOf_lst, ownOf_own, mOrT_e, orT,  mRng, msk, ix2_0, ix2_1, ix3_0, ix3_1, ix3_2, mDNew, mMov, SO.opt, qP_x, qP_y, qPl_w, qPl_p, qPl_s, qP_in, qP_eq, qP_inD, qL_len, qTs_len, qL_one, qL_nil, qL_two, qL_map, qTs_map, qL_seq, qTs_seq, qS_keys, qL_sorted, qL_list, qTs_list, qP_non, qL_non, qM_non, qM_obj, qM_isO, qM_isi, qM_plan, qM_there, qM_parts, qM_cut, qM_mend, qM_cuts, qM_tris, qP_mk, qL_s1, qL_s0, qZ_lst, qZ_tup, qM_mk, qN_non, qN_bl, qN_int, qN_str, qN_tup, qN_lst, qB_lst, qB_tup, qL_unX, qL_itX, qL_lstOf, qTs_unX, qTs_itX, qTs_lstOf, qTr_bl, qTr_non, qTr_int, qTr_tup, qTr_lst, qTr_qL, m_lw_gain_2]) ?_
      rfl
    · have q2 : (a.2 == 0 || a.2 == p * s) = false := by simpa using q2
      refine if_fn rfl (by conv => lhs; simp [sSeq, sSet, sRet, sRetN, sExp, sIf, sNil, sAsg, sPar, mVar, mK, mOp, mUn, mTst_e, tstK, mAnd, mOr, mNot, mAndV_e, andK, mOrV_e, orK, mNotV_e, notK, mIf, mEq, mNe, dEq_int, dEq_bl, mIsN, mCons, mNil, mTup, mLst, mMov, mCall, bAbs, mIsi, isT, D.isDct, mCallF_e, callK, callO, callR, fill, puts, mOwnA, gN, gT, gC, gE, SO.opt, dAdd, dSub, dLt, dLe, dGt, dGe, dNeg, mChain_e, chK, mTru, mSeqI_q, mKeysI_q, mFld_q, mMeth_q, mMake_q, mkR_err, clr_ok, clr_err, mIsiC_q, mLenM_q, mSlice_q, sTryRow_q, tryR_nx, tryR_err, mNewL, mCat, mInD, mInDN, mInB, sRaise, mVarX_q, varR, unX_own, unX_lst, unX_non, unX_tup, mLenX_q, itX_own, itX_lst, mIxX_q, atX_int, sAppX_q, appR_some, sInsX_q, insR_some, sSetXO_q, setR_some, lstOf_lst, ownOf_own, mOrT_e, orT,  mRng, msk, ix2_0, ix2_1, ix3_0, ix3_1, ix3_2, mDNew, mMov, SO.opt, qP_x, qP_y, qPl_w, qPl_p, qPl_s, qP_in, qP_eq, qP_inD, qL_len, qTs_len, qL_one, qL_nil, qL_two, qL_map, qTs_map, qL_seq, qTs_seq, qS_keys, qL_sorted, qL_list, qTs_list, qP_non, qL_non, qM_non, qM_obj, qM_isO, qM_isi, qM_plan, qM_there, qM_parts, qM_cut, qM_mend, qM_cuts, qM_tris, qP_mk, qL_s1, qL_s0, qZ_lst, qZ_tup, qM_mk, qN_non, qN_bl, qN_int, qN_str, qN_tup, qN_lst, qB_lst, qB_tup, qL_unX, qL_itX, qL_lstOf, qTs_unX, qTs_itX, qTs_lstOf, qTr_bl, qTr_non, qTr_int, qTr_tup, qTr_lst, qTr_qL, m1, m2, e2, q1, q2]) ?_
      have eg : gainN w p s a = 2 := by unfold gainN; rw [q1, q2]; rfl
      rw [eg]
      refine nx_is (by conv => lhs; simp [sSeq, sSet, sRet, sRetN, sExp, sIf, sNil, sAsg, sPar, mVar, mK, mOp, mUn, mTst_e, tstK, mAnd, mOr, mNot, mAndV_e, andK, mOrV_e, orK, mNotV_e, notK, mIf, mEq, mNe, dEq_int, dEq_bl, mIsN, mCons, mNil, mTup, mLst, mMov, mCall, bAbs, mIsi, isT, D.isDct, mCallF_e, callK, callO, callR, fill, puts, mOwnA, gN, gT, gC, gE, SO.opt, dAdd, dSub, dLt, dLe, dGt, dGe, dNeg, mChain_e, chK, mTru, mSeqI_q, mKeysI_q, mFld_q, mMeth_q, mMake_q, mkR_err, clr_ok, clr_err, mIsiC_q, mLenM_q, mSlice_q, sTryRow_q, tryR_nx, tryR_err, mNewL, mCat, mInD, mInDN, mInB, sRaise, mVarX_q, varR, unX_own, unX_lst, unX_non, unX_tup, mLenX_q, itX_own, itX_lst, mIxX_q, atX_int, sAppX_q, appR_some, sInsX_q, insR_some, sSetXO_q, setR_some, lstOf_lst, ownOf_own, mOrT_e, orT,  mRng, msk, ix2_0, ix2_1, ix3_0, ix3_1, ix3_2, mDNew, mMov, SO.opt, qP_x, qP_y, qPl_w, qPl_p, qPl_s, qP_in, qP_eq, qP_inD, qL_len, qTs_len, qL_one, qL_nil, qL_two, qL_map, qTs_map, qL_seq, qTs_seq, qS_keys, qL_sorted, qL_list, qTs_list, qP_non, qL_non, qM_non, qM_obj, qM_isO, qM_isi, qM_plan, qM_there, qM_parts, qM_cut, qM_mend, qM_cuts, qM_tris, qP_mk, qL_s1, qL_s0, qZ_lst, qZ_tup, qM_mk, qN_non, qN_bl, qN_int, qN_str, qN_tup, qN_lst, qB_lst, qB_tup, qL_unX, qL_itX, qL_lstOf, qTs_unX, qTs_itX, qTs_lstOf, qTr_bl, qTr_non, qTr_int, qTr_tup, qTr_lst, qTr_qL, m_lw_gain_3]) ?_
      rfl
theorem ints_map {α : Type} (f : α → Int) : ∀ L : List α, D.ints (L.map fun a => D.int (f a)) = some (L.map f)
  | [] => rfl
  | a :: L => by
    show (D.ints (L.map fun a => D.int (f a))).map _ = _
    rw [ints_map f L]
    rfl
theorem sum_cast (f : I2 → Nat) : ∀ L : List I2, ((L.map f).sum : Int) = (L.map fun a => (f a : Int)).sum
  | [] => rfl
  | a :: L => by
    rw [List.map_cons, List.sum_cons, List.map_cons, List.sum_cons, ← sum_cast f L]
    omega
theorem eqD_self {w p s : Int} {S : List I2} (nd : S.Nodup) : dEqD (qS S) (qS S) = some true := by
  have hs : ((List.replicate S.length (D.bl true)).all scal && (List.replicate S.length (D.bl true)).all scal) = true := by
    rw [Bool.and_self, List.all_eq_true]
    intro d hd
    rw [(List.mem_replicate.mp hd).2]
    rfl
  have e : dEqD (qS S) (qS S) = if ((List.replicate S.length (D.bl true)).all scal && (List.replicate S.length (D.bl true)).all scal) = true then some ((S.map kP).length == (S.map kP).length && ((S.map kP).zip (List.replicate S.length (D.bl true))).all fun p => match getV (S.map kP) (List.replicate S.length (D.bl true)) p.1 with
    | some e => D.eq p.2 e
    | none => false) else none := rfl
  rw [e, if_pos hs, beq_self_eq_true, Bool.true_and]
  congr 1
  rw [List.all_eq_true]
  intro pr hp
  obtain ⟨m1, m2⟩ := List.of_mem_zip (show (pr.1, pr.2) ∈ _ from hp)
  have hv := (List.mem_replicate.mp m2).2
  obtain ⟨v, ev⟩ := (getV_mem (k := pr.1) (ks := S.map kP) (vs := List.replicate S.length (D.bl true)) (by simp)).mpr m1
  rw [ev]
  have hvv : v = .bl true := by
    unfold getV at ev
    obtain ⟨pp, hp2, rfl⟩ := Option.map_eq_some_iff.mp ev
    exact (List.mem_replicate.mp (List.of_mem_zip (List.mem_of_find?_eq_some hp2)).2).2
  rw [hv, hvv]
  rfl
theorem q_meq {w p s : Int} {S : List I2} (nd : S.Nodup) : f_Mesh_eq [qM w p s S, qM w p s S] = .ok (.bl true) [none, none] := by
  refine run_eq f_Mesh_eq_eq (by conv => lhs; simp) ?_
  have e := eqD_self (w := w) (p := p) (s := s) nd
  have m3 : mEqD (mFld "Mesh" "there" (mVar 0)) (mFld "Mesh" "there" (mVar 1)) [some (qM w p s S), some (qM w p s S)] = .ok (.bl true) [some (qM w p s S), some (qM w p s S)] := by
    unfold mEqD
    simp [sSeq, sSet, sRet, sRetN, sExp, sIf, sNil, sAsg, sPar, mVar, mK, mOp, mUn, mTst_e, tstK, mAnd, mOr, mNot, mAndV_e, andK, mOrV_e, orK, mNotV_e, notK, mIf, mEq, mNe, dEq_int, dEq_bl, mIsN, mCons, mNil, mTup, mLst, mMov, mCall, bAbs, mIsi, isT, D.isDct, mCallF_e, callK, callO, callR, fill, puts, mOwnA, gN, gT, gC, gE, SO.opt, dAdd, dSub, dLt, dLe, dGt, dGe, dNeg, mChain_e, chK, mTru, mSeqI_q, mKeysI_q, mFld_q, mMeth_q, mMake_q, mkR_err, clr_ok, clr_err, mIsiC_q, mLenM_q, mSlice_q, sTryRow_q, tryR_nx, tryR_err, mNewL, mCat, mInD, mInDN, mInB, sRaise, mVarX_q, varR, unX_own, unX_lst, unX_non, unX_tup, mLenX_q, itX_own, itX_lst, mIxX_q, atX_int, sAppX_q, appR_some, sInsX_q, insR_some, sSetXO_q, setR_some, lstOf_lst, ownOf_own, mOrT_e, orT,  mRng, msk, ix2_0, ix2_1, ix3_0, ix3_1, ix3_2, mDNew, mMov, SO.opt, qP_x, qP_y, qPl_w, qPl_p, qPl_s, qP_in, qP_eq, qP_inD, qL_len, qTs_len, qL_one, qL_nil, qL_two, qL_map, qTs_map, qL_seq, qTs_seq, qS_keys, qL_sorted, qL_list, qTs_list, qP_non, qL_non, qM_non, qM_obj, qM_isO, qM_isi, qM_plan, qM_there, qM_parts, qM_cut, qM_mend, qM_cuts, qM_tris, qP_mk, qL_s1, qL_s0, qZ_lst, qZ_tup, qM_mk, qN_non, qN_bl, qN_int, qN_str, qN_tup, qN_lst, qB_lst, qB_tup, qL_unX, qL_itX, qL_lstOf, qTs_unX, qTs_itX, qTs_lstOf, qTr_bl, qTr_non, qTr_int, qTr_tup, qTr_lst, qTr_qL, e]
  refine if_fn rfl (by conv => lhs; simp [sSeq, sSet, sRet, sRetN, sExp, sIf, sNil, sAsg, sPar, mVar, mK, mOp, mUn, mTst_e, tstK, mAnd, mOr, mNot, mAndV_e, andK, mOrV_e, orK, mNotV_e, notK, mIf, mEq, mNe, dEq_int, dEq_bl, mIsN, mCons, mNil, mTup, mLst, mMov, mCall, bAbs, mIsi, isT, D.isDct, mCallF_e, callK, callO, callR, fill, puts, mOwnA, gN, gT, gC, gE, SO.opt, dAdd, dSub, dLt, dLe, dGt, dGe, dNeg, mChain_e, chK, mTru, mSeqI_q, mKeysI_q, mFld_q, mMeth_q, mMake_q, mkR_err, clr_ok, clr_err, mIsiC_q, mLenM_q, mSlice_q, sTryRow_q, tryR_nx, tryR_err, mNewL, mCat, mInD, mInDN, mInB, sRaise, mVarX_q, varR, unX_own, unX_lst, unX_non, unX_tup, mLenX_q, itX_own, itX_lst, mIxX_q, atX_int, sAppX_q, appR_some, sInsX_q, insR_some, sSetXO_q, setR_some, lstOf_lst, ownOf_own, mOrT_e, orT,  mRng, msk, ix2_0, ix2_1, ix3_0, ix3_1, ix3_2, mDNew, mMov, SO.opt, qP_x, qP_y, qPl_w, qPl_p, qPl_s, qP_in, qP_eq, qP_inD, qL_len, qTs_len, qL_one, qL_nil, qL_two, qL_map, qTs_map, qL_seq, qTs_seq, qS_keys, qL_sorted, qL_list, qTs_list, qP_non, qL_non, qM_non, qM_obj, qM_isO, qM_isi, qM_plan, qM_there, qM_parts, qM_cut, qM_mend, qM_cuts, qM_tris, qP_mk, qL_s1, qL_s0, qZ_lst, qZ_tup, qM_mk, qN_non, qN_bl, qN_int, qN_str, qN_tup, qN_lst, qB_lst, qB_tup, qL_unX, qL_itX, qL_lstOf, qTs_unX, qTs_itX, qTs_lstOf, qTr_bl, qTr_non, qTr_int, qTr_tup, qTr_lst, qTr_qL]) ?_
  refine nx_is (by conv => lhs; simp [sSeq, sSet, sRet, sRetN, sExp, sIf, sNil, sAsg, sPar, mVar, mK, mOp, mUn, mTst_e, tstK, mAnd, mOr, mNot, mAndV_e, andK, mOrV_e, orK, mNotV_e, notK, mIf, mEq, mNe, dEq_int, dEq_bl, mIsN, mCons, mNil, mTup, mLst, mMov, mCall, bAbs, mIsi, isT, D.isDct, mCallF_e, callK, callO, callR, fill, puts, mOwnA, gN, gT, gC, gE, SO.opt, dAdd, dSub, dLt, dLe, dGt, dGe, dNeg, mChain_e, chK, mTru, mSeqI_q, mKeysI_q, mFld_q, mMeth_q, mMake_q, mkR_err, clr_ok, clr_err, mIsiC_q, mLenM_q, mSlice_q, sTryRow_q, tryR_nx, tryR_err, mNewL, mCat, mInD, mInDN, mInB, sRaise, mVarX_q, varR, unX_own, unX_lst, unX_non, unX_tup, mLenX_q, itX_own, itX_lst, mIxX_q, atX_int, sAppX_q, appR_some, sInsX_q, insR_some, sSetXO_q, setR_some, lstOf_lst, ownOf_own, mOrT_e, orT,  mRng, msk, ix2_0, ix2_1, ix3_0, ix3_1, ix3_2, mDNew, mMov, SO.opt, qP_x, qP_y, qPl_w, qPl_p, qPl_s, qP_in, qP_eq, qP_inD, qL_len, qTs_len, qL_one, qL_nil, qL_two, qL_map, qTs_map, qL_seq, qTs_seq, qS_keys, qL_sorted, qL_list, qTs_list, qP_non, qL_non, qM_non, qM_obj, qM_isO, qM_isi, qM_plan, qM_there, qM_parts, qM_cut, qM_mend, qM_cuts, qM_tris, qP_mk, qL_s1, qL_s0, qZ_lst, qZ_tup, qM_mk, qN_non, qN_bl, qN_int, qN_str, qN_tup, qN_lst, qB_lst, qB_tup, qL_unX, qL_itX, qL_lstOf, qTs_unX, qTs_itX, qTs_lstOf, qTr_bl, qTr_non, qTr_int, qTr_tup, qTr_lst, qTr_qL, m_Mesh_eq_3, dEq_pl, m3]) ?_
  rfl
theorem eqR_ok (k : Bool) (s e : Env) : eqR s (.ok (.bl k) e) = .ok (.bl k) s := rfl
theorem isO_qM (w p s : Int) (S : List I2) : isO "Mesh" (qM w p s S) = true := rfl
theorem plain_law (ns : List Int) (hl : ns.length ≤ 63) : ∃ s', m_law (none :: some (bagD ns 0 7) :: List.replicate 9 none) = .rt (.bl true) s' := by
  show Hs (fun o => ∃ s', o = .rt (.bl true) s') (m_law [none, some (bagD ns 0 7), none, none, none, none, none, none, none, none, none])
  obtain ⟨w, p, s, b1, e1, hP, hb1⟩ := q_plan ⟨ns, 0, 7, rfl, hl⟩
  refine nx_step rfl (by conv => lhs; simp [sSeq, sSet, sRet, sRetN, sExp, sIf, sNil, sAsg, sPar, mVar, mK, mOp, mUn, mTst_e, tstK, mAnd, mOr, mNot, mAndV_e, andK, mOrV_e, orK, mNotV_e, notK, mIf, mEq, mNe, dEq_int, dEq_bl, mIsN, mCons, mNil, mTup, mLst, mMov, mCall, bAbs, mIsi, isT, D.isDct, mCallF_e, callK, callO, callR, fill, puts, mOwnA, gN, gT, gC, gE, SO.opt, dAdd, dSub, dLt, dLe, dGt, dGe, dNeg, mChain_e, chK, mTru, mSeqI_q, mKeysI_q, mFld_q, mMeth_q, mMake_q, mkR_err, clr_ok, clr_err, mIsiC_q, mLenM_q, mSlice_q, sTryRow_q, tryR_nx, tryR_err, mNewL, mCat, mInD, mInDN, mInB, sRaise, mVarX_q, varR, unX_own, unX_lst, unX_non, unX_tup, mLenX_q, itX_own, itX_lst, mIxX_q, atX_int, sAppX_q, appR_some, sInsX_q, insR_some, sSetXO_q, setR_some, lstOf_lst, ownOf_own, mOrT_e, orT,  mRng, msk, ix2_0, ix2_1, ix3_0, ix3_1, ix3_2, mDNew, mMov, SO.opt, qP_x, qP_y, qPl_w, qPl_p, qPl_s, qP_in, qP_eq, qP_inD, qL_len, qTs_len, qL_one, qL_nil, qL_two, qL_map, qTs_map, qL_seq, qTs_seq, qS_keys, qL_sorted, qL_list, qTs_list, qP_non, qL_non, qM_non, qM_obj, qM_isO, qM_isi, qM_plan, qM_there, qM_parts, qM_cut, qM_mend, qM_cuts, qM_tris, qP_mk, qL_s1, qL_s0, qZ_lst, qZ_tup, qM_mk, qN_non, qN_bl, qN_int, qN_str, qN_tup, qN_lst, qB_lst, qB_tup, qL_unX, qL_itX, qL_lstOf, qTs_unX, qTs_itX, qTs_lstOf, qTr_bl, qTr_non, qTr_int, qTr_tup, qTr_lst, qTr_qL, e1]) ?_
  obtain ⟨S, b2, e2, hb2, hS, hl0, hp, hc⟩ := q_some hP hb1
  refine nx_step rfl (by conv => lhs; simp [sSeq, sSet, sRet, sRetN, sExp, sIf, sNil, sAsg, sPar, mVar, mK, mOp, mUn, mTst_e, tstK, mAnd, mOr, mNot, mAndV_e, andK, mOrV_e, orK, mNotV_e, notK, mIf, mEq, mNe, dEq_int, dEq_bl, mIsN, mCons, mNil, mTup, mLst, mMov, mCall, bAbs, mIsi, isT, D.isDct, mCallF_e, callK, callO, callR, fill, puts, mOwnA, gN, gT, gC, gE, SO.opt, dAdd, dSub, dLt, dLe, dGt, dGe, dNeg, mChain_e, chK, mTru, mSeqI_q, mKeysI_q, mFld_q, mMeth_q, mMake_q, mkR_err, clr_ok, clr_err, mIsiC_q, mLenM_q, mSlice_q, sTryRow_q, tryR_nx, tryR_err, mNewL, mCat, mInD, mInDN, mInB, sRaise, mVarX_q, varR, unX_own, unX_lst, unX_non, unX_tup, mLenX_q, itX_own, itX_lst, mIxX_q, atX_int, sAppX_q, appR_some, sInsX_q, insR_some, sSetXO_q, setR_some, lstOf_lst, ownOf_own, mOrT_e, orT,  mRng, msk, ix2_0, ix2_1, ix3_0, ix3_1, ix3_2, mDNew, mMov, SO.opt, qP_x, qP_y, qPl_w, qPl_p, qPl_s, qP_in, qP_eq, qP_inD, qL_len, qTs_len, qL_one, qL_nil, qL_two, qL_map, qTs_map, qL_seq, qTs_seq, qS_keys, qL_sorted, qL_list, qTs_list, qP_non, qL_non, qM_non, qM_obj, qM_isO, qM_isi, qM_plan, qM_there, qM_parts, qM_cut, qM_mend, qM_cuts, qM_tris, qP_mk, qL_s1, qL_s0, qZ_lst, qZ_tup, qM_mk, qN_non, qN_bl, qN_int, qN_str, qN_tup, qN_lst, qB_lst, qB_tup, qL_unX, qL_itX, qL_lstOf, qTs_unX, qTs_itX, qTs_lstOf, qTr_bl, qTr_non, qTr_int, qTr_tup, qTr_lst, qTr_qL, e2]) ?_
  have nd := pw_nodup hp
  have ei := q_init hP hS (by omega) hc
  rw [can_self hp] at ei
  refine nx_step rfl (by conv => lhs; simp [sSeq, sSet, sRet, sRetN, sExp, sIf, sNil, sAsg, sPar, mVar, mK, mOp, mUn, mTst_e, tstK, mAnd, mOr, mNot, mAndV_e, andK, mOrV_e, orK, mNotV_e, notK, mIf, mEq, mNe, dEq_int, dEq_bl, mIsN, mCons, mNil, mTup, mLst, mMov, mCall, bAbs, mIsi, isT, D.isDct, mCallF_e, callK, callO, callR, fill, puts, mOwnA, gN, gT, gC, gE, SO.opt, dAdd, dSub, dLt, dLe, dGt, dGe, dNeg, mChain_e, chK, mTru, mSeqI_q, mKeysI_q, mFld_q, mMeth_q, mMake_q, mkR_err, clr_ok, clr_err, mIsiC_q, mLenM_q, mSlice_q, sTryRow_q, tryR_nx, tryR_err, mNewL, mCat, mInD, mInDN, mInB, sRaise, mVarX_q, varR, unX_own, unX_lst, unX_non, unX_tup, mLenX_q, itX_own, itX_lst, mIxX_q, atX_int, sAppX_q, appR_some, sInsX_q, insR_some, sSetXO_q, setR_some, lstOf_lst, ownOf_own, mOrT_e, orT,  mRng, msk, ix2_0, ix2_1, ix3_0, ix3_1, ix3_2, mDNew, mMov, SO.opt, qP_x, qP_y, qPl_w, qPl_p, qPl_s, qP_in, qP_eq, qP_inD, qL_len, qTs_len, qL_one, qL_nil, qL_two, qL_map, qTs_map, qL_seq, qTs_seq, qS_keys, qL_sorted, qL_list, qTs_list, qP_non, qL_non, qM_non, qM_obj, qM_isO, qM_isi, qM_plan, qM_there, qM_parts, qM_cut, qM_mend, qM_cuts, qM_tris, qP_mk, qL_s1, qL_s0, qZ_lst, qZ_tup, qM_mk, qN_non, qN_bl, qN_int, qN_str, qN_tup, qN_lst, qB_lst, qB_tup, qL_unX, qL_itX, qL_lstOf, qTs_unX, qTs_itX, qTs_lstOf, qTr_bl, qTr_non, qTr_int, qTr_tup, qTr_lst, qTr_qL, ei]) ?_
  have wb := hP.w
  have pb := hP.p
  have d1 : dMul (.int 2) (.int w) = some (.int (2 * w)) := dMul_l (by omega) (by omega)
  have d2 : dMul (.int (2 * w)) (.int p) = some (.int (2 * w * p)) := dMul_l (by omega) (by omega)
  refine nx_step rfl (by conv => lhs; simp [sSeq, sSet, sRet, sRetN, sExp, sIf, sNil, sAsg, sPar, mVar, mK, mOp, mUn, mTst_e, tstK, mAnd, mOr, mNot, mAndV_e, andK, mOrV_e, orK, mNotV_e, notK, mIf, mEq, mNe, dEq_int, dEq_bl, mIsN, mCons, mNil, mTup, mLst, mMov, mCall, bAbs, mIsi, isT, D.isDct, mCallF_e, callK, callO, callR, fill, puts, mOwnA, gN, gT, gC, gE, SO.opt, dAdd, dSub, dLt, dLe, dGt, dGe, dNeg, mChain_e, chK, mTru, mSeqI_q, mKeysI_q, mFld_q, mMeth_q, mMake_q, mkR_err, clr_ok, clr_err, mIsiC_q, mLenM_q, mSlice_q, sTryRow_q, tryR_nx, tryR_err, mNewL, mCat, mInD, mInDN, mInB, sRaise, mVarX_q, varR, unX_own, unX_lst, unX_non, unX_tup, mLenX_q, itX_own, itX_lst, mIxX_q, atX_int, sAppX_q, appR_some, sInsX_q, insR_some, sSetXO_q, setR_some, lstOf_lst, ownOf_own, mOrT_e, orT,  mRng, msk, ix2_0, ix2_1, ix3_0, ix3_1, ix3_2, mDNew, mMov, SO.opt, qP_x, qP_y, qPl_w, qPl_p, qPl_s, qP_in, qP_eq, qP_inD, qL_len, qTs_len, qL_one, qL_nil, qL_two, qL_map, qTs_map, qL_seq, qTs_seq, qS_keys, qL_sorted, qL_list, qTs_list, qP_non, qL_non, qM_non, qM_obj, qM_isO, qM_isi, qM_plan, qM_there, qM_parts, qM_cut, qM_mend, qM_cuts, qM_tris, qP_mk, qL_s1, qL_s0, qZ_lst, qZ_tup, qM_mk, qN_non, qN_bl, qN_int, qN_str, qN_tup, qN_lst, qB_lst, qB_tup, qL_unX, qL_itX, qL_lstOf, qTs_unX, qTs_itX, qTs_lstOf, qTr_bl, qTr_non, qTr_int, qTr_tup, qTr_lst, qTr_qL, d1, d2]) ?_
  have qlen : ∀ (T : List I2) (st : Env), lenR st (f_Mesh_len [qM w p s T]) = .ok (.int ((mshT w p s T).length : Nat)) st := fun T st => by
    have e : f_Mesh_len [qM w p s T] = .ok (.int (mshT w p s T).length) [none] := mesh_len_ev
    rw [e]
    have := msh_len hP T
    exact lenR_ok (by omega) _ _
  have hlen : ∀ T : List I2, (∀ a ∈ T, isCut w p s a) → T.Nodup → (∀ a ∈ T, ∀ b ∈ upI w p s a, b ∈ T) → ((mshT w p s T).length : Int) = 2 * w * p + (T.map fun a => (gainN w p s a : Int)).sum := fun T h1 h2 h3 => by
    rw [msh_count hP h1 h2 h3, ← sum_cast, ← rts_num hP]
    omega
  have cs := comp_a (mi := mSeqI (mVar 3)) (e := mCallF f_lw_gain [none, none] [] (mCons (mVar 2) (mCons (mVar 7) mNil))) (i := 7) (s := [none, some b2, some (qPl w p s), some (qL S), some (qM w p s S), some (.int (2 * w * p)), none, none, none, none, none]) (s0 := [none, some b2, some (qPl w p s), some (qL S), some (qM w p s S), some (.int (2 * w * p)), none, none, none, none, none]) S qP (fun a => D.int (gainN w p s a)) (by simp [sSeq, sSet, sRet, sRetN, sExp, sIf, sNil, sAsg, sPar, mVar, mK, mOp, mUn, mTst_e, tstK, mAnd, mOr, mNot, mAndV_e, andK, mOrV_e, orK, mNotV_e, notK, mIf, mEq, mNe, dEq_int, dEq_bl, mIsN, mCons, mNil, mTup, mLst, mMov, mCall, bAbs, mIsi, isT, D.isDct, mCallF_e, callK, callO, callR, fill, puts, mOwnA, gN, gT, gC, gE, SO.opt, dAdd, dSub, dLt, dLe, dGt, dGe, dNeg, mChain_e, chK, mTru, mSeqI_q, mKeysI_q, mFld_q, mMeth_q, mMake_q, mkR_err, clr_ok, clr_err, mIsiC_q, mLenM_q, mSlice_q, sTryRow_q, tryR_nx, tryR_err, mNewL, mCat, mInD, mInDN, mInB, sRaise, mVarX_q, varR, unX_own, unX_lst, unX_non, unX_tup, mLenX_q, itX_own, itX_lst, mIxX_q, atX_int, sAppX_q, appR_some, sInsX_q, insR_some, sSetXO_q, setR_some, lstOf_lst, ownOf_own, mOrT_e, orT,  mRng, msk, ix2_0, ix2_1, ix3_0, ix3_1, ix3_2, mDNew, mMov, SO.opt, qP_x, qP_y, qPl_w, qPl_p, qPl_s, qP_in, qP_eq, qP_inD, qL_len, qTs_len, qL_one, qL_nil, qL_two, qL_map, qTs_map, qL_seq, qTs_seq, qS_keys, qL_sorted, qL_list, qTs_list, qP_non, qL_non, qM_non, qM_obj, qM_isO, qM_isi, qM_plan, qM_there, qM_parts, qM_cut, qM_mend, qM_cuts, qM_tris, qP_mk, qL_s1, qL_s0, qZ_lst, qZ_tup, qM_mk, qN_non, qN_bl, qN_int, qN_str, qN_tup, qN_lst, qB_lst, qB_tup, qL_unX, qL_itX, qL_lstOf, qTs_unX, qTs_itX, qTs_lstOf, qTr_bl, qTr_non, qTr_int, qTr_tup, qTr_lst, qTr_qL]) rfl (fun x _ => ⟨some (qP x), by simp [sSeq, sSet, sRet, sRetN, sExp, sIf, sNil, sAsg, sPar, mVar, mK, mOp, mUn, mTst_e, tstK, mAnd, mOr, mNot, mAndV_e, andK, mOrV_e, orK, mNotV_e, notK, mIf, mEq, mNe, dEq_int, dEq_bl, mIsN, mCons, mNil, mTup, mLst, mMov, mCall, bAbs, mIsi, isT, D.isDct, mCallF_e, callK, callO, callR, fill, puts, mOwnA, gN, gT, gC, gE, SO.opt, dAdd, dSub, dLt, dLe, dGt, dGe, dNeg, mChain_e, chK, mTru, mSeqI_q, mKeysI_q, mFld_q, mMeth_q, mMake_q, mkR_err, clr_ok, clr_err, mIsiC_q, mLenM_q, mSlice_q, sTryRow_q, tryR_nx, tryR_err, mNewL, mCat, mInD, mInDN, mInB, sRaise, mVarX_q, varR, unX_own, unX_lst, unX_non, unX_tup, mLenX_q, itX_own, itX_lst, mIxX_q, atX_int, sAppX_q, appR_some, sInsX_q, insR_some, sSetXO_q, setR_some, lstOf_lst, ownOf_own, mOrT_e, orT,  mRng, msk, ix2_0, ix2_1, ix3_0, ix3_1, ix3_2, mDNew, mMov, SO.opt, qP_x, qP_y, qPl_w, qPl_p, qPl_s, qP_in, qP_eq, qP_inD, qL_len, qTs_len, qL_one, qL_nil, qL_two, qL_map, qTs_map, qL_seq, qTs_seq, qS_keys, qL_sorted, qL_list, qTs_list, qP_non, qL_non, qM_non, qM_obj, qM_isO, qM_isi, qM_plan, qM_there, qM_parts, qM_cut, qM_mend, qM_cuts, qM_tris, qP_mk, qL_s1, qL_s0, qZ_lst, qZ_tup, qM_mk, qN_non, qN_bl, qN_int, qN_str, qN_tup, qN_lst, qB_lst, qB_tup, qL_unX, qL_itX, qL_lstOf, qTs_unX, qTs_itX, qTs_lstOf, qTr_bl, qTr_non, qTr_int, qTr_tup, qTr_lst, qTr_qL, q_gain hP]⟩) (by omega)
  have hs : bSum [D.lst (S.map fun a => D.int (gainN w p s a))] = some (.int (S.map fun a => (gainN w p s a : Int)).sum) := by
    show (D.ints _).map _ = _
    rw [ints_map (fun a => (gainN w p s a : Int)) S]
    rfl
  have hlS := hlen S hS nd hc
  generalize (S.map fun a => D.int (gainN w p s a)) = GL at *
  generalize (S.map fun a => (gainN w p s a : Int)).sum = GS at *
  have hin : (2 * w * p + GS == 2 * w * p + GS) = true := by simp
  refine nx_step rfl (s' := [none, some b2, some (qPl w p s), some (qL S), some (qM w p s S), some (.int (2 * w * p)), some (.bl true), none, none, none, none]) (by
    have ql := qlen S
    rw [hlS] at ql
    simp [sSeq, sSet, sRet, sRetN, sExp, sIf, sNil, sAsg, sPar, mVar, mK, mOp, mUn, mTst_e, tstK, mAnd, mOr, mNot, mAndV_e, andK, mOrV_e, orK, mNotV_e, notK, mIf, mEq, mNe, dEq_int, dEq_bl, mIsN, mCons, mNil, mTup, mLst, mMov, mCall, bAbs, mIsi, isT, D.isDct, mCallF_e, callK, callO, callR, fill, puts, mOwnA, gN, gT, gC, gE, SO.opt, dAdd, dSub, dLt, dLe, dGt, dGe, dNeg, mChain_e, chK, mTru, mSeqI_q, mKeysI_q, mFld_q, mMeth_q, mMake_q, mkR_err, clr_ok, clr_err, mIsiC_q, mLenM_q, mSlice_q, sTryRow_q, tryR_nx, tryR_err, mNewL, mCat, mInD, mInDN, mInB, sRaise, mVarX_q, varR, unX_own, unX_lst, unX_non, unX_tup, mLenX_q, itX_own, itX_lst, mIxX_q, atX_int, sAppX_q, appR_some, sInsX_q, insR_some, sSetXO_q, setR_some, lstOf_lst, ownOf_own, mOrT_e, orT,  mRng, msk, ix2_0, ix2_1, ix3_0, ix3_1, ix3_2, mDNew, mMov, SO.opt, qP_x, qP_y, qPl_w, qPl_p, qPl_s, qP_in, qP_eq, qP_inD, qL_len, qTs_len, qL_one, qL_nil, qL_two, qL_map, qTs_map, qL_seq, qTs_seq, qS_keys, qL_sorted, qL_list, qTs_list, qP_non, qL_non, qM_non, qM_obj, qM_isO, qM_isi, qM_plan, qM_there, qM_parts, qM_cut, qM_mend, qM_cuts, qM_tris, qP_mk, qL_s1, qL_s0, qZ_lst, qZ_tup, qM_mk, qN_non, qN_bl, qN_int, qN_str, qN_tup, qN_lst, qB_lst, qB_tup, qL_unX, qL_itX, qL_lstOf, qTs_unX, qTs_itX, qTs_lstOf, qTr_bl, qTr_non, qTr_int, qTr_tup, qTr_lst, qTr_qL, mLenM_q, isO_qM, ql, cs, hs]) ?_
  have e0 : f_Mesh_init [.obj "Mesh" [] [], qPl w p s, .obj "()" [] [.non]] = .ok .non [some (qM w p s []), none, none] := q_init0 hP
  refine nx_step rfl (by conv => lhs; simp [sSeq, sSet, sRet, sRetN, sExp, sIf, sNil, sAsg, sPar, mVar, mK, mOp, mUn, mTst_e, tstK, mAnd, mOr, mNot, mAndV_e, andK, mOrV_e, orK, mNotV_e, notK, mIf, mEq, mNe, dEq_int, dEq_bl, mIsN, mCons, mNil, mTup, mLst, mMov, mCall, bAbs, mIsi, isT, D.isDct, mCallF_e, callK, callO, callR, fill, puts, mOwnA, gN, gT, gC, gE, SO.opt, dAdd, dSub, dLt, dLe, dGt, dGe, dNeg, mChain_e, chK, mTru, mSeqI_q, mKeysI_q, mFld_q, mMeth_q, mMake_q, mkR_err, clr_ok, clr_err, mIsiC_q, mLenM_q, mSlice_q, sTryRow_q, tryR_nx, tryR_err, mNewL, mCat, mInD, mInDN, mInB, sRaise, mVarX_q, varR, unX_own, unX_lst, unX_non, unX_tup, mLenX_q, itX_own, itX_lst, mIxX_q, atX_int, sAppX_q, appR_some, sInsX_q, insR_some, sSetXO_q, setR_some, lstOf_lst, ownOf_own, mOrT_e, orT,  mRng, msk, ix2_0, ix2_1, ix3_0, ix3_1, ix3_2, mDNew, mMov, SO.opt, qP_x, qP_y, qPl_w, qPl_p, qPl_s, qP_in, qP_eq, qP_inD, qL_len, qTs_len, qL_one, qL_nil, qL_two, qL_map, qTs_map, qL_seq, qTs_seq, qS_keys, qL_sorted, qL_list, qTs_list, qP_non, qL_non, qM_non, qM_obj, qM_isO, qM_isi, qM_plan, qM_there, qM_parts, qM_cut, qM_mend, qM_cuts, qM_tris, qP_mk, qL_s1, qL_s0, qZ_lst, qZ_tup, qM_mk, qN_non, qN_bl, qN_int, qN_str, qN_tup, qN_lst, qB_lst, qB_tup, qL_unX, qL_itX, qL_lstOf, qTs_unX, qTs_itX, qTs_lstOf, qTr_bl, qTr_non, qTr_int, qTr_tup, qTr_lst, qTr_qL, e0]) ?_
  have s1 := q_sortK (ma := mVar 3) (s := [none, some b2, some (qPl w p s), some (qL S), some (qM w p s S), some (.int (2 * w * p)), some (.bl true), none, some (qM w p s []), none, none]) (kb := mTup (mCons (mCallF f_lw_level [none, none] [] (mCons (mVar 1) (mCons (mVar 0) mNil))) (mCons (mVar 0) mNil))) (js := [2]) (g := lvI s) rfl fun a ha => ⟨[some (qP a), some (qPl w p s)], by simp [sSeq, sSet, sRet, sRetN, sExp, sIf, sNil, sAsg, sPar, mVar, mK, mOp, mUn, mTst_e, tstK, mAnd, mOr, mNot, mAndV_e, andK, mOrV_e, orK, mNotV_e, notK, mIf, mEq, mNe, dEq_int, dEq_bl, mIsN, mCons, mNil, mTup, mLst, mMov, mCall, bAbs, mIsi, isT, D.isDct, mCallF_e, callK, callO, callR, fill, puts, mOwnA, gN, gT, gC, gE, SO.opt, dAdd, dSub, dLt, dLe, dGt, dGe, dNeg, mChain_e, chK, mTru, mSeqI_q, mKeysI_q, mFld_q, mMeth_q, mMake_q, mkR_err, clr_ok, clr_err, mIsiC_q, mLenM_q, mSlice_q, sTryRow_q, tryR_nx, tryR_err, mNewL, mCat, mInD, mInDN, mInB, sRaise, mVarX_q, varR, unX_own, unX_lst, unX_non, unX_tup, mLenX_q, itX_own, itX_lst, mIxX_q, atX_int, sAppX_q, appR_some, sInsX_q, insR_some, sSetXO_q, setR_some, lstOf_lst, ownOf_own, mOrT_e, orT,  mRng, msk, ix2_0, ix2_1, ix3_0, ix3_1, ix3_2, mDNew, mMov, SO.opt, qP_x, qP_y, qPl_w, qPl_p, qPl_s, qP_in, qP_eq, qP_inD, qL_len, qTs_len, qL_one, qL_nil, qL_two, qL_map, qTs_map, qL_seq, qTs_seq, qS_keys, qL_sorted, qL_list, qTs_list, qP_non, qL_non, qM_non, qM_obj, qM_isO, qM_isi, qM_plan, qM_there, qM_parts, qM_cut, qM_mend, qM_cuts, qM_tris, qP_mk, qL_s1, qL_s0, qZ_lst, qZ_tup, qM_mk, qN_non, qN_bl, qN_int, qN_str, qN_tup, qN_lst, qB_lst, qB_tup, qL_unX, qL_itX, qL_lstOf, qTs_unX, qTs_itX, qTs_lstOf, qTr_bl, qTr_non, qTr_int, qTr_tup, qTr_lst, qTr_qL, q_lwlevel (hS a ha), keD]⟩
  refine nx_step rfl (by conv => lhs; simp [sSeq, sSet, sRet, sRetN, sExp, sIf, sNil, sAsg, sPar, mVar, mK, mOp, mUn, mTst_e, tstK, mAnd, mOr, mNot, mAndV_e, andK, mOrV_e, orK, mNotV_e, notK, mIf, mEq, mNe, dEq_int, dEq_bl, mIsN, mCons, mNil, mTup, mLst, mMov, mCall, bAbs, mIsi, isT, D.isDct, mCallF_e, callK, callO, callR, fill, puts, mOwnA, gN, gT, gC, gE, SO.opt, dAdd, dSub, dLt, dLe, dGt, dGe, dNeg, mChain_e, chK, mTru, mSeqI_q, mKeysI_q, mFld_q, mMeth_q, mMake_q, mkR_err, clr_ok, clr_err, mIsiC_q, mLenM_q, mSlice_q, sTryRow_q, tryR_nx, tryR_err, mNewL, mCat, mInD, mInDN, mInB, sRaise, mVarX_q, varR, unX_own, unX_lst, unX_non, unX_tup, mLenX_q, itX_own, itX_lst, mIxX_q, atX_int, sAppX_q, appR_some, sInsX_q, insR_some, sSetXO_q, setR_some, lstOf_lst, ownOf_own, mOrT_e, orT,  mRng, msk, ix2_0, ix2_1, ix3_0, ix3_1, ix3_2, mDNew, mMov, SO.opt, qP_x, qP_y, qPl_w, qPl_p, qPl_s, qP_in, qP_eq, qP_inD, qL_len, qTs_len, qL_one, qL_nil, qL_two, qL_map, qTs_map, qL_seq, qTs_seq, qS_keys, qL_sorted, qL_list, qTs_list, qP_non, qL_non, qM_non, qM_obj, qM_isO, qM_isi, qM_plan, qM_there, qM_parts, qM_cut, qM_mend, qM_cuts, qM_tris, qP_mk, qL_s1, qL_s0, qZ_lst, qZ_tup, qM_mk, qN_non, qN_bl, qN_int, qN_str, qN_tup, qN_lst, qB_lst, qB_tup, qL_unX, qL_itX, qL_lstOf, qTs_unX, qTs_itX, qTs_lstOf, qTr_bl, qTr_non, qTr_int, qTr_tup, qTr_lst, qTr_qL, s1]) ?_
  have rm : ∀ a, a ∈ S.mergeSort (leK (lvI s)) ↔ a ∈ S := fun a => (List.mergeSort_perm _ _).mem_iff
  have rp := leK_pw (lvI s) S
  have rn : (S.mergeSort (leK (lvI s))).Nodup := (List.mergeSort_perm _ _).nodup_iff.mpr nd
  have rl : (S.mergeSort (leK (lvI s))).length = S.length := List.length_mergeSort _
  have ce : can (S.mergeSort (leK (lvI s))) = S := by rw [can_ext rm, can_self hp]
  generalize S.mergeSort (leK (lvI s)) = Rw at *
  have ec : slcD none (some 24) (qL Rw) = some (D.lst ((Rw.take 24).map qP)) := by
    show some (D.lst (cutD (Rw.map qP) none (some 24))) = _
    rw [cut_to _ _ (by decide), List.map_take]
    rfl
  refine for_step (ds := (Rw.take 24).map qP) (s0 := [none, some b2, some (qPl w p s), some (qL S), some (qM w p s S), some (.int (2 * w * p)), some (.bl true), none, some (qM w p s []), some (qL Rw), none]) (fun rest st => ∃ (P L : List I2) (o7 o10 : Option D), rest = L.map qP ∧ P ++ L = Rw.take 24 ∧ st = [none, some b2, some (qPl w p s), some (qL S), some (qM w p s S), some (.int (2 * w * p)), some (.bl true), o7, some (qM w p s (can P)), some (qL Rw), o10]) rfl (by simp [sSeq, sSet, sRet, sRetN, sExp, sIf, sNil, sAsg, sPar, mVar, mK, mOp, mUn, mTst_e, tstK, mAnd, mOr, mNot, mAndV_e, andK, mOrV_e, orK, mNotV_e, notK, mIf, mEq, mNe, dEq_int, dEq_bl, mIsN, mCons, mNil, mTup, mLst, mMov, mCall, bAbs, mIsi, isT, D.isDct, mCallF_e, callK, callO, callR, fill, puts, mOwnA, gN, gT, gC, gE, SO.opt, dAdd, dSub, dLt, dLe, dGt, dGe, dNeg, mChain_e, chK, mTru, mSeqI_q, mKeysI_q, mFld_q, mMeth_q, mMake_q, mkR_err, clr_ok, clr_err, mIsiC_q, mLenM_q, mSlice_q, sTryRow_q, tryR_nx, tryR_err, mNewL, mCat, mInD, mInDN, mInB, sRaise, mVarX_q, varR, unX_own, unX_lst, unX_non, unX_tup, mLenX_q, itX_own, itX_lst, mIxX_q, atX_int, sAppX_q, appR_some, sInsX_q, insR_some, sSetXO_q, setR_some, lstOf_lst, ownOf_own, mOrT_e, orT,  mRng, msk, ix2_0, ix2_1, ix3_0, ix3_1, ix3_2, mDNew, mMov, SO.opt, qP_x, qP_y, qPl_w, qPl_p, qPl_s, qP_in, qP_eq, qP_inD, qL_len, qTs_len, qL_one, qL_nil, qL_two, qL_map, qTs_map, qL_seq, qTs_seq, qS_keys, qL_sorted, qL_list, qTs_list, qP_non, qL_non, qM_non, qM_obj, qM_isO, qM_isi, qM_plan, qM_there, qM_parts, qM_cut, qM_mend, qM_cuts, qM_tris, qP_mk, qL_s1, qL_s0, qZ_lst, qZ_tup, qM_mk, qN_non, qN_bl, qN_int, qN_str, qN_tup, qN_lst, qB_lst, qB_tup, qL_unX, qL_itX, qL_lstOf, qTs_unX, qTs_itX, qTs_lstOf, qTr_bl, qTr_non, qTr_int, qTr_tup, qTr_lst, qTr_qL, mPart, ec]) ⟨[], Rw.take 24, none, none, rfl, rfl, by rw [show can ([] : List I2) = [] from List.eq_nil_of_length_eq_zero (by have := can_len []; simpa using this)]⟩ (fun d rest st ⟨P, L, o7, o10, er, ep, es⟩ => ?_) fun st ⟨P, L, o7, o10, er, ep, es⟩ => ?_
  · subst es
    cases L with
    | nil => cases er
    | cons a L =>
      cases er
      refine ⟨[none, some b2, some (qPl w p s), some (qL S), some (qM w p s S), some (.int (2 * w * p)), some (.bl true), some (qP a), some (qM w p s (can P)), some (qL Rw), o10], rfl, ?_⟩
      have eR : P ++ (a :: (L ++ Rw.drop 24)) = Rw := by
        exact (show P ++ (a :: (L ++ Rw.drop 24)) = (P ++ (a :: L)) ++ Rw.drop 24 by rw [List.append_assoc]; rfl).trans (by rw [ep]; exact List.take_append_drop 24 Rw)
      have aS : a ∈ S := (rm a).mp (by rw [← eR]; simp)
      have pS : ∀ x ∈ P, x ∈ S := fun x hx => (rm x).mp (by rw [← eR]; simp [hx])
      rw [← eR] at rp rn
      have ndp := (List.nodup_append.mp rn)
      have nP : P.Nodup := ndp.1
      have aP : a ∉ P := fun hx => ndp.2.2 a hx a (by simp) rfl
      -- what leans upward stands ahead
      have ahead : ∀ (P1 : List I2) (x : I2) (Q1 : List I2), P1 ++ (x :: Q1) = Rw → ∀ b ∈ upI w p s x, b ∈ P1 := fun P1 x Q1 e b hb => by
        have xS : x ∈ S := (rm x).mp (by rw [← e]; simp)
        have bS := hc x xS b hb
        have lb : lvI s b = lvI s x - 1 := up_lvJ hP (hS x xS) hb
        have bR : b ∈ P1 ++ (x :: Q1) := by rw [e]; exact (rm b).mpr bS
        have rp2 := rp
        rw [eR, ← e] at rp2
        rcases List.mem_append.mp bR with q | q
        · exact q
        · rcases List.mem_cons.mp q with rfl | q
          · omega
          · have := (List.pairwise_cons.mp (List.pairwise_append.mp rp2).2.1).1 b q
            rw [leK_iff] at this
            omega
      have upP : ∀ x ∈ P, ∀ b ∈ upI w p s x, b ∈ P := fun x hx b hb => by
        obtain ⟨P1, P2, e⟩ := List.append_of_mem hx
        have := ahead P1 x (P2 ++ (a :: (L ++ Rw.drop 24))) ((show P1 ++ (x :: (P2 ++ (a :: (L ++ Rw.drop 24)))) = P ++ (a :: (L ++ Rw.drop 24)) by rw [e]; simp).trans eR) b hb
        rw [e]
        exact List.mem_append_left _ this
      have upA : ∀ b ∈ upI w p s a, b ∈ P := ahead P a _ eR
      have lP : P.length ≤ 24 := by
        have := congrArg List.length ep
        rw [List.length_append, List.length_take] at this
        omega
      have cP := can_len P
      have gC : ∀ x ∈ can P, isCut w p s x := fun x hx => hS x (pS x (can_mem.mp hx))
      have kC : ∀ x ∈ can P, ∀ b ∈ upI w p s x, b ∈ can P := fun x hx b hb => can_mem.mpr (upP x (can_mem.mp hx) b hb)
      have ecut := q_cut hP gC (by omega) kC (hS a aS)
      rw [if_neg (fun z => aP (can_mem.mp z))] at ecut
      have el : lackI (can P) (upI w p s a) = none := by
        unfold lackI
        rw [List.find?_eq_none]
        intro b hb
        simpa using can_mem.mpr (upA b hb)
      rw [el] at ecut
      have e2 : can (can P ++ [a]) = can (P ++ [a]) := can_ext fun x => by simp [can_mem]
      have ecut : f_Mesh_cut [qM w p s (can P), qP a] = .ok (qM w p s (can (P ++ [a]))) [none, none] := by rw [← e2]; exact ecut
      have nPA : (P ++ [a]).Nodup := List.nodup_append.mpr ⟨nP, by simp, fun x hx b hb z => by
        rw [List.mem_singleton.mp hb] at z
        exact aP (by rw [← z]; exact hx)⟩
      have same : ∀ T : List I2, mshT w p s (can T) = mshT w p s T := fun T => mshT_ext fun x => can_mem
      have len1 := hlen P (fun x hx => hS x (pS x hx)) nP upP
      have len2 := hlen (P ++ [a]) (fun x hx => by
        rcases List.mem_append.mp hx with q | q
        · exact hS x (pS x q)
        · rw [List.mem_singleton.mp q]; exact hS a aS) nPA fun x hx b hb => by
        rcases List.mem_append.mp hx with q | q
        · exact List.mem_append_left _ (upP x q b hb)
        · rw [List.mem_singleton.mp q] at hb; exact List.mem_append_left _ (upA b hb)
      rw [List.map_append, List.sum_append, List.map_cons, List.map_nil, List.sum_cons, List.sum_nil] at len2
      have q1 := qlen (can P)
      have q2 := qlen (can (P ++ [a]))
      rw [same] at q1 q2
      have hbe : (((mshT w p s (P ++ [a])).length : Int) == (mshT w p s P).length + gainN w p s a) = true := by rw [beq_iff_eq]; omega
      refine nx_is (o := .nx [none, some b2, some (qPl w p s), some (qL S), some (qM w p s S), some (.int (2 * w * p)), some (.bl true), some (qP a), some (qM w p s (can (P ++ [a]))), some (qL Rw), some (.int (mshT w p s P).length)]) ?_ ⟨P ++ [a], L, _, _, rfl, by rw [← ep]; simp, rfl⟩
      generalize can (P ++ [a]) = CA at *
      generalize can P = CP at *
      generalize (mshT w p s P).length = N1 at *
      generalize (mshT w p s (P ++ [a])).length = N2 at *
      simp [sSeq, sSet, sRet, sRetN, sExp, sIf, sNil, sAsg, sPar, mVar, mK, mOp, mUn, mTst_e, tstK, mAnd, mOr, mNot, mAndV_e, andK, mOrV_e, orK, mNotV_e, notK, mIf, mEq, mNe, dEq_int, dEq_bl, mIsN, mCons, mNil, mTup, mLst, mMov, mCall, bAbs, mIsi, isT, D.isDct, mCallF_e, callK, callO, callR, fill, puts, mOwnA, gN, gT, gC, gE, SO.opt, dAdd, dSub, dLt, dLe, dGt, dGe, dNeg, mChain_e, chK, mTru, mSeqI_q, mKeysI_q, mFld_q, mMeth_q, mMake_q, mkR_err, clr_ok, clr_err, mIsiC_q, mLenM_q, mSlice_q, sTryRow_q, tryR_nx, tryR_err, mNewL, mCat, mInD, mInDN, mInB, sRaise, mVarX_q, varR, unX_own, unX_lst, unX_non, unX_tup, mLenX_q, itX_own, itX_lst, mIxX_q, atX_int, sAppX_q, appR_some, sInsX_q, insR_some, sSetXO_q, setR_some, lstOf_lst, ownOf_own, mOrT_e, orT,  mRng, msk, ix2_0, ix2_1, ix3_0, ix3_1, ix3_2, mDNew, mMov, SO.opt, qP_x, qP_y, qPl_w, qPl_p, qPl_s, qP_in, qP_eq, qP_inD, qL_len, qTs_len, qL_one, qL_nil, qL_two, qL_map, qTs_map, qL_seq, qTs_seq, qS_keys, qL_sorted, qL_list, qTs_list, qP_non, qL_non, qM_non, qM_obj, qM_isO, qM_isi, qM_plan, qM_there, qM_parts, qM_cut, qM_mend, qM_cuts, qM_tris, qP_mk, qL_s1, qL_s0, qZ_lst, qZ_tup, qM_mk, qN_non, qN_bl, qN_int, qN_str, qN_tup, qN_lst, qB_lst, qB_tup, qL_unX, qL_itX, qL_lstOf, qTs_unX, qTs_itX, qTs_lstOf, qTr_bl, qTr_non, qTr_int, qTr_tup, qTr_lst, qTr_qL, m_law_10, m_law_11, m_law_12, mLenM_q, isO_qM, q1, q2, ecut, q_gain hP, hbe]
  · cases L with
    | cons _ _ => cases er
    | nil =>
      rw [List.append_nil] at ep
      have q0 := qlen []
      have len0 := hlen [] (fun _ h => by cases h) .nil fun _ h => by cases h
      have hbe : (((mshT w p s []).length : Int) == 2 * w * p) = true := by
        rw [beq_iff_eq, len0]
        simp
      subst es
      generalize (mshT w p s []).length = N0 at *
      by_cases hq : (Rw.length : Int) ≤ 24
      · have eP : P = Rw := by rw [ep]; exact List.take_of_length_le (by omega)
        subst eP
        rw [ce]
        refine if_t rfl (by conv => lhs; simp [sSeq, sSet, sRet, sRetN, sExp, sIf, sNil, sAsg, sPar, mVar, mK, mOp, mUn, mTst_e, tstK, mAnd, mOr, mNot, mAndV_e, andK, mOrV_e, orK, mNotV_e, notK, mIf, mEq, mNe, dEq_int, dEq_bl, mIsN, mCons, mNil, mTup, mLst, mMov, mCall, bAbs, mIsi, isT, D.isDct, mCallF_e, callK, callO, callR, fill, puts, mOwnA, gN, gT, gC, gE, SO.opt, dAdd, dSub, dLt, dLe, dGt, dGe, dNeg, mChain_e, chK, mTru, mSeqI_q, mKeysI_q, mFld_q, mMeth_q, mMake_q, mkR_err, clr_ok, clr_err, mIsiC_q, mLenM_q, mSlice_q, sTryRow_q, tryR_nx, tryR_err, mNewL, mCat, mInD, mInDN, mInB, sRaise, mVarX_q, varR, unX_own, unX_lst, unX_non, unX_tup, mLenX_q, itX_own, itX_lst, mIxX_q, atX_int, sAppX_q, appR_some, sInsX_q, insR_some, sSetXO_q, setR_some, lstOf_lst, ownOf_own, mOrT_e, orT,  mRng, msk, ix2_0, ix2_1, ix3_0, ix3_1, ix3_2, mDNew, mMov, SO.opt, qP_x, qP_y, qPl_w, qPl_p, qPl_s, qP_in, qP_eq, qP_inD, qL_len, qTs_len, qL_one, qL_nil, qL_two, qL_map, qTs_map, qL_seq, qTs_seq, qS_keys, qL_sorted, qL_list, qTs_list, qP_non, qL_non, qM_non, qM_obj, qM_isO, qM_isi, qM_plan, qM_there, qM_parts, qM_cut, qM_mend, qM_cuts, qM_tris, qP_mk, qL_s1, qL_s0, qZ_lst, qZ_tup, qM_mk, qN_non, qN_bl, qN_int, qN_str, qN_tup, qN_lst, qB_lst, qB_tup, qL_unX, qL_itX, qL_lstOf, qTs_unX, qTs_itX, qTs_lstOf, qTr_bl, qTr_non, qTr_int, qTr_tup, qTr_lst, qTr_qL, hq]) ?_
        refine seqP_nx (by conv => lhs; simp [sSeq, sSet, sRet, sRetN, sExp, sIf, sNil, sAsg, sPar, mVar, mK, mOp, mUn, mTst_e, tstK, mAnd, mOr, mNot, mAndV_e, andK, mOrV_e, orK, mNotV_e, notK, mIf, mEq, mNe, dEq_int, dEq_bl, mIsN, mCons, mNil, mTup, mLst, mMov, mCall, bAbs, mIsi, isT, D.isDct, mCallF_e, callK, callO, callR, fill, puts, mOwnA, gN, gT, gC, gE, SO.opt, dAdd, dSub, dLt, dLe, dGt, dGe, dNeg, mChain_e, chK, mTru, mSeqI_q, mKeysI_q, mFld_q, mMeth_q, mMake_q, mkR_err, clr_ok, clr_err, mIsiC_q, mLenM_q, mSlice_q, sTryRow_q, tryR_nx, tryR_err, mNewL, mCat, mInD, mInDN, mInB, sRaise, mVarX_q, varR, unX_own, unX_lst, unX_non, unX_tup, mLenX_q, itX_own, itX_lst, mIxX_q, atX_int, sAppX_q, appR_some, sInsX_q, insR_some, sSetXO_q, setR_some, lstOf_lst, ownOf_own, mOrT_e, orT,  mRng, msk, ix2_0, ix2_1, ix3_0, ix3_1, ix3_2, mDNew, mMov, SO.opt, qP_x, qP_y, qPl_w, qPl_p, qPl_s, qP_in, qP_eq, qP_inD, qL_len, qTs_len, qL_one, qL_nil, qL_two, qL_map, qTs_map, qL_seq, qTs_seq, qS_keys, qL_sorted, qL_list, qTs_list, qP_non, qL_non, qM_non, qM_obj, qM_isO, qM_isi, qM_plan, qM_there, qM_parts, qM_cut, qM_mend, qM_cuts, qM_tris, qP_mk, qL_s1, qL_s0, qZ_lst, qZ_tup, qM_mk, qN_non, qN_bl, qN_int, qN_str, qN_tup, qN_lst, qB_lst, qB_tup, qL_unX, qL_itX, qL_lstOf, qTs_unX, qTs_itX, qTs_lstOf, qTr_bl, qTr_non, qTr_int, qTr_tup, qTr_lst, qTr_qL, m_law_14, mEqC, isO_qM, q_meq nd, eqR_ok]) ?_
        refine nx_is (by conv => lhs; simp [sSeq, sSet, sRet, sRetN, sExp, sIf, sNil, sAsg, sPar, mVar, mK, mOp, mUn, mTst_e, tstK, mAnd, mOr, mNot, mAndV_e, andK, mOrV_e, orK, mNotV_e, notK, mIf, mEq, mNe, dEq_int, dEq_bl, mIsN, mCons, mNil, mTup, mLst, mMov, mCall, bAbs, mIsi, isT, D.isDct, mCallF_e, callK, callO, callR, fill, puts, mOwnA, gN, gT, gC, gE, SO.opt, dAdd, dSub, dLt, dLe, dGt, dGe, dNeg, mChain_e, chK, mTru, mSeqI_q, mKeysI_q, mFld_q, mMeth_q, mMake_q, mkR_err, clr_ok, clr_err, mIsiC_q, mLenM_q, mSlice_q, sTryRow_q, tryR_nx, tryR_err, mNewL, mCat, mInD, mInDN, mInB, sRaise, mVarX_q, varR, unX_own, unX_lst, unX_non, unX_tup, mLenX_q, itX_own, itX_lst, mIxX_q, atX_int, sAppX_q, appR_some, sInsX_q, insR_some, sSetXO_q, setR_some, lstOf_lst, ownOf_own, mOrT_e, orT,  mRng, msk, ix2_0, ix2_1, ix3_0, ix3_1, ix3_2, mDNew, mMov, SO.opt, qP_x, qP_y, qPl_w, qPl_p, qPl_s, qP_in, qP_eq, qP_inD, qL_len, qTs_len, qL_one, qL_nil, qL_two, qL_map, qTs_map, qL_seq, qTs_seq, qS_keys, qL_sorted, qL_list, qTs_list, qP_non, qL_non, qM_non, qM_obj, qM_isO, qM_isi, qM_plan, qM_there, qM_parts, qM_cut, qM_mend, qM_cuts, qM_tris, qP_mk, qL_s1, qL_s0, qZ_lst, qZ_tup, qM_mk, qN_non, qN_bl, qN_int, qN_str, qN_tup, qN_lst, qB_lst, qB_tup, qL_unX, qL_itX, qL_lstOf, qTs_unX, qTs_itX, qTs_lstOf, qTr_bl, qTr_non, qTr_int, qTr_tup, qTr_lst, qTr_qL, m_law_15, mLenM_q, isO_qM, e0, q0, hbe]) ?_
        exact ⟨_, rfl⟩
      · refine if_fn rfl (by conv => lhs; simp [sSeq, sSet, sRet, sRetN, sExp, sIf, sNil, sAsg, sPar, mVar, mK, mOp, mUn, mTst_e, tstK, mAnd, mOr, mNot, mAndV_e, andK, mOrV_e, orK, mNotV_e, notK, mIf, mEq, mNe, dEq_int, dEq_bl, mIsN, mCons, mNil, mTup, mLst, mMov, mCall, bAbs, mIsi, isT, D.isDct, mCallF_e, callK, callO, callR, fill, puts, mOwnA, gN, gT, gC, gE, SO.opt, dAdd, dSub, dLt, dLe, dGt, dGe, dNeg, mChain_e, chK, mTru, mSeqI_q, mKeysI_q, mFld_q, mMeth_q, mMake_q, mkR_err, clr_ok, clr_err, mIsiC_q, mLenM_q, mSlice_q, sTryRow_q, tryR_nx, tryR_err, mNewL, mCat, mInD, mInDN, mInB, sRaise, mVarX_q, varR, unX_own, unX_lst, unX_non, unX_tup, mLenX_q, itX_own, itX_lst, mIxX_q, atX_int, sAppX_q, appR_some, sInsX_q, insR_some, sSetXO_q, setR_some, lstOf_lst, ownOf_own, mOrT_e, orT,  mRng, msk, ix2_0, ix2_1, ix3_0, ix3_1, ix3_2, mDNew, mMov, SO.opt, qP_x, qP_y, qPl_w, qPl_p, qPl_s, qP_in, qP_eq, qP_inD, qL_len, qTs_len, qL_one, qL_nil, qL_two, qL_map, qTs_map, qL_seq, qTs_seq, qS_keys, qL_sorted, qL_list, qTs_list, qP_non, qL_non, qM_non, qM_obj, qM_isO, qM_isi, qM_plan, qM_there, qM_parts, qM_cut, qM_mend, qM_cuts, qM_tris, qP_mk, qL_s1, qL_s0, qZ_lst, qZ_tup, qM_mk, qN_non, qN_bl, qN_int, qN_str, qN_tup, qN_lst, qB_lst, qB_tup, qL_unX, qL_itX, qL_lstOf, qTs_unX, qTs_itX, qTs_lstOf, qTr_bl, qTr_non, qTr_int, qTr_tup, qTr_lst, qTr_qL, hq]) ?_
        refine nx_is (by conv => lhs; simp [sSeq, sSet, sRet, sRetN, sExp, sIf, sNil, sAsg, sPar, mVar, mK, mOp, mUn, mTst_e, tstK, mAnd, mOr, mNot, mAndV_e, andK, mOrV_e, orK, mNotV_e, notK, mIf, mEq, mNe, dEq_int, dEq_bl, mIsN, mCons, mNil, mTup, mLst, mMov, mCall, bAbs, mIsi, isT, D.isDct, mCallF_e, callK, callO, callR, fill, puts, mOwnA, gN, gT, gC, gE, SO.opt, dAdd, dSub, dLt, dLe, dGt, dGe, dNeg, mChain_e, chK, mTru, mSeqI_q, mKeysI_q, mFld_q, mMeth_q, mMake_q, mkR_err, clr_ok, clr_err, mIsiC_q, mLenM_q, mSlice_q, sTryRow_q, tryR_nx, tryR_err, mNewL, mCat, mInD, mInDN, mInB, sRaise, mVarX_q, varR, unX_own, unX_lst, unX_non, unX_tup, mLenX_q, itX_own, itX_lst, mIxX_q, atX_int, sAppX_q, appR_some, sInsX_q, insR_some, sSetXO_q, setR_some, lstOf_lst, ownOf_own, mOrT_e, orT,  mRng, msk, ix2_0, ix2_1, ix3_0, ix3_1, ix3_2, mDNew, mMov, SO.opt, qP_x, qP_y, qPl_w, qPl_p, qPl_s, qP_in, qP_eq, qP_inD, qL_len, qTs_len, qL_one, qL_nil, qL_two, qL_map, qTs_map, qL_seq, qTs_seq, qS_keys, qL_sorted, qL_list, qTs_list, qP_non, qL_non, qM_non, qM_obj, qM_isO, qM_isi, qM_plan, qM_there, qM_parts, qM_cut, qM_mend, qM_cuts, qM_tris, qP_mk, qL_s1, qL_s0, qZ_lst, qZ_tup, qM_mk, qN_non, qN_bl, qN_int, qN_str, qN_tup, qN_lst, qB_lst, qB_tup, qL_unX, qL_itX, qL_lstOf, qTs_unX, qTs_itX, qTs_lstOf, qTr_bl, qTr_non, qTr_int, qTr_tup, qTr_lst, qTr_qL, m_law_15, mLenM_q, isO_qM, e0, q0, hbe]) ?_
        exact ⟨_, rfl⟩

end Bk

set_option Elab.async false
set_option linter.all false
set_option maxRecDepth 100000
set_option maxHeartbeats 4000000
namespace K31
open PySem PySem.Spec PyProof.Rows L2 Bk
/-! ### the text -/
def top (i : Nat) : Stmt := PySem.Challenge.pw_braemantle_k31_whole_count_of_triangles.main.body.getD i (.Pass ⟨0, 0, 0, 0⟩)
abbrev s__wall : Stmt := top 0
abbrev N__wall : List Str := ["k"]
theorem sc__wall : FnScope N__wall ["k"] (defScope s__wall) := ⟨rfl, rfl, rfl, by decide +kernel, rfl, by decide +kernel, by decide +kernel⟩
def d__wall : He.DefD := ⟨("_wall", none), "_wall", "_wall", defArgs s__wall, defBody s__wall, defScope s__wall, [], []⟩
abbrev s_lies_in : Stmt := top 10
abbrev N_lies_in : List Str := ["plan", "at", "wide", "deep", "side", "x", "y"]
theorem sc_lies_in : FnScope N_lies_in ["plan", "at"] (defScope s_lies_in) := ⟨rfl, rfl, rfl, by decide +kernel, rfl, by decide +kernel, by decide +kernel⟩
def d_lies_in : He.DefD := ⟨("lies_in", none), "lies_in", "lies_in", defArgs s_lies_in, defBody s_lies_in, defScope s_lies_in, [], []⟩
abbrev s_placed : Stmt := top 11
abbrev N_placed : List Str := ["plan", "at"]
theorem sc_placed : FnScope N_placed ["plan", "at"] (defScope s_placed) := ⟨rfl, rfl, rfl, by decide +kernel, rfl, by decide +kernel, by decide +kernel⟩
def d_placed : He.DefD := ⟨("placed", none), "placed", "placed", defArgs s_placed, defBody s_placed, defScope s_placed, [], []⟩
abbrev s_on_corner : Stmt := top 12
abbrev N_on_corner : List Str := ["plan", "at"]
theorem sc_on_corner : FnScope N_on_corner ["plan", "at"] (defScope s_on_corner) := ⟨rfl, rfl, rfl, by decide +kernel, rfl, by decide +kernel, by decide +kernel⟩
def d_on_corner : He.DefD := ⟨("on_corner", none), "on_corner", "on_corner", defArgs s_on_corner, defBody s_on_corner, defScope s_on_corner, [], []⟩
abbrev s_cut_only : Stmt := top 13
abbrev N_cut_only : List Str := ["plan", "at"]
theorem sc_cut_only : FnScope N_cut_only ["plan", "at"] (defScope s_cut_only) := ⟨rfl, rfl, rfl, by decide +kernel, rfl, by decide +kernel, by decide +kernel⟩
def d_cut_only : He.DefD := ⟨("cut_only", none), "cut_only", "cut_only", defArgs s_cut_only, defBody s_cut_only, defScope s_cut_only, [], []⟩
abbrev s_step : Stmt := top 14
abbrev N_step : List Str := ["plan", "at", "size"]
theorem sc_step : FnScope N_step ["plan", "at"] (defScope s_step) := ⟨rfl, rfl, rfl, by decide +kernel, rfl, by decide +kernel, by decide +kernel⟩
def d_step : He.DefD := ⟨("step", none), "step", "step", defArgs s_step, defBody s_step, defScope s_step, [], []⟩
abbrev s_around : Stmt := top 15
abbrev N_around : List Str := ["plan", "at", "size", "x", "y", "flat", "upright", "rising", "falling"]
theorem sc_around : FnScope N_around ["plan", "at"] (defScope s_around) := ⟨rfl, rfl, rfl, by decide +kernel, rfl, by decide +kernel, by decide +kernel⟩
def d_around : He.DefD := ⟨("around", none), "around", "around", defArgs s_around, defBody s_around, defScope s_around, [], []⟩
abbrev s_parents : Stmt := top 16
abbrev N_parents : List Str := ["plan", "at", "up"]
theorem sc_parents : FnScope N_parents ["plan", "at"] (defScope s_parents) := ⟨rfl, rfl, rfl, by decide +kernel, rfl, by decide +kernel, by decide +kernel⟩
def d_parents : He.DefD := ⟨("parents", none), "parents", "parents", defArgs s_parents, defBody s_parents, defScope s_parents, [], []⟩
abbrev s_noted : Stmt := top 18
abbrev N_noted : List Str := ["plan", "cuts", "at"]
theorem sc_noted : FnScope N_noted ["plan", "cuts"] (defScope s_noted) := ⟨rfl, rfl, rfl, by decide +kernel, rfl, by decide +kernel, by decide +kernel⟩
def d_noted : He.DefD := ⟨("noted", none), "noted", "noted", defArgs s_noted, defBody s_noted, defScope s_noted, [], []⟩
abbrev s_crack : Stmt := top 19
abbrev N_crack : List Str := ["plan", "cuts", "there", "at", "up"]
theorem sc_crack : FnScope N_crack ["plan", "cuts"] (defScope s_crack) := ⟨rfl, rfl, rfl, by decide +kernel, rfl, by decide +kernel, by decide +kernel⟩
def d_crack : He.DefD := ⟨("crack", none), "crack", "crack", defArgs s_crack, defBody s_crack, defScope s_crack, [], []⟩
abbrev s_roots_of : Stmt := top 21
abbrev N_roots_of : List Str := ["i", "j", "side", "x", "y"]
theorem sc_roots_of : FnScope N_roots_of ["i", "j", "side"] (defScope s_roots_of) := ⟨rfl, rfl, rfl, by decide +kernel, rfl, by decide +kernel, by decide +kernel⟩
def d_roots_of : He.DefD := ⟨("roots_of", none), "roots_of", "roots_of", defArgs s_roots_of, defBody s_roots_of, defScope s_roots_of, [], []⟩
abbrev s_roots : Stmt := top 22
abbrev N_roots : List Str := ["plan", "wide", "deep", "side", "i", "j", "root"]
theorem sc_roots : FnScope N_roots ["plan"] (defScope s_roots) := ⟨rfl, rfl, rfl, by decide +kernel, rfl, by decide +kernel, by decide +kernel⟩
def d_roots : He.DefD := ⟨("roots", none), "roots", "roots", defArgs s_roots, defBody s_roots, defScope s_roots, [], []⟩
abbrev s_middle : Stmt := top 23
abbrev N_middle : List Str := ["shape", "over", "along"]
theorem sc_middle : FnScope N_middle ["shape"] (defScope s_middle) := ⟨rfl, rfl, rfl, by decide +kernel, rfl, by decide +kernel, by decide +kernel⟩
def d_middle : He.DefD := ⟨("middle", none), "middle", "middle", defArgs s_middle, defBody s_middle, defScope s_middle, [], []⟩
abbrev s_halved : Stmt := top 24
abbrev N_halved : List Str := ["shape", "at", "ax", "ay", "bx", "by", "cx", "cy"]
theorem sc_halved : FnScope N_halved ["shape"] (defScope s_halved) := ⟨rfl, rfl, rfl, by decide +kernel, rfl, by decide +kernel, by decide +kernel⟩
def d_halved : He.DefD := ⟨("halved", none), "halved", "halved", defArgs s_halved, defBody s_halved, defScope s_halved, [], []⟩
abbrev s_spread : Stmt := top 26
abbrev N_spread : List Str := ["shape", "there", "found", "half"]
theorem sc_spread : FnScope N_spread ["shape", "there", "found"] (defScope s_spread) := ⟨rfl, rfl, rfl, by decide +kernel, rfl, by decide +kernel, by decide +kernel⟩
def d_spread : He.DefD := ⟨("spread", none), "spread", "spread", defArgs s_spread, defBody s_spread, defScope s_spread, [], []⟩
abbrev s_leaves : Stmt := top 27
abbrev N_leaves : List Str := ["plan", "there", "found", "root"]
theorem sc_leaves : FnScope N_leaves ["plan", "there"] (defScope s_leaves) := ⟨rfl, rfl, rfl, by decide +kernel, rfl, by decide +kernel, by decide +kernel⟩
def d_leaves : He.DefD := ⟨("leaves", none), "leaves", "leaves", defArgs s_leaves, defBody s_leaves, defScope s_leaves, [], []⟩
abbrev s_lw_bag : Stmt := top 30
abbrev N_lw_bag : List Str := ["_law_script"]
theorem sc_lw_bag : FnScope N_lw_bag ["_law_script"] (defScope s_lw_bag) := ⟨rfl, rfl, rfl, by decide +kernel, rfl, by decide +kernel, by decide +kernel⟩
def d_lw_bag : He.DefD := ⟨("_law_bag", none), "_law_bag", "_law_bag", defArgs s_lw_bag, defBody s_lw_bag, defScope s_lw_bag, [], []⟩
abbrev s_lw_draw : Stmt := top 31
abbrev N_lw_draw : List Str := ["_law_bag_here", "_law_many", "_law_cells", "_law_at", "_law_cell"]
theorem sc_lw_draw : FnScope N_lw_draw ["_law_bag_here", "_law_many"] (defScope s_lw_draw) := ⟨rfl, rfl, rfl, by decide +kernel, rfl, by decide +kernel, by decide +kernel⟩
def d_lw_draw : He.DefD := ⟨("_law_draw", none), "_law_draw", "_law_draw", defArgs s_lw_draw, defBody s_lw_draw, defScope s_lw_draw, [], []⟩
abbrev s_lw_plan : Stmt := top 32
abbrev N_lw_plan : List Str := ["_law_bag_here", "_law_menu"]
theorem sc_lw_plan : FnScope N_lw_plan ["_law_bag_here"] (defScope s_lw_plan) := ⟨rfl, rfl, rfl, by decide +kernel, rfl, by decide +kernel, by decide +kernel⟩
def d_lw_plan : He.DefD := ⟨("_law_plan", none), "_law_plan", "_law_plan", defArgs s_lw_plan, defBody s_lw_plan, defScope s_lw_plan, [], []⟩
abbrev s_lw_places : Stmt := top 33
abbrev N_lw_places : List Str := ["_law_plan_here", "_law_found", "_law_x", "_law_y"]
theorem sc_lw_places : FnScope N_lw_places ["_law_plan_here"] (defScope s_lw_places) := ⟨rfl, rfl, rfl, by decide +kernel, rfl, by decide +kernel, by decide +kernel⟩
def d_lw_places : He.DefD := ⟨("_law_places", none), "_law_places", "_law_places", defArgs s_lw_places, defBody s_lw_places, defScope s_lw_places, [], []⟩
abbrev s_lw_corner : Stmt := top 34
abbrev N_lw_corner : List Str := ["_law_plan_here", "_law_at"]
theorem sc_lw_corner : FnScope N_lw_corner ["_law_plan_here", "_law_at"] (defScope s_lw_corner) := ⟨rfl, rfl, rfl, by decide +kernel, rfl, by decide +kernel, by decide +kernel⟩
def d_lw_corner : He.DefD := ⟨("_law_corner", none), "_law_corner", "_law_corner", defArgs s_lw_corner, defBody s_lw_corner, defScope s_lw_corner, [], []⟩
abbrev s_lw_cuts : Stmt := top 35
abbrev N_lw_cuts : List Str := ["_law_plan_here", "_law_at"]
theorem sc_lw_cuts : FnScope N_lw_cuts ["_law_plan_here"] (defScope s_lw_cuts) := ⟨rfl, rfl, rfl, by decide +kernel, rfl, by decide +kernel, by decide +kernel⟩
def d_lw_cuts : He.DefD := ⟨("_law_cuts", none), "_law_cuts", "_law_cuts", defArgs s_lw_cuts, defBody s_lw_cuts, defScope s_lw_cuts, [], []⟩
abbrev s_lw_in : Stmt := top 36
abbrev N_lw_in : List Str := ["_law_plan_here", "_law_at"]
theorem sc_lw_in : FnScope N_lw_in ["_law_plan_here", "_law_at"] (defScope s_lw_in) := ⟨rfl, rfl, rfl, by decide +kernel, rfl, by decide +kernel, by decide +kernel⟩
def d_lw_in : He.DefD := ⟨("_law_in", none), "_law_in", "_law_in", defArgs s_lw_in, defBody s_lw_in, defScope s_lw_in, [], []⟩
abbrev s_lw_step : Stmt := top 37
abbrev N_lw_step : List Str := ["_law_at"]
theorem sc_lw_step : FnScope N_lw_step ["_law_at"] (defScope s_lw_step) := ⟨rfl, rfl, rfl, by decide +kernel, rfl, by decide +kernel, by decide +kernel⟩
def d_lw_step : He.DefD := ⟨("_law_step", none), "_law_step", "_law_step", defArgs s_lw_step, defBody s_lw_step, defScope s_lw_step, [], []⟩
abbrev s_lw_centre : Stmt := top 38
abbrev N_lw_centre : List Str := ["_law_at", "_law_size"]
theorem sc_lw_centre : FnScope N_lw_centre ["_law_at"] (defScope s_lw_centre) := ⟨rfl, rfl, rfl, by decide +kernel, rfl, by decide +kernel, by decide +kernel⟩
def d_lw_centre : He.DefD := ⟨("_law_centre", none), "_law_centre", "_law_centre", defArgs s_lw_centre, defBody s_lw_centre, defScope s_lw_centre, [], []⟩
abbrev s_lw_around : Stmt := top 39
abbrev N_lw_around : List Str := ["_law_at", "_law_size", "_law_x", "_law_y", "_law_flat", "_law_tall", "_law_rising", "_law_falling"]
theorem sc_lw_around : FnScope N_lw_around ["_law_at"] (defScope s_lw_around) := ⟨rfl, rfl, rfl, by decide +kernel, rfl, by decide +kernel, by decide +kernel⟩
def d_lw_around : He.DefD := ⟨("_law_around", none), "_law_around", "_law_around", defArgs s_lw_around, defBody s_lw_around, defScope s_lw_around, [], []⟩
abbrev s_lw_ups : Stmt := top 40
abbrev N_lw_ups : List Str := ["_law_plan_here", "_law_at", "_law_up"]
theorem sc_lw_ups : FnScope N_lw_ups ["_law_plan_here", "_law_at"] (defScope s_lw_ups) := ⟨rfl, rfl, rfl, by decide +kernel, rfl, by decide +kernel, by decide +kernel⟩
def d_lw_ups : He.DefD := ⟨("_law_ups", none), "_law_ups", "_law_ups", defArgs s_lw_ups, defBody s_lw_ups, defScope s_lw_ups, [], []⟩
abbrev s_lw_level : Stmt := top 41
abbrev N_lw_level : List Str := ["_law_plan_here", "_law_at", "_law_count", "_law_size", "_law_turn"]
theorem sc_lw_level : FnScope N_lw_level ["_law_plan_here", "_law_at"] (defScope s_lw_level) := ⟨rfl, rfl, rfl, by decide +kernel, rfl, by decide +kernel, by decide +kernel⟩
def d_lw_level : He.DefD := ⟨("_law_level", none), "_law_level", "_law_level", defArgs s_lw_level, defBody s_lw_level, defScope s_lw_level, [], []⟩
abbrev s_lw_closed : Stmt := top 42
abbrev N_lw_closed : List Str := ["_law_plan_here", "_law_some_here", "_law_there", "_law_todo", "_law_at"]
theorem sc_lw_closed : FnScope N_lw_closed ["_law_plan_here", "_law_some_here"] (defScope s_lw_closed) := ⟨rfl, rfl, rfl, by decide +kernel, rfl, by decide +kernel, by decide +kernel⟩
def d_lw_closed : He.DefD := ⟨("_law_closed", none), "_law_closed", "_law_closed", defArgs s_lw_closed, defBody s_lw_closed, defScope s_lw_closed, [], []⟩
abbrev s_lw_picks : Stmt := top 43
abbrev N_lw_picks : List Str := ["_law_bag_here", "_law_plan_here", "_law_every", "_law_kind", "_law_at", "_law_k"]
theorem sc_lw_picks : FnScope N_lw_picks ["_law_bag_here", "_law_plan_here"] (defScope s_lw_picks) := ⟨rfl, rfl, rfl, by decide +kernel, rfl, by decide +kernel, by decide +kernel⟩
def d_lw_picks : He.DefD := ⟨("_law_picks", none), "_law_picks", "_law_picks", defArgs s_lw_picks, defBody s_lw_picks, defScope s_lw_picks, [], []⟩
abbrev s_lw_some : Stmt := top 44
abbrev N_lw_some : List Str := ["_law_bag_here", "_law_plan_here"]
theorem sc_lw_some : FnScope N_lw_some ["_law_bag_here", "_law_plan_here"] (defScope s_lw_some) := ⟨rfl, rfl, rfl, by decide +kernel, rfl, by decide +kernel, by decide +kernel⟩
def d_lw_some : He.DefD := ⟨("_law_some", none), "_law_some", "_law_some", defArgs s_lw_some, defBody s_lw_some, defScope s_lw_some, [], []⟩
abbrev s_lw_gain : Stmt := top 45
abbrev N_lw_gain : List Str := ["_law_plan_here", "_law_at"]
theorem sc_lw_gain : FnScope N_lw_gain ["_law_plan_here", "_law_at"] (defScope s_lw_gain) := ⟨rfl, rfl, rfl, by decide +kernel, rfl, by decide +kernel, by decide +kernel⟩
def d_lw_gain : He.DefD := ⟨("_law_gain", none), "_law_gain", "_law_gain", defArgs s_lw_gain, defBody s_lw_gain, defScope s_lw_gain, [], []⟩
abbrev s_law : Stmt := top 46
abbrev N_law : List Str := ["_law_script", "_law_bag_here", "_law_plan_here", "_law_some_here", "_law_mesh", "_law_many", "_law_good", "_law_at", "_law_now", "_law_row", "_law_size"]
theorem sc_law : FnScope N_law ["_law_script"] (defScope s_law) := ⟨rfl, rfl, rfl, by decide +kernel, rfl, by decide +kernel, by decide +kernel⟩
def d_law : He.DefD := ⟨("law", none), "law", "law", defArgs s_law, defBody s_law, defScope s_law, [], []⟩
abbrev s_Mesh_init : Stmt := inClass (top 28) 0
abbrev N_Mesh_init : List Str := ["self", "plan", "cuts", "torn"]
theorem sc_Mesh_init : FnScope N_Mesh_init ["self", "plan", "cuts"] (defScope s_Mesh_init) := ⟨rfl, rfl, rfl, by decide +kernel, rfl, by decide +kernel, by decide +kernel⟩
def d_Mesh_init : He.DefD := ⟨("Mesh", some "__init__"), "__init__", "Mesh.__init__", defArgs s_Mesh_init, defBody s_Mesh_init, defScope s_Mesh_init, [.adr (He.dflAt ("Mesh", some "__init__") 0)], []⟩
abbrev s_Mesh_len : Stmt := inClass (top 28) 1
abbrev N_Mesh_len : List Str := ["self"]
theorem sc_Mesh_len : FnScope N_Mesh_len ["self"] (defScope s_Mesh_len) := ⟨rfl, rfl, rfl, by decide +kernel, rfl, by decide +kernel, by decide +kernel⟩
def d_Mesh_len : He.DefD := ⟨("Mesh", some "__len__"), "__len__", "Mesh.__len__", defArgs s_Mesh_len, defBody s_Mesh_len, defScope s_Mesh_len, [], []⟩
abbrev s_Mesh_cuts : Stmt := inClass (top 28) 6
abbrev N_Mesh_cuts : List Str := ["self"]
theorem sc_Mesh_cuts : FnScope N_Mesh_cuts ["self"] (defScope s_Mesh_cuts) := ⟨rfl, rfl, rfl, by decide +kernel, rfl, by decide +kernel, by decide +kernel⟩
def d_Mesh_cuts : He.DefD := ⟨("Mesh", some "cuts"), "cuts", "Mesh.cuts", defArgs s_Mesh_cuts, defBody s_Mesh_cuts, defScope s_Mesh_cuts, [], []⟩
abbrev s_Mesh_cut : Stmt := inClass (top 28) 8
abbrev N_Mesh_cut : List Str := ["self", "at", "up"]
theorem sc_Mesh_cut : FnScope N_Mesh_cut ["self", "at"] (defScope s_Mesh_cut) := ⟨rfl, rfl, rfl, by decide +kernel, rfl, by decide +kernel, by decide +kernel⟩
def d_Mesh_cut : He.DefD := ⟨("Mesh", some "cut"), "cut", "Mesh.cut", defArgs s_Mesh_cut, defBody s_Mesh_cut, defScope s_Mesh_cut, [], []⟩
abbrev s_Mesh_eq : Stmt := inClass (top 28) 2
abbrev N_Mesh_eq : List Str := ["self", "other"]
theorem sc_Mesh_eq : FnScope N_Mesh_eq ["self", "other"] (defScope s_Mesh_eq) := ⟨rfl, rfl, rfl, by decide +kernel, rfl, by decide +kernel, by decide +kernel⟩
def d_Mesh_eq : He.DefD := ⟨("Mesh", some "__eq__"), "__eq__", "Mesh.__eq__", defArgs s_Mesh_eq, defBody s_Mesh_eq, defScope s_Mesh_eq, [], []⟩
abbrev si_Twice : Stmt := inClass (top 5) 0
abbrev Ni_Twice : List Str := ["self", "at"]
theorem sci_Twice : FnScope Ni_Twice ["self", "at"] (defScope si_Twice) := ⟨rfl, rfl, rfl, by decide +kernel, rfl, by decide +kernel, by decide +kernel⟩
def di_Twice : He.DefD := ⟨("Twice", some "__init__"), "__init__", "Twice.__init__", defArgs si_Twice, defBody si_Twice, defScope si_Twice, [], []⟩
abbrev si_Cracked : Stmt := inClass (top 4) 0
abbrev Ni_Cracked : List Str := ["self", "at", "other"]
theorem sci_Cracked : FnScope Ni_Cracked ["self", "at", "other"] (defScope si_Cracked) := ⟨rfl, rfl, rfl, by decide +kernel, rfl, by decide +kernel, by decide +kernel⟩
def di_Cracked : He.DefD := ⟨("Cracked", some "__init__"), "__init__", "Cracked.__init__", defArgs si_Cracked, defBody si_Cracked, defScope si_Cracked, [], []⟩
abbrev si_NoPlace : Stmt := inClass (top 7) 0
abbrev Ni_NoPlace : List Str := ["self", "at"]
theorem sci_NoPlace : FnScope Ni_NoPlace ["self", "at"] (defScope si_NoPlace) := ⟨rfl, rfl, rfl, by decide +kernel, rfl, by decide +kernel, by decide +kernel⟩
def di_NoPlace : He.DefD := ⟨("NoPlace", some "__init__"), "__init__", "NoPlace.__init__", defArgs si_NoPlace, defBody si_NoPlace, defScope si_NoPlace, [], []⟩
abbrev si_NoCut : Stmt := inClass (top 8) 0
abbrev Ni_NoCut : List Str := ["self", "at"]
theorem sci_NoCut : FnScope Ni_NoCut ["self", "at"] (defScope si_NoCut) := ⟨rfl, rfl, rfl, by decide +kernel, rfl, by decide +kernel, by decide +kernel⟩
def di_NoCut : He.DefD := ⟨("NoCut", some "__init__"), "__init__", "NoCut.__init__", defArgs si_NoCut, defBody si_NoCut, defScope si_NoCut, [], []⟩
def fnL : List He.DefD := [d__wall, d_lies_in, d_placed, d_on_corner, d_cut_only, d_step, d_around, d_parents, d_noted, d_crack, d_roots_of, d_roots, d_middle, d_halved, d_spread, d_leaves, d_lw_bag, d_lw_draw, d_lw_plan, d_lw_places, d_lw_corner, d_lw_cuts, d_lw_in, d_lw_step, d_lw_centre, d_lw_around, d_lw_ups, d_lw_level, d_lw_closed, d_lw_picks, d_lw_some, d_lw_gain, d_law, d_Mesh_init, d_Mesh_len, d_Mesh_cuts, d_Mesh_cut, d_Mesh_eq, di_Twice, di_Cracked, di_NoPlace, di_NoCut]
def empL (K : PySem.W.Frag) : Option Addr := some (He.dflAt ("Mesh", some "__init__") 0 K)
def tlL : Tl := [(d_law.at_, (d_law.qual ++ ".<locals>.") ++ "<lambda>")]
def xsL : List Ft := [tabsNd tlL, xclsB "ValueError.__new__" [.type "ValueError", .type "Exception", .type "BaseException", .type "object"] "Twice" ["at"], xclsB "ValueError.__new__" [.type "ValueError", .type "Exception", .type "BaseException", .type "object"] "Cracked" ["at", "other"], xclsB "LookupError.__new__" [.type "LookupError", .type "Exception", .type "BaseException", .type "object"] "NoPlace" ["at"], xclsB "LookupError.__new__" [.type "LookupError", .type "Exception", .type "BaseException", .type "object"] "NoCut" ["at"], objB "Mesh" ["plan", "there", "parts"] ["__init__", "__len__", "__eq__", "cuts", "cut"], isiB "Mesh", empB ("Mesh", some "__init__") 0]
def faL : List He.Fa := [.glo "_wall", .glo "lies_in", .glo "placed", .glo "on_corner", .glo "cut_only", .glo "step", .glo "around", .glo "parents", .glo "noted", .glo "crack", .glo "roots_of", .glo "roots", .glo "middle", .glo "halved", .glo "spread", .glo "leaves", .glo "_law_bag", .glo "_law_draw", .glo "_law_plan", .glo "_law_places", .glo "_law_corner", .glo "_law_cuts", .glo "_law_in", .glo "_law_step", .glo "_law_centre", .glo "_law_around", .glo "_law_ups", .glo "_law_level", .glo "_law_closed", .glo "_law_picks", .glo "_law_some", .glo "_law_gain", .glo "law", .free "sorted", .free "range", .free "list", .free "len", .free "isinstance", .free "sum", .glo "Mesh", .glo "Twice", .glo "Cracked", .glo "NoPlace", .glo "NoCut"]
section
variable {P : Program} {w : World} {K : PySem.W.Frag} {mg : Str → Option Value} {base : Heap} [Bk.Cls]
theorem okx_Twice (c : Cty faL xsL fnL K mg) : XCal P w K mg base "Twice" ["at"] := by
  obtain ⟨fd, F⟩ := c.def_ 38 (d := di_Twice) rfl
  exact xcal_one (xcls_ok base_Value (c.own 1)) (c.glo 40) rfl F sci_Twice (F.bindsN fun _ _ _ _ _ _ us hl => match us, hl with | [_, _], _ => rfl) fun cdv A outer s H E => pss_one (ps_xst (pv 0) (pv 1))
theorem okx_Cracked (c : Cty faL xsL fnL K mg) : XCal P w K mg base "Cracked" ["at", "other"] := by
  obtain ⟨fd, F⟩ := c.def_ 39 (d := di_Cracked) rfl
  exact xcal_two (xcls_ok base_Value (c.own 2)) (c.glo 41) rfl F sci_Cracked (F.bindsN fun _ _ _ _ _ _ us hl => match us, hl with | [_, _, _], _ => rfl) fun cdv A outer s H E => pss_cons (ps_xst (pv 0) (pv 1)) (pss_one (ps_xst (pv 0) (pv 2)))
theorem okx_NoPlace (c : Cty faL xsL fnL K mg) : XCal P w K mg base "NoPlace" ["at"] := by
  obtain ⟨fd, F⟩ := c.def_ 40 (d := di_NoPlace) rfl
  exact xcal_one (xcls_ok base_Lookup (c.own 3)) (c.glo 42) rfl F sci_NoPlace (F.bindsN fun _ _ _ _ _ _ us hl => match us, hl with | [_, _], _ => rfl) fun cdv A outer s H E => pss_one (ps_xst (pv 0) (pv 1))
theorem okx_NoCut (c : Cty faL xsL fnL K mg) : XCal P w K mg base "NoCut" ["at"] := by
  obtain ⟨fd, F⟩ := c.def_ 41 (d := di_NoCut) rfl
  exact xcal_one (xcls_ok base_Lookup (c.own 4)) (c.glo 43) rfl F sci_NoCut (F.bindsN fun _ _ _ _ _ _ us hl => match us, hl with | [_, _], _ => rfl) fun cdv A outer s H E => pss_one (ps_xst (pv 0) (pv 1))
theorem ok__wall (c : Cty faL xsL fnL K mg) : Cal P w K mg base 1 "_wall" [.fr] .fr f__wall [] := by
    rw [f__wall_eq]
    obtain ⟨fd, F⟩ := c.def_ 0 (d := d__wall) rfl
    exact Cal.of F (fn_ok (Γ := [.fr]) F sc__wall rfl rfl rfl (by decide) fun cdv A outer s H E hr G W tk =>
    (ms_one (ms_while (fuel := fu__wall_1) (ps_while (passes_of rfl) (mt_tru me_bl)
    (ms_one ms_pass))))) (c.glo 0) (fun _ _ _ _ _ _ us hl => match us, hl with | [_], _ => rfl)
theorem ok_lies_in (c : Cty faL xsL fnL K mg) : Cal P w K mg base 1 "lies_in" [.fr, .fr] .fr f_lies_in [] := by
    rw [f_lies_in_eq]
    obtain ⟨fd, F⟩ := c.def_ 1 (d := d_lies_in) rfl
    exact Cal.of F (fn_ok (Γ := [.fr, .fr, .fr, .fr, .fr, .fr, .fr]) F sc_lies_in rfl rfl rfl (by decide) fun cdv A outer s H E hr G W tk =>
    (ms_cons (ms_asg (ps_asg (me_var (pv 0) rfl) (mg_tup (k := 3) rfl (mg_cons (mg_n (pg_name (i := 2) sc_lies_in.nd rfl (Or.inl rfl)) rfl) (mg_cons (mg_n (pg_name (i := 3) sc_lies_in.nd rfl (Or.inl rfl)) rfl) (mg_cons (mg_n (pg_name (i := 4) sc_lies_in.nd rfl (Or.inl rfl)) rfl) mg_nil))))))
    (ms_cons (ms_asg (ps_asg (me_var (pv 1) rfl) (mg_tup (k := 2) rfl (mg_cons (mg_n (pg_name (i := 5) sc_lies_in.nd rfl (Or.inl rfl)) rfl) (mg_cons (mg_n (pg_name (i := 6) sc_lies_in.nd rfl (Or.inl rfl)) rfl) mg_nil)))))
    (ms_one (ms_ret (me_and (me_chain op_le op_le od_le od_le me_int (me_var (pv 5) rfl) (me_mul (me_var (pv 2) rfl) (me_var (pv 4) rfl))) (me_one (me_chain op_le op_le od_le od_le me_int (me_var (pv 6) rfl) (me_mul (me_var (pv 3) rfl) (me_var (pv 4) rfl)))))))))) (c.glo 1) (fun _ _ _ _ _ _ us hl => match us, hl with | [_, _], _ => rfl)
theorem ok_placed (c : Cty faL xsL fnL K mg) (X_NoPlace : XCal P w K mg base "NoPlace" ["at"]) (C_lies_in : Cal P w K mg base 1 "lies_in" [.fr, .fr] .fr f_lies_in []) : Cal P w K mg base 3 "placed" [.fr, .fr] .fr f_placed [] := by
    rw [f_placed_eq]
    obtain ⟨fd, F⟩ := c.def_ 2 (d := d_placed) rfl
    exact Cal.of F (fn_ok (Γ := [.fr, .fr]) F sc_placed rfl rfl rfl (by decide) fun cdv A outer s H E hr G W tk =>
    (ms_one (ms_if (mt_not (mt_tru (me_callC (sp := [none, none]) (dflt := []) C_lies_in (hr.mono (by first | decide | omega)) tk rfl (mr_fr (me_var (pv 0) rfl) (mr_fr (me_var (pv 1) rfl) mr_nil)))))
    (ms_one (ms_raiseC (ns := ["at"]) X_NoPlace hr (by decide) rfl tk rfl (ma_cons (me_var (pv 1) rfl) ma_nil) (len_cons len_nil)))
    ms_nil))) (c.glo 2) (fun _ _ _ _ _ _ us hl => match us, hl with | [_, _], _ => rfl)
theorem ok_on_corner (c : Cty faL xsL fnL K mg) : Cal P w K mg base 1 "on_corner" [.fr, .fr] .fr f_on_corner [] := by
    rw [f_on_corner_eq]
    obtain ⟨fd, F⟩ := c.def_ 3 (d := d_on_corner) rfl
    exact Cal.of F (fn_ok (Γ := [.fr, .fr]) F sc_on_corner rfl rfl rfl (by decide) fun cdv A outer s H E hr G W tk =>
    (ms_one (ms_ret (me_and (me_eq hr (me_mod (me_ix (me_var (pv 1) rfl) me_int (fun _ _ => rfl)) (me_ix (me_var (pv 0) rfl) me_int (fun _ _ => rfl))) me_int) (me_one (me_eq hr (me_mod (me_ix (me_var (pv 1) rfl) me_int (fun _ _ => rfl)) (me_ix (me_var (pv 0) rfl) me_int (fun _ _ => rfl))) me_int)))))) (c.glo 3) (fun _ _ _ _ _ _ us hl => match us, hl with | [_, _], _ => rfl)
theorem ok_cut_only (c : Cty faL xsL fnL K mg) (X_NoCut : XCal P w K mg base "NoCut" ["at"]) (C_placed : Cal P w K mg base 3 "placed" [.fr, .fr] .fr f_placed []) (C_on_corner : Cal P w K mg base 1 "on_corner" [.fr, .fr] .fr f_on_corner []) : Cal P w K mg base 4 "cut_only" [.fr, .fr] .fr f_cut_only [] := by
    rw [f_cut_only_eq]
    obtain ⟨fd, F⟩ := c.def_ 4 (d := d_cut_only) rfl
    exact Cal.of F (fn_ok (Γ := [.fr, .fr]) F sc_cut_only rfl rfl rfl (by decide) fun cdv A outer s H E hr G W tk =>
    (ms_cons (ms_exp (ps_expr (me_callC (sp := [none, none]) (dflt := []) C_placed (hr.mono (by first | decide | omega)) tk rfl (mr_fr (me_var (pv 0) rfl) (mr_fr (me_var (pv 1) rfl) mr_nil)))))
    (ms_one (ms_if (mt_tru (me_callC (sp := [none, none]) (dflt := []) C_on_corner (hr.mono (by first | decide | omega)) tk rfl (mr_fr (me_var (pv 0) rfl) (mr_fr (me_var (pv 1) rfl) mr_nil))))
    (ms_one (ms_raiseC (ns := ["at"]) X_NoCut hr (by decide) rfl tk rfl (ma_cons (me_var (pv 1) rfl) ma_nil) (len_cons len_nil)))
    ms_nil)))) (c.glo 4) (fun _ _ _ _ _ _ us hl => match us, hl with | [_, _], _ => rfl)
theorem ok_step (c : Cty faL xsL fnL K mg) (C_cut_only : Cal P w K mg base 4 "cut_only" [.fr, .fr] .fr f_cut_only []) : Cal P w K mg base 5 "step" [.fr, .fr] .fr f_step [] := by
    rw [f_step_eq]
    obtain ⟨fd, F⟩ := c.def_ 5 (d := d_step) rfl
    exact Cal.of F (fn_ok (Γ := [.fr, .fr, .fr]) F sc_step rfl rfl rfl (by decide) fun cdv A outer s H E hr G W tk =>
    (ms_cons (ms_exp (ps_expr (me_callC (sp := [none, none]) (dflt := []) C_cut_only (hr.mono (by first | decide | omega)) tk rfl (mr_fr (me_var (pv 0) rfl) (mr_fr (me_var (pv 1) rfl) mr_nil)))))
    (ms_cons (ms_set (ps_set (i := 2) sc_step.nd rfl (Or.inl rfl) me_int) rfl)
    (ms_cons (ms_while (fuel := fu_step_1) (ps_while (passes_of rfl) (mt_w (mt_and (mt_eq hr (me_mod (me_ix (me_var (pv 1) rfl) me_int (fun _ _ => rfl)) (me_mul me_int (me_var (pv 2) rfl))) me_int) (mt_and1 (mt_eq hr (me_mod (me_ix (me_var (pv 1) rfl) me_int (fun _ _ => rfl)) (me_mul me_int (me_var (pv 2) rfl))) me_int))))
    (ms_one (ms_aug (ps_aug (i := 2) sc_step.nd rfl (Or.inl rfl) me_int (pip iop_shl)) od_shl rfl))))
    (ms_one (ms_ret (me_var (pv 2) rfl))))))) (c.glo 5) (fun _ _ _ _ _ _ us hl => match us, hl with | [_, _], _ => rfl)
theorem ok_around (c : Cty faL xsL fnL K mg) (C_step : Cal P w K mg base 5 "step" [.fr, .fr] .fr f_step []) : Cal P w K mg base 6 "around" [.fr, .fr] .fr f_around [] := by
    rw [f_around_eq]
    obtain ⟨fd, F⟩ := c.def_ 6 (d := d_around) rfl
    exact Cal.of F (fn_ok (Γ := [.fr, .fr, .fr, .fr, .fr, .fr, .fr, .fr, .fr]) F sc_around rfl rfl rfl (by decide) fun cdv A outer s H E hr G W tk =>
    (ms_cons (ms_set (ps_set (i := 2) sc_around.nd rfl (Or.inl rfl) (me_callC (sp := [none, none]) (dflt := []) C_step (hr.mono (by first | decide | omega)) tk rfl (mr_fr (me_var (pv 0) rfl) (mr_fr (me_var (pv 1) rfl) mr_nil)))) rfl)
    (ms_cons (ms_asg (ps_asg (me_var (pv 1) rfl) (mg_tup (k := 2) rfl (mg_cons (mg_n (pg_name (i := 3) sc_around.nd rfl (Or.inl rfl)) rfl) (mg_cons (mg_n (pg_name (i := 4) sc_around.nd rfl (Or.inl rfl)) rfl) mg_nil)))))
    (ms_cons (ms_set (ps_set (i := 5) sc_around.nd rfl (Or.inl rfl) (me_tup (ma_cons (me_tup (ma_cons (me_sub (me_var (pv 3) rfl) (me_var (pv 2) rfl)) (ma_cons (me_var (pv 4) rfl) ma_nil)) (len_cons (len_cons len_nil)) (by decide)) (ma_cons (me_tup (ma_cons (me_add (me_var (pv 3) rfl) (me_var (pv 2) rfl)) (ma_cons (me_var (pv 4) rfl) ma_nil)) (len_cons (len_cons len_nil)) (by decide)) ma_nil)) (len_cons (len_cons len_nil)) (by decide))) rfl)
    (ms_cons (ms_set (ps_set (i := 6) sc_around.nd rfl (Or.inl rfl) (me_tup (ma_cons (me_tup (ma_cons (me_var (pv 3) rfl) (ma_cons (me_sub (me_var (pv 4) rfl) (me_var (pv 2) rfl)) ma_nil)) (len_cons (len_cons len_nil)) (by decide)) (ma_cons (me_tup (ma_cons (me_var (pv 3) rfl) (ma_cons (me_add (me_var (pv 4) rfl) (me_var (pv 2) rfl)) ma_nil)) (len_cons (len_cons len_nil)) (by decide)) ma_nil)) (len_cons (len_cons len_nil)) (by decide))) rfl)
    (ms_cons (ms_if (mt_eq hr (me_mod (me_div (me_var (pv 4) rfl) (me_var (pv 2) rfl)) me_int) me_int)
    (ms_one (ms_ret (me_tup (ma_cons (me_var (pv 5) rfl) (ma_cons (me_var (pv 6) rfl) ma_nil)) (len_cons (len_cons len_nil)) (by decide))))
    ms_nil)
    (ms_cons (ms_if (mt_eq hr (me_mod (me_div (me_var (pv 3) rfl) (me_var (pv 2) rfl)) me_int) me_int)
    (ms_one (ms_ret (me_tup (ma_cons (me_var (pv 6) rfl) (ma_cons (me_var (pv 5) rfl) ma_nil)) (len_cons (len_cons len_nil)) (by decide))))
    ms_nil)
    (ms_cons (ms_set (ps_set (i := 7) sc_around.nd rfl (Or.inl rfl) (me_tup (ma_cons (me_tup (ma_cons (me_sub (me_var (pv 3) rfl) (me_var (pv 2) rfl)) (ma_cons (me_sub (me_var (pv 4) rfl) (me_var (pv 2) rfl)) ma_nil)) (len_cons (len_cons len_nil)) (by decide)) (ma_cons (me_tup (ma_cons (me_add (me_var (pv 3) rfl) (me_var (pv 2) rfl)) (ma_cons (me_add (me_var (pv 4) rfl) (me_var (pv 2) rfl)) ma_nil)) (len_cons (len_cons len_nil)) (by decide)) ma_nil)) (len_cons (len_cons len_nil)) (by decide))) rfl)
    (ms_cons (ms_set (ps_set (i := 8) sc_around.nd rfl (Or.inl rfl) (me_tup (ma_cons (me_tup (ma_cons (me_sub (me_var (pv 3) rfl) (me_var (pv 2) rfl)) (ma_cons (me_add (me_var (pv 4) rfl) (me_var (pv 2) rfl)) ma_nil)) (len_cons (len_cons len_nil)) (by decide)) (ma_cons (me_tup (ma_cons (me_add (me_var (pv 3) rfl) (me_var (pv 2) rfl)) (ma_cons (me_sub (me_var (pv 4) rfl) (me_var (pv 2) rfl)) ma_nil)) (len_cons (len_cons len_nil)) (by decide)) ma_nil)) (len_cons (len_cons len_nil)) (by decide))) rfl)
    (ms_cons (ms_if (mt_eq hr (me_mod (me_div (me_sub (me_var (pv 3) rfl) (me_var (pv 2) rfl)) (me_mul me_int (me_var (pv 2) rfl))) me_int) (me_mod (me_div (me_sub (me_var (pv 4) rfl) (me_var (pv 2) rfl)) (me_mul me_int (me_var (pv 2) rfl))) me_int))
    (ms_one (ms_ret (me_tup (ma_cons (me_var (pv 7) rfl) (ma_cons (me_var (pv 8) rfl) ma_nil)) (len_cons (len_cons len_nil)) (by decide))))
    ms_nil)
    (ms_one (ms_ret (me_tup (ma_cons (me_var (pv 8) rfl) (ma_cons (me_var (pv 7) rfl) ma_nil)) (len_cons (len_cons len_nil)) (by decide)))))))))))))) (c.glo 6) (fun _ _ _ _ _ _ us hl => match us, hl with | [_, _], _ => rfl)
theorem ok_parents (c : Cty faL xsL fnL K mg) (C_around : Cal P w K mg base 6 "around" [.fr, .fr] .fr f_around []) (C_lies_in : Cal P w K mg base 1 "lies_in" [.fr, .fr] .fr f_lies_in []) (C_on_corner : Cal P w K mg base 1 "on_corner" [.fr, .fr] .fr f_on_corner []) : Cal P w K mg base 7 "parents" [.fr, .fr] .ol f_parents [] := by
    rw [f_parents_eq]
    obtain ⟨fd, F⟩ := c.def_ 7 (d := d_parents) rfl
    exact Cal.of F (fn_ok (Γ := [.fr, .fr, .fr]) F sc_parents rfl rfl rfl (by decide) fun cdv A outer s H E hr G W tk =>
    (ms_one (ms_ret (me_comp (pe_lc (own := [("up", 2)]) rfl sc_parents.nd (mi_seq (me_ix (me_callC (sp := [none, none]) (dflt := []) C_around (hr.mono (by first | decide | omega)) tk rfl (mr_fr (me_var (pv 0) rfl) (mr_fr (me_var (pv 1) rfl) mr_nil))) me_int (fun _ _ => rfl))) (blkOk_by (own := [("up", 2)]) (N := N_parents) (sc := defScope s_parents) (by decide +kernel)) (fun _ _ _ _ _ => (mg_n (pg_name (i := 2) sc_parents.nd rfl (Or.inl rfl)) rfl)) (fun _ _ _ _ _ => (pts_one (mt_w (mt_and (mt_tru (me_callC (sp := [none, none]) (dflt := []) C_lies_in (hr.mono (by first | decide | omega)) takes0 rfl (mr_fr (me_var (pv 0) rfl) (mr_fr (me_var (pv 2) rfl) mr_nil)))) (mt_and1 (mt_not (mt_tru (me_callC (sp := [none, none]) (dflt := []) C_on_corner (hr.mono (by first | decide | omega)) takes0 rfl (mr_fr (me_var (pv 0) rfl) (mr_fr (me_var (pv 2) rfl) mr_nil)))))))))) (fun _ _ _ _ _ => (me_var (pv 2) rfl))))))) (c.glo 7) (fun _ _ _ _ _ _ us hl => match us, hl with | [_, _], _ => rfl)
theorem ok_noted (c : Cty faL xsL fnL K mg) (hE2 : ∀ a, Cls.emp = some a → ∀ H, SqT K H a []) (C_cut_only : Cal P w K mg base 4 "cut_only" [.fr, .fr] .fr f_cut_only []) : Cal P w K mg base 5 "noted" [.fr, .fr] .od f_noted [] := by
    rw [f_noted_eq]
    obtain ⟨fd, F⟩ := c.def_ 8 (d := d_noted) rfl
    exact Cal.of F (fn_ok (Γ := [.fr, .fr, .fr]) F sc_noted rfl rfl rfl (by decide) fun cdv A outer s H E hr G W tk =>
    (ms_cons (ms_for (ps_for (passes_of rfl) rfl (mi_seqE hE2 (me_var (pv 1) rfl)) (mg_n (pg_name (i := 2) sc_noted.nd rfl (Or.inl rfl)) rfl)
    (ms_one (ms_exp (ps_expr (me_callC (sp := [none, none]) (dflt := []) C_cut_only (hr.mono (by first | decide | omega)) tk rfl (mr_fr (me_var (pv 0) rfl) (mr_fr (me_var (pv 2) rfl) mr_nil))))))))
    (ms_one (ms_ret (me_dcomp (pe_dcT (own := [("at", 2)]) hr rfl sc_noted.nd (mi_seq (me_fix (me_sortedA hE2 (pe_callB (call_sortL hr) rfl (c.free 33) (by decide +kernel) (pa_cons (me_var (pv 1) rfl) pa_nil)) (pe_callB (call_sortD hr rfl) rfl (c.free 33) (by decide +kernel) (pa_cons (me_var (pv 1) rfl) pa_nil)) (pe_callB (call_sortT hr) rfl (c.free 33) (by decide +kernel) (pa_cons (me_var (pv 1) rfl) pa_nil))))) (blkOk_by (own := [("at", 2)]) (N := N_noted) (sc := defScope s_noted) (by decide +kernel)) (fun _ _ _ _ _ => (mg_n (pg_name (i := 2) sc_noted.nd rfl (Or.inl rfl)) rfl)) (fun _ _ _ _ _ => (pts_yes pts_nil)) (fun _ _ _ _ _ => (me_var (pv 2) rfl)) (fun _ _ _ _ _ => me_bl))))))) (c.glo 8) (fun _ _ _ _ _ _ us hl => match us, hl with | [_, _], _ => rfl)
theorem ok_crack (c : Cty faL xsL fnL K mg) (C_noted : Cal P w K mg base 5 "noted" [.fr, .fr] .od f_noted []) (C_parents : Cal P w K mg base 7 "parents" [.fr, .fr] .ol f_parents []) : Cal P w K mg base 8 "crack" [.fr, .fr] .fr f_crack [] := by
    rw [f_crack_eq]
    obtain ⟨fd, F⟩ := c.def_ 9 (d := d_crack) rfl
    exact Cal.of F (fn_ok (Γ := [.fr, .fr, .fr, .fr, .fr]) F sc_crack rfl rfl rfl (by decide) fun cdv A outer s H E hr G W tk =>
    (ms_cons (ms_set (ps_set (i := 2) sc_crack.nd rfl (Or.inl rfl) (me_fixD (me_callC (sp := [none, none]) (dflt := []) C_noted (hr.mono (by first | decide | omega)) tk rfl (mr_fr (me_var (pv 0) rfl) (mr_fr (me_var (pv 1) rfl) mr_nil))))) rfl)
    (ms_cons (ms_for (ps_for (passes_of rfl) rfl (mi_keys (me_var (pv 2) rfl)) (mg_n (pg_name (i := 3) sc_crack.nd rfl (Or.inl rfl)) rfl)
    (ms_one (ms_for (ps_for (passes_of rfl) rfl (mi_seq (me_fix (me_callC (sp := [none, none]) (dflt := []) C_parents (hr.mono (by first | decide | omega)) tk rfl (mr_fr (me_var (pv 0) rfl) (mr_fr (me_var (pv 3) rfl) mr_nil))))) (mg_n (pg_name (i := 4) sc_crack.nd rfl (Or.inl rfl)) rfl)
    (ms_one (ms_if (mt_notinD hr (me_var (pv 4) rfl) (me_var (pv 2) rfl))
    (ms_one (ms_ret (me_tup (ma_cons (me_var (pv 3) rfl) (ma_cons (me_var (pv 4) rfl) ma_nil)) (len_cons (len_cons len_nil)) (by decide))))
    ms_nil)))))))
    (ms_one (ms_ret me_non))))) (c.glo 9) (fun _ _ _ _ _ _ us hl => match us, hl with | [_, _], _ => rfl)
theorem ok_roots_of (c : Cty faL xsL fnL K mg) : Cal P w K mg base 1 "roots_of" [.fr, .fr, .fr] .ol f_roots_of [] := by
    rw [f_roots_of_eq]
    obtain ⟨fd, F⟩ := c.def_ 10 (d := d_roots_of) rfl
    exact Cal.of F (fn_ok (Γ := [.fr, .fr, .fr, .fr, .fr]) F sc_roots_of rfl rfl rfl (by decide) fun cdv A outer s H E hr G W tk =>
    (ms_cons (ms_par (ps_par (i := 3) (j := 4) rfl sc_roots_of.nd rfl rfl (by decide) rfl rfl (ma_cons (me_mul (me_var (pv 0) rfl) (me_var (pv 2) rfl)) (ma_cons (me_mul (me_var (pv 1) rfl) (me_var (pv 2) rfl)) ma_nil)) rfl) rfl rfl)
    (ms_cons (ms_if (mt_eq hr (me_mod (me_add (me_var (pv 0) rfl) (me_var (pv 1) rfl)) me_int) me_int)
    (ms_one (ms_ret (me_lst (ma_cons (me_tup (ma_cons (me_var (pv 3) rfl) (ma_cons (me_var (pv 4) rfl) (ma_cons (me_add (me_var (pv 3) rfl) (me_var (pv 2) rfl)) (ma_cons (me_add (me_var (pv 4) rfl) (me_var (pv 2) rfl)) (ma_cons (me_add (me_var (pv 3) rfl) (me_var (pv 2) rfl)) (ma_cons (me_var (pv 4) rfl) ma_nil)))))) (len_cons (len_cons (len_cons (len_cons (len_cons (len_cons len_nil)))))) (by decide)) (ma_cons (me_tup (ma_cons (me_add (me_var (pv 3) rfl) (me_var (pv 2) rfl)) (ma_cons (me_add (me_var (pv 4) rfl) (me_var (pv 2) rfl)) (ma_cons (me_var (pv 3) rfl) (ma_cons (me_var (pv 4) rfl) (ma_cons (me_var (pv 3) rfl) (ma_cons (me_add (me_var (pv 4) rfl) (me_var (pv 2) rfl)) ma_nil)))))) (len_cons (len_cons (len_cons (len_cons (len_cons (len_cons len_nil)))))) (by decide)) ma_nil)) (len_cons (len_cons len_nil)) (by decide))))
    ms_nil)
    (ms_one (ms_ret (me_lst (ma_cons (me_tup (ma_cons (me_add (me_var (pv 3) rfl) (me_var (pv 2) rfl)) (ma_cons (me_var (pv 4) rfl) (ma_cons (me_var (pv 3) rfl) (ma_cons (me_add (me_var (pv 4) rfl) (me_var (pv 2) rfl)) (ma_cons (me_add (me_var (pv 3) rfl) (me_var (pv 2) rfl)) (ma_cons (me_add (me_var (pv 4) rfl) (me_var (pv 2) rfl)) ma_nil)))))) (len_cons (len_cons (len_cons (len_cons (len_cons (len_cons len_nil)))))) (by decide)) (ma_cons (me_tup (ma_cons (me_var (pv 3) rfl) (ma_cons (me_add (me_var (pv 4) rfl) (me_var (pv 2) rfl)) (ma_cons (me_add (me_var (pv 3) rfl) (me_var (pv 2) rfl)) (ma_cons (me_var (pv 4) rfl) (ma_cons (me_var (pv 3) rfl) (ma_cons (me_var (pv 4) rfl) ma_nil)))))) (len_cons (len_cons (len_cons (len_cons (len_cons (len_cons len_nil)))))) (by decide)) ma_nil)) (len_cons (len_cons len_nil)) (by decide))))))) (c.glo 10) (fun _ _ _ _ _ _ us hl => match us, hl with | [_, _, _], _ => rfl)
theorem ok_roots (c : Cty faL xsL fnL K mg) (C_roots_of : Cal P w K mg base 1 "roots_of" [.fr, .fr, .fr] .ol f_roots_of []) : Cal P w K mg base 2 "roots" [.fr] .ol f_roots [] := by
    rw [f_roots_eq]
    obtain ⟨fd, F⟩ := c.def_ 11 (d := d_roots) rfl
    exact Cal.of F (fn_ok (Γ := [.fr, .fr, .fr, .fr, .fr, .fr, .fr]) F sc_roots rfl rfl rfl (by decide) fun cdv A outer s H E hr G W tk =>
    (ms_cons (ms_asg (ps_asg (me_var (pv 0) rfl) (mg_tup (k := 3) rfl (mg_cons (mg_n (pg_name (i := 1) sc_roots.nd rfl (Or.inl rfl)) rfl) (mg_cons (mg_n (pg_name (i := 2) sc_roots.nd rfl (Or.inr rfl)) rfl) (mg_cons (mg_n (pg_name (i := 3) sc_roots.nd rfl (Or.inr rfl)) rfl) mg_nil))))))
    (ms_one (ms_ret (me_comp3 (own := [("i", 4), ("j", 5), ("root", 6)]) (vs1 := [5, 6]) (vs2 := [6]) rfl sc_roots.nd (mi_rng1 (pi_range1 rfl (c.free 34) (ma_cons (me_var (pv 1) rfl) ma_nil))) (blkOk_by (own := [("i", 4), ("j", 5), ("root", 6)]) (N := N_roots) (sc := defScope s_roots) (by decide +kernel)) (fun _ _ _ _ _ => ⟨(mg_n (pg_name (i := 4) sc_roots.nd rfl (Or.inl rfl)) rfl), (pts_yes pts_nil), (mi_rng1 (pi_range1 rfl (c.free 34) (ma_cons (me_var (pv 2) rfl) ma_nil))), (mg_n (pg_name (i := 5) sc_roots.nd rfl (Or.inl rfl)) rfl), (pts_yes pts_nil), (mi_seq (me_fix (me_callC (sp := [none, none, none]) (dflt := []) C_roots_of (hr.mono (by first | decide | omega)) takes0 rfl (mr_fr (me_var (pv 4) rfl) (mr_fr (me_var (pv 5) rfl) (mr_fr (me_var (pv 3) rfl) mr_nil)))))), (mg_n (pg_name (i := 6) sc_roots.nd rfl (Or.inl rfl)) rfl), (pts_yes pts_nil), (me_var (pv 6) rfl)⟩)))))) (c.glo 11) (fun _ _ _ _ _ _ us hl => match us, hl with | [_], _ => rfl)
theorem ok_middle (c : Cty faL xsL fnL K mg) : Cal P w K mg base 1 "middle" [.fr] .fr f_middle [] := by
    rw [f_middle_eq]
    obtain ⟨fd, F⟩ := c.def_ 12 (d := d_middle) rfl
    exact Cal.of F (fn_ok (Γ := [.fr, .fr, .fr]) F sc_middle rfl rfl rfl (by decide) fun cdv A outer s H E hr G W tk =>
    (ms_cons (ms_par (ps_par (i := 1) (j := 2) rfl sc_middle.nd rfl rfl (by decide) rfl rfl (ma_cons (me_add (me_ix (me_var (pv 0) rfl) me_int (fun _ _ => rfl)) (me_ix (me_var (pv 0) rfl) me_int (fun _ _ => rfl))) (ma_cons (me_add (me_ix (me_var (pv 0) rfl) me_int (fun _ _ => rfl)) (me_ix (me_var (pv 0) rfl) me_int (fun _ _ => rfl))) ma_nil)) rfl) rfl rfl)
    (ms_cons (ms_if (mt_w (mt_or (mt_eq hr (me_mod (me_var (pv 1) rfl) me_int) me_int) (mt_or1 (mt_eq hr (me_mod (me_var (pv 2) rfl) me_int) me_int))))
    (ms_one (ms_ret me_non))
    ms_nil)
    (ms_one (ms_ret (me_tup (ma_cons (me_div (me_var (pv 1) rfl) me_int) (ma_cons (me_div (me_var (pv 2) rfl) me_int) ma_nil)) (len_cons (len_cons len_nil)) (by decide))))))) (c.glo 12) (fun _ _ _ _ _ _ us hl => match us, hl with | [_], _ => rfl)
theorem ok_halved (c : Cty faL xsL fnL K mg) (C_middle : Cal P w K mg base 1 "middle" [.fr] .fr f_middle []) : Cal P w K mg base 3 "halved" [.fr] .ol f_halved [] := by
    rw [f_halved_eq]
    obtain ⟨fd, F⟩ := c.def_ 13 (d := d_halved) rfl
    exact Cal.of F (fn_ok (Γ := [.fr, .fr, .fr, .fr, .fr, .fr, .fr, .fr]) F sc_halved rfl rfl rfl (by decide) fun cdv A outer s H E hr G W tk =>
    (ms_cons (ms_set (ps_set (i := 1) sc_halved.nd rfl (Or.inl rfl) (me_callC (sp := [none]) (dflt := []) C_middle (hr.mono (by first | decide | omega)) tk rfl (mr_fr (me_var (pv 0) rfl) mr_nil))) rfl)
    (ms_cons (ms_if (mt_isN (me_var (pv 1) rfl))
    (ms_one ms_stuck)
    ms_nil)
    (ms_cons (ms_asg (ps_asg (me_var (pv 0) rfl) (mg_tup (k := 6) rfl (mg_cons (mg_n (pg_name (i := 2) sc_halved.nd rfl (Or.inl rfl)) rfl) (mg_cons (mg_n (pg_name (i := 3) sc_halved.nd rfl (Or.inl rfl)) rfl) (mg_cons (mg_n (pg_name (i := 4) sc_halved.nd rfl (Or.inl rfl)) rfl) (mg_cons (mg_n (pg_name (i := 5) sc_halved.nd rfl (Or.inl rfl)) rfl) (mg_cons (mg_n (pg_name (i := 6) sc_halved.nd rfl (Or.inl rfl)) rfl) (mg_cons (mg_n (pg_name (i := 7) sc_halved.nd rfl (Or.inl rfl)) rfl) mg_nil)))))))))
    (ms_one (ms_ret (me_lst (ma_cons (me_tup (ma_cons (me_var (pv 2) rfl) (ma_cons (me_var (pv 3) rfl) (ma_cons (me_var (pv 6) rfl) (ma_cons (me_var (pv 7) rfl) (ma_cons (me_ix (me_var (pv 1) rfl) me_int (fun _ _ => rfl)) (ma_cons (me_ix (me_var (pv 1) rfl) me_int (fun _ _ => rfl)) ma_nil)))))) (len_cons (len_cons (len_cons (len_cons (len_cons (len_cons len_nil)))))) (by decide)) (ma_cons (me_tup (ma_cons (me_var (pv 6) rfl) (ma_cons (me_var (pv 7) rfl) (ma_cons (me_var (pv 4) rfl) (ma_cons (me_var (pv 5) rfl) (ma_cons (me_ix (me_var (pv 1) rfl) me_int (fun _ _ => rfl)) (ma_cons (me_ix (me_var (pv 1) rfl) me_int (fun _ _ => rfl)) ma_nil)))))) (len_cons (len_cons (len_cons (len_cons (len_cons (len_cons len_nil)))))) (by decide)) ma_nil)) (len_cons (len_cons len_nil)) (by decide)))))))) (c.glo 13) (fun _ _ _ _ _ _ us hl => match us, hl with | [_], _ => rfl)
theorem ok_spread (c : Cty faL xsL fnL K mg) (C_middle : Cal P w K mg base 1 "middle" [.fr] .fr f_middle []) (C_halved : Cal P w K mg base 3 "halved" [.fr] .ol f_halved []) : ∀ n : Nat, Cal P w K mg base (4 + n) "spread" [.fr, .fr, .ol] .fr (f_spread n) []
  | 0 => by
    obtain ⟨fd, F⟩ := c.def_ 14 (d := d_spread) rfl
    exact Cal.of (ps := ["shape", "there", "found"]) F fn_stuck (c.glo 14) (fun _ _ _ _ _ _ us hl => match us, hl with | [_, _, _], _ => rfl)
  | n + 1 => by
    have ih := ok_spread c C_middle C_halved n
    obtain ⟨fd, F⟩ := c.def_ 14 (d := d_spread) rfl
    exact Cal.of F (fn_ok (Γ := [.fr, .fr, .ol, .fr]) (k := 4 + n) F sc_spread rfl rfl rfl (by decide) fun cdv A outer s H E hr G W tk =>
    (ms_one (ms_if (mt_inDN hr (me_callC (sp := [none]) (dflt := []) C_middle (hr.mono (by first | decide | omega)) tk rfl (mr_fr (me_var (pv 0) rfl) mr_nil)) (me_var (pv 1) rfl))
    (ms_one (ms_for (ps_for (passes_of rfl) rfl (mi_seq (me_fix (me_callC (sp := [none]) (dflt := []) C_halved (hr.mono (by first | decide | omega)) tk rfl (mr_fr (me_var (pv 0) rfl) mr_nil)))) (mg_n (pg_name (i := 3) sc_spread.nd rfl (Or.inl rfl)) rfl)
    (ms_one (ms_exp (ps_expr (me_callC (sp := [none, none, some 2]) (dflt := []) ih (hr.mono (by first | decide | omega)) tk rfl (mr_fr (me_var (pv 3) rfl) (mr_fr (me_var (pv 1) rfl) (mr_own (pv 2) rfl mr_nil))))))))))
    (ms_one (ms_app (pe_bm PySem.F.plainAttrs_list PySem.F.slot_list_append PySem.F.type_list_append mt_append (pv 2) (pa_cons (me_var (pv 0) rfl) pa_nil)) rfl))))) (c.glo 14) (fun _ _ _ _ _ _ us hl => match us, hl with | [_, _, _], _ => rfl)
theorem ok_leaves (c : Cty faL xsL fnL K mg) (C_roots : Cal P w K mg base 2 "roots" [.fr] .ol f_roots []) (C_spread : ∀ n : Nat, Cal P w K mg base (4 + n) "spread" [.fr, .fr, .ol] .fr (f_spread n) []) : Cal P w K mg base 13 "leaves" [.fr, .fr] .ol f_leaves [] := by
    rw [f_leaves_eq]
    obtain ⟨fd, F⟩ := c.def_ 15 (d := d_leaves) rfl
    exact Cal.of F (fn_ok (Γ := [.fr, .fr, .ol, .fr]) F sc_leaves rfl rfl rfl (by decide) fun cdv A outer s H E hr G W tk =>
    (ms_cons (ms_setO (ps_set (i := 2) sc_leaves.nd rfl (Or.inl rfl) (me_lst ma_nil len_nil (by decide))) rfl (by decide))
    (ms_cons (ms_for (ps_for (passes_of rfl) rfl (mi_seq (me_fix (me_callC (sp := [none]) (dflt := []) C_roots (hr.mono (by first | decide | omega)) tk rfl (mr_fr (me_var (pv 0) rfl) mr_nil)))) (mg_n (pg_name (i := 3) sc_leaves.nd rfl (Or.inl rfl)) rfl)
    (ms_one (ms_exp (ps_expr (me_callC (sp := [none, none, some 2]) (dflt := []) (C_spread 8) (hr.mono (by first | decide | omega)) tk rfl (mr_fr (me_var (pv 3) rfl) (mr_fr (me_var (pv 1) rfl) (mr_own (pv 2) rfl mr_nil)))))))))
    (ms_one (ms_ret (me_mov (pv 2) rfl (by decide))))))) (c.glo 15) (fun _ _ _ _ _ _ us hl => match us, hl with | [_, _], _ => rfl)
theorem ok_lw_draw (c : Cty faL xsL fnL K mg) : Cal P w K mg base 1 "_law_draw" [.bag, .fr] .fr drawF [] := by
  obtain ⟨fd, F⟩ := c.def_ 17 (d := d_lw_draw) rfl
  refine Cal.of F (F.ok sc_lw_draw (spM_len rfl) fun cdv A outer s H vs Q E hr hsp => ?_) (c.glo 17) (fun _ _ _ _ _ _ us hl => match us, hl with | [_, _], _ => rfl)
  obtain ⟨b, cc, ns, k, z, many, rfl, hbc, hb, hcc, hm, hm2, hl, fin⟩ := draw_pre hsp
  have nd := sc_lw_draw.nd
  refine ⟨_, pss_cons (ps_set (i := 2) nd rfl (Or.inl rfl) (pe_ix ix_list (pv 0) pe_int (fun _ _ => rfl)))
    (pss_cons (ps_set (i := 3) nd rfl (Or.inl rfl) (pe_ix ix_list (pv 0) pe_int (fun _ _ => rfl)))
    (pss_cons (ps_set (i := 4) nd rfl (Or.inl rfl) pe_int)
    (pss_cons (ps_if (pt_cmpR op_gt (pe_callB call_len rfl (c.free 36) PySem.boot_len (pa_cons (pv 2) pa_nil)) pe_int (nomark _))
      (pss_one (ps_set (i := 4) nd rfl (Or.inl rfl) (pe_ix ix_list (pv 2) (pe_op op_mod (pv 3) (pe_callB call_len rfl (c.free 36) PySem.boot_len (pa_cons (pv 2) pa_nil))) (fun _ _ => rfl)))) pss_nil)
    (pss_cons (ps_if (pt_cmpR op_lt (pv 4) pe_int (nomark _)) (pss_one (ps_set (i := 4) nd rfl (Or.inl rfl) (pe_op op_sub pe_int (pv 4)))) pss_nil)
    (pss_cons (ps_if (pt_cmpR op_ge (pv 4) (pe_op op_pow pe_int pe_int) (nomark _))
      (pss_cons (ps_asg (pe_op op_fdivW (pv 4) (pv 1)) (pg_sub (pv 2) (pe_op op_mod (pv 3) (pe_callB call_len rfl (c.free 36) PySem.boot_len (pa_cons (pv 2) pa_nil))) set_list))
      (pss_one (ps_ret (pe_op op_mod (pv 4) (pv 1))))) pss_nil)
    (pss_cons (ps_asg (pe_op op_add (pv 3) pe_int) (pg_sub (pv 0) pe_int set_list))
    (pss_cons (ps_asg (pe_op op_mod (pe_op op_add (pe_op op_add (pe_op op_add (pe_op op_mul (pe_ix ix_list (pv 0) pe_int (fun _ _ => rfl)) pe_int) (pe_op op_mul (pv 4) pe_int)) (pe_op op_mul (pv 3) pe_int)) pe_int) pe_int) (pg_sub (pv 0) pe_int set_list))
    (pss_one (ps_ret (pe_op op_mod (pe_op op_fdivW (pe_op op_mod (pe_op op_mul (pe_ix ix_list (pv 0) pe_int (fun _ _ => rfl)) pe_int) pe_int) pe_int) (pv 1))))))))))), ?_⟩
  refine ⟨_, rfl, _, _, _, _, rfl, rfl, SqL.of hb, at_of (j := 0) rfl rfl, _, rfl, _, _, _, _, rfl, rfl, SqL.of hb, at_of (j := 1) rfl rfl, ?_⟩
  refine ⟨_, rfl, _, _, rfl, .inl ⟨_, SqL.of hcc, rfl⟩, _, _, rfl, rfl, _, rfl, ?_⟩
  rw [len_ints]
  by_cases h0 : 0 < ns.length
  · obtain ⟨j, ej, hj, ej2⟩ := mod_ix (k := k) h0
    rw [decide_eq_true (show (0 : Int) < (ns.length : Int) by omega)]
    refine iteT ?_
    refine ⟨_, rfl, _, rfl, _, rfl, _, _, rfl, .inl ⟨_, SqL.of hcc, rfl⟩, _, _, rfl, rfl, by rw [len_ints]; show (0 : Int) < (ns.length : Int); omega, ?_⟩
    rw [len_ints]
    refine ⟨_, _, _, _, rfl, rfl, SqL.of hcc, at_ints ej hj, ?_⟩
    refine ⟨_, rfl, _, _, rfl, rfl, _, rfl, ?_⟩
    by_cases h1 : ns.getD j 0 < 0
    · rw [decide_eq_true h1]
      refine iteT ⟨_, rfl, _, _, rfl, rfl, ?_⟩
      have ec : cellI ns k = 1 - ns.getD j 0 := by rw [← ej2]; exact cell_pos h0 (by rw [ej2]; exact h1)
      refine ⟨_, rfl, _, _, rfl, rfl, ⟨by decide, by decide, by decide⟩, _, _, rfl, rfl, _, rfl, ?_⟩
      by_cases h2 : 1000000000000000000 ≤ (1 - ns.getD j 0)
      · rw [decide_eq_true (show ((10 : Int) ^ (18 : Int).toNat) ≤ (1 - ns.getD j 0) from h2)]
        refine iteT ⟨_, rfl, _, rfl, _, _, rfl, rfl, ⟨hm, hm2⟩, _, rfl, _, rfl, _, rfl, _, _, rfl, .inl ⟨_, SqL.of hcc, rfl⟩, _, _, rfl, rfl, by rw [len_ints]; show (0 : Int) < (ns.length : Int); omega, ?_⟩
        refine ⟨_, _, _, j, rfl, rfl, hcc, ix_mod ej hj, ?_⟩
        refine ⟨_, rfl, _, rfl, _, _, rfl, rfl, hm, ?_⟩
        have e := fin (upd H cc (.lst ((ns.map V.int).set j (.int ((1 - ns.getD j 0) / many)))))
        unfold drawR drawN drawK drawZ at e
        rw [ec, if_pos h2, if_pos h2, if_pos h2, if_pos h2, ej2] at e
        exact e (by rw [upd_ne hbc]; exact hb) (by rw [upd_same, List.map_set]) fun a h1 h2 => upd_ne h2
      · rw [decide_eq_false (show ¬ ((10 : Int) ^ (18 : Int).toNat) ≤ (1 - ns.getD j 0) from h2)]
        refine iteF ?_
        refine ⟨_, rfl, _, _, rfl, rfl, _, rfl, _, _, _, 1, rfl, rfl, hb, rfl, ?_⟩
        refine ⟨_, rfl, _, _, _, _, rfl, rfl, SqL.of upd_same, at_of (j := 2) rfl rfl, _, _, rfl, rfl, .inr ⟨by decide, by decide⟩, _, rfl, _, _, rfl, rfl, .inr ⟨by decide, by decide⟩, _, _, rfl, rfl, _, rfl, _, _, rfl, rfl, .inr ⟨by decide, by decide⟩, _, _, rfl, rfl, _, _, rfl, rfl, _, _, rfl, rfl, by show (0 : Int) < 2147483647; decide, ?_⟩
        refine ⟨_, rfl, _, _, _, 2, rfl, rfl, upd_same, rfl, ?_⟩
        refine ⟨_, rfl, _, _, _, _, rfl, rfl, SqL.of upd_same, at_of (j := 2) rfl rfl, _, _, rfl, rfl, .inr ⟨by decide, by decide⟩, _, _, rfl, rfl, by show (0 : Int) < 2147483629; decide, _, _, rfl, rfl, ⟨by decide, by decide +kernel⟩, _, rfl, _, _, rfl, rfl, hm, ?_⟩
        have e := fin (upd (upd H b (.lst [.ref cc, .int (k + 1), .int z])) b (.lst [.ref cc, .int (k + 1), .int ((z * 48271 + (1 - ns.getD j 0) * 9973 + k * 31 + 11) % 2147483647)]))
        unfold drawR drawN drawK drawZ seedI at e
        rw [ec, if_neg h2, if_neg h2, if_neg h2, if_neg h2] at e
        exact e upd_same (by rw [upd_ne hbc.symm, upd_ne hbc.symm]; exact hcc) fun a h1 h2 => by rw [upd_ne h1, upd_ne h1]
    · rw [decide_eq_false h1]
      refine iteF ?_
      have ec : cellI ns k = ns.getD j 0 := by rw [← ej2]; exact cell_nn h0 (by rw [ej2]; exact h1)
      refine ⟨_, rfl, _, _, rfl, rfl, ⟨by decide, by decide, by decide⟩, _, _, rfl, rfl, _, rfl, ?_⟩
      by_cases h2 : 1000000000000000000 ≤ (ns.getD j 0)
      · rw [decide_eq_true (show ((10 : Int) ^ (18 : Int).toNat) ≤ (ns.getD j 0) from h2)]
        refine iteT ⟨_, rfl, _, rfl, _, _, rfl, rfl, ⟨hm, hm2⟩, _, rfl, _, rfl, _, rfl, _, _, rfl, .inl ⟨_, SqL.of hcc, rfl⟩, _, _, rfl, rfl, by rw [len_ints]; show (0 : Int) < (ns.length : Int); omega, ?_⟩
        refine ⟨_, _, _, j, rfl, rfl, hcc, ix_mod ej hj, ?_⟩
        refine ⟨_, rfl, _, rfl, _, _, rfl, rfl, hm, ?_⟩
        have e := fin (upd H cc (.lst ((ns.map V.int).set j (.int ((ns.getD j 0) / many)))))
        unfold drawR drawN drawK drawZ at e
        rw [ec, if_pos h2, if_pos h2, if_pos h2, if_pos h2, ej2] at e
        exact e (by rw [upd_ne hbc]; exact hb) (by rw [upd_same, List.map_set]) fun a h1 h2 => upd_ne h2
      · rw [decide_eq_false (show ¬ ((10 : Int) ^ (18 : Int).toNat) ≤ (ns.getD j 0) from h2)]
        refine iteF ?_
        refine ⟨_, rfl, _, _, rfl, rfl, _, rfl, _, _, _, 1, rfl, rfl, hb, rfl, ?_⟩
        refine ⟨_, rfl, _, _, _, _, rfl, rfl, SqL.of upd_same, at_of (j := 2) rfl rfl, _, _, rfl, rfl, .inr ⟨by decide, by decide⟩, _, rfl, _, _, rfl, rfl, .inr ⟨by decide, by decide⟩, _, _, rfl, rfl, _, rfl, _, _, rfl, rfl, .inr ⟨by decide, by decide⟩, _, _, rfl, rfl, _, _, rfl, rfl, _, _, rfl, rfl, by show (0 : Int) < 2147483647; decide, ?_⟩
        refine ⟨_, rfl, _, _, _, 2, rfl, rfl, upd_same, rfl, ?_⟩
        refine ⟨_, rfl, _, _, _, _, rfl, rfl, SqL.of upd_same, at_of (j := 2) rfl rfl, _, _, rfl, rfl, .inr ⟨by decide, by decide⟩, _, _, rfl, rfl, by show (0 : Int) < 2147483629; decide, _, _, rfl, rfl, ⟨by decide, by decide +kernel⟩, _, rfl, _, _, rfl, rfl, hm, ?_⟩
        have e := fin (upd (upd H b (.lst [.ref cc, .int (k + 1), .int z])) b (.lst [.ref cc, .int (k + 1), .int ((z * 48271 + (ns.getD j 0) * 9973 + k * 31 + 11) % 2147483647)]))
        unfold drawR drawN drawK drawZ seedI at e
        rw [ec, if_neg h2, if_neg h2, if_neg h2, if_neg h2] at e
        exact e upd_same (by rw [upd_ne hbc.symm, upd_ne hbc.symm]; exact hcc) fun a h1 h2 => by rw [upd_ne h1, upd_ne h1]
  · rw [decide_eq_false (show ¬ (0 : Int) < (ns.length : Int) by omega)]
    refine iteF ?_
    refine ⟨_, rfl, _, _, rfl, rfl, _, rfl, ?_⟩
    refine iteF ?_
    have ec : cellI ns k = 0 := cell_no h0
    refine ⟨_, rfl, _, _, rfl, rfl, ⟨by decide, by decide, by decide⟩, _, _, rfl, rfl, _, rfl, ?_⟩
    refine iteF ?_
    have h2 : ¬ (1000000000000000000 : Int) ≤ 0 := by decide
    refine ⟨_, rfl, _, _, rfl, rfl, _, rfl, _, _, _, 1, rfl, rfl, hb, rfl, ?_⟩
    refine ⟨_, rfl, _, _, _, _, rfl, rfl, SqL.of upd_same, at_of (j := 2) rfl rfl, _, _, rfl, rfl, .inr ⟨by decide, by decide⟩, _, rfl, _, _, rfl, rfl, .inr ⟨by decide, by decide⟩, _, _, rfl, rfl, _, rfl, _, _, rfl, rfl, .inr ⟨by decide, by decide⟩, _, _, rfl, rfl, _, _, rfl, rfl, _, _, rfl, rfl, by show (0 : Int) < 2147483647; decide, ?_⟩
    refine ⟨_, rfl, _, _, _, 2, rfl, rfl, upd_same, rfl, ?_⟩
    refine ⟨_, rfl, _, _, _, _, rfl, rfl, SqL.of upd_same, at_of (j := 2) rfl rfl, _, _, rfl, rfl, .inr ⟨by decide, by decide⟩, _, _, rfl, rfl, by show (0 : Int) < 2147483629; decide, _, _, rfl, rfl, ⟨by decide, by decide +kernel⟩, _, rfl, _, _, rfl, rfl, hm, ?_⟩
    have e := fin (upd (upd H b (.lst [.ref cc, .int (k + 1), .int z])) b (.lst [.ref cc, .int (k + 1), .int ((z * 48271 + 0 * 9973 + k * 31 + 11) % 2147483647)]))
    unfold drawR drawN drawK drawZ seedI at e
    rw [ec, if_neg h2, if_neg h2, if_neg h2, if_neg h2] at e
    exact e upd_same (by rw [upd_ne hbc.symm, upd_ne hbc.symm]; exact hcc) fun a h1 h2 => by rw [upd_ne h1, upd_ne h1]

theorem ok_lw_plan (c : Cty faL xsL fnL K mg) (C_lw_draw : Cal P w K mg base 1 "_law_draw" [.bag, .fr] .fr drawF []) : Cal P w K mg base 2 "_law_plan" [.bag] .fr f_lw_plan [] := by
    rw [f_lw_plan_eq]
    obtain ⟨fd, F⟩ := c.def_ 18 (d := d_lw_plan) rfl
    exact Cal.of F (fn_ok (Γ := [.bag, .fr]) F sc_lw_plan rfl rfl rfl (by decide) fun cdv A outer s H E hr G W tk =>
    (ms_cons (ms_set (ps_set (i := 1) sc_lw_plan.nd rfl (Or.inl rfl) (me_fix (me_lst (ma_cons (me_tup (ma_cons me_int (ma_cons me_int (ma_cons me_int ma_nil))) (len_cons (len_cons (len_cons len_nil))) (by decide)) (ma_cons (me_tup (ma_cons me_int (ma_cons me_int (ma_cons me_int ma_nil))) (len_cons (len_cons (len_cons len_nil))) (by decide)) (ma_cons (me_tup (ma_cons me_int (ma_cons me_int (ma_cons me_int ma_nil))) (len_cons (len_cons (len_cons len_nil))) (by decide)) (ma_cons (me_tup (ma_cons me_int (ma_cons me_int (ma_cons me_int ma_nil))) (len_cons (len_cons (len_cons len_nil))) (by decide)) (ma_cons (me_tup (ma_cons me_int (ma_cons me_int (ma_cons me_int ma_nil))) (len_cons (len_cons (len_cons len_nil))) (by decide)) (ma_cons (me_tup (ma_cons me_int (ma_cons me_int (ma_cons me_int ma_nil))) (len_cons (len_cons (len_cons len_nil))) (by decide)) ma_nil)))))) (len_cons (len_cons (len_cons (len_cons (len_cons (len_cons len_nil)))))) (by decide)))) rfl)
    (ms_cons (ms_set (ps_set (i := 1) sc_lw_plan.nd rfl (Or.inl rfl) (me_fix (me_cat (me_var (pv 1) rfl) (me_fix (me_lst (ma_cons (me_tup (ma_cons me_int (ma_cons me_int (ma_cons me_int ma_nil))) (len_cons (len_cons (len_cons len_nil))) (by decide)) (ma_cons (me_tup (ma_cons me_int (ma_cons me_int (ma_cons me_int ma_nil))) (len_cons (len_cons (len_cons len_nil))) (by decide)) (ma_cons (me_tup (ma_cons me_int (ma_cons me_int (ma_cons me_int ma_nil))) (len_cons (len_cons (len_cons len_nil))) (by decide)) (ma_cons (me_tup (ma_cons me_int (ma_cons me_int (ma_cons me_int ma_nil))) (len_cons (len_cons (len_cons len_nil))) (by decide)) (ma_cons (me_tup (ma_cons me_int (ma_cons me_int (ma_cons me_int ma_nil))) (len_cons (len_cons (len_cons len_nil))) (by decide)) (ma_cons (me_tup (ma_cons me_int (ma_cons me_int (ma_cons me_int ma_nil))) (len_cons (len_cons (len_cons len_nil))) (by decide)) ma_nil)))))) (len_cons (len_cons (len_cons (len_cons (len_cons (len_cons len_nil)))))) (by decide)))))) rfl)
    (ms_one (ms_ret (me_ix (me_var (pv 1) rfl) (me_callC (sp := [some 0, none]) (dflt := []) C_lw_draw (hr.mono (by first | decide | omega)) tk rfl (mr_own (pv 0) rfl (mr_fr me_int mr_nil))) (fun _ _ => rfl))))))) (c.glo 18) (fun _ _ _ _ _ _ us hl => match us, hl with | [_], _ => rfl)
theorem ok_lw_places (c : Cty faL xsL fnL K mg) : Cal P w K mg base 1 "_law_places" [.fr] .ol f_lw_places [] := by
    rw [f_lw_places_eq]
    obtain ⟨fd, F⟩ := c.def_ 19 (d := d_lw_places) rfl
    exact Cal.of F (fn_ok (Γ := [.fr, .ol, .fr, .fr]) F sc_lw_places rfl rfl rfl (by decide) fun cdv A outer s H E hr G W tk =>
    (ms_cons (ms_setO (ps_set (i := 1) sc_lw_places.nd rfl (Or.inl rfl) (me_lst ma_nil len_nil (by decide))) rfl (by decide))
    (ms_cons (ms_for (ps_for (passes_of rfl) rfl (mi_rng1 (pi_range1 rfl (c.free 34) (ma_cons (me_add (me_mul (me_ix (me_var (pv 0) rfl) me_int (fun _ _ => rfl)) (me_ix (me_var (pv 0) rfl) me_int (fun _ _ => rfl))) me_int) ma_nil))) (mg_n (pg_name (i := 2) sc_lw_places.nd rfl (Or.inl rfl)) rfl)
    (ms_one (ms_for (ps_for (passes_of rfl) rfl (mi_rng1 (pi_range1 rfl (c.free 34) (ma_cons (me_add (me_mul (me_ix (me_var (pv 0) rfl) me_int (fun _ _ => rfl)) (me_ix (me_var (pv 0) rfl) me_int (fun _ _ => rfl))) me_int) ma_nil))) (mg_n (pg_name (i := 3) sc_lw_places.nd rfl (Or.inl rfl)) rfl)
    (ms_one (ms_app (pe_bm PySem.F.plainAttrs_list PySem.F.slot_list_append PySem.F.type_list_append mt_append (pv 1) (pa_cons (me_tup (ma_cons (me_var (pv 2) rfl) (ma_cons (me_var (pv 3) rfl) ma_nil)) (len_cons (len_cons len_nil)) (by decide)) pa_nil)) rfl)))))))
    (ms_one (ms_ret (me_mov (pv 1) rfl (by decide))))))) (c.glo 19) (fun _ _ _ _ _ _ us hl => match us, hl with | [_], _ => rfl)
theorem ok_lw_corner (c : Cty faL xsL fnL K mg) : Cal P w K mg base 1 "_law_corner" [.fr, .fr] .fr f_lw_corner [] := by
    rw [f_lw_corner_eq]
    obtain ⟨fd, F⟩ := c.def_ 20 (d := d_lw_corner) rfl
    exact Cal.of F (fn_ok (Γ := [.fr, .fr]) F sc_lw_corner rfl rfl rfl (by decide) fun cdv A outer s H E hr G W tk =>
    (ms_one (ms_ret (me_and (me_eq hr (me_mod (me_ix (me_var (pv 1) rfl) me_int (fun _ _ => rfl)) (me_ix (me_var (pv 0) rfl) me_int (fun _ _ => rfl))) me_int) (me_one (me_eq hr (me_mod (me_ix (me_var (pv 1) rfl) me_int (fun _ _ => rfl)) (me_ix (me_var (pv 0) rfl) me_int (fun _ _ => rfl))) me_int)))))) (c.glo 20) (fun _ _ _ _ _ _ us hl => match us, hl with | [_, _], _ => rfl)
theorem ok_lw_cuts (c : Cty faL xsL fnL K mg) (C_lw_places : Cal P w K mg base 1 "_law_places" [.fr] .ol f_lw_places []) (C_lw_corner : Cal P w K mg base 1 "_law_corner" [.fr, .fr] .fr f_lw_corner []) : Cal P w K mg base 2 "_law_cuts" [.fr] .ol f_lw_cuts [] := by
    rw [f_lw_cuts_eq]
    obtain ⟨fd, F⟩ := c.def_ 21 (d := d_lw_cuts) rfl
    exact Cal.of F (fn_ok (Γ := [.fr, .fr]) F sc_lw_cuts rfl rfl rfl (by decide) fun cdv A outer s H E hr G W tk =>
    (ms_one (ms_ret (me_comp (pe_lc (own := [("_law_at", 1)]) rfl sc_lw_cuts.nd (mi_seq (me_fix (me_callC (sp := [none]) (dflt := []) C_lw_places (hr.mono (by first | decide | omega)) tk rfl (mr_fr (me_var (pv 0) rfl) mr_nil)))) (blkOk_by (own := [("_law_at", 1)]) (N := N_lw_cuts) (sc := defScope s_lw_cuts) (by decide +kernel)) (fun _ _ _ _ _ => (mg_n (pg_name (i := 1) sc_lw_cuts.nd rfl (Or.inl rfl)) rfl)) (fun _ _ _ _ _ => (pts_one (mt_not (mt_tru (me_callC (sp := [none, none]) (dflt := []) C_lw_corner (hr.mono (by first | decide | omega)) takes0 rfl (mr_fr (me_var (pv 0) rfl) (mr_fr (me_var (pv 1) rfl) mr_nil))))))) (fun _ _ _ _ _ => (me_var (pv 1) rfl))))))) (c.glo 21) (fun _ _ _ _ _ _ us hl => match us, hl with | [_], _ => rfl)
theorem ok_lw_in (c : Cty faL xsL fnL K mg) : Cal P w K mg base 1 "_law_in" [.fr, .fr] .fr f_lw_in [] := by
    rw [f_lw_in_eq]
    obtain ⟨fd, F⟩ := c.def_ 22 (d := d_lw_in) rfl
    exact Cal.of F (fn_ok (Γ := [.fr, .fr]) F sc_lw_in rfl rfl rfl (by decide) fun cdv A outer s H E hr G W tk =>
    (ms_one (ms_ret (me_and (me_chain op_le op_le od_le od_le me_int (me_ix (me_var (pv 1) rfl) me_int (fun _ _ => rfl)) (me_mul (me_ix (me_var (pv 0) rfl) me_int (fun _ _ => rfl)) (me_ix (me_var (pv 0) rfl) me_int (fun _ _ => rfl)))) (me_one (me_chain op_le op_le od_le od_le me_int (me_ix (me_var (pv 1) rfl) me_int (fun _ _ => rfl)) (me_mul (me_ix (me_var (pv 0) rfl) me_int (fun _ _ => rfl)) (me_ix (me_var (pv 0) rfl) me_int (fun _ _ => rfl))))))))) (c.glo 22) (fun _ _ _ _ _ _ us hl => match us, hl with | [_, _], _ => rfl)
theorem ok_lw_step (c : Cty faL xsL fnL K mg) : Cal P w K mg base 1 "_law_step" [.fr] .fr f_lw_step [] := by
    rw [f_lw_step_eq]
    obtain ⟨fd, F⟩ := c.def_ 23 (d := d_lw_step) rfl
    exact Cal.of F (fn_ok (Γ := [.fr]) F sc_lw_step rfl rfl rfl (by decide) fun cdv A outer s H E hr G W tk =>
    (ms_cons (ms_if (mt_w (mt_and (mt_eq hr (me_mod (me_ix (me_var (pv 0) rfl) me_int (fun _ _ => rfl)) me_int) me_int) (mt_and1 (mt_eq hr (me_mod (me_ix (me_var (pv 0) rfl) me_int (fun _ _ => rfl)) me_int) me_int))))
    (ms_one (ms_ret me_int))
    ms_nil)
    (ms_cons (ms_if (mt_w (mt_and (mt_eq hr (me_mod (me_ix (me_var (pv 0) rfl) me_int (fun _ _ => rfl)) me_int) me_int) (mt_and1 (mt_eq hr (me_mod (me_ix (me_var (pv 0) rfl) me_int (fun _ _ => rfl)) me_int) me_int))))
    (ms_one (ms_ret me_int))
    ms_nil)
    (ms_one (ms_ret me_int))))) (c.glo 23) (fun _ _ _ _ _ _ us hl => match us, hl with | [_], _ => rfl)
theorem ok_lw_centre (c : Cty faL xsL fnL K mg) (C_lw_step : Cal P w K mg base 1 "_law_step" [.fr] .fr f_lw_step []) : Cal P w K mg base 2 "_law_centre" [.fr] .fr f_lw_centre [] := by
    rw [f_lw_centre_eq]
    obtain ⟨fd, F⟩ := c.def_ 24 (d := d_lw_centre) rfl
    exact Cal.of F (fn_ok (Γ := [.fr, .fr]) F sc_lw_centre rfl rfl rfl (by decide) fun cdv A outer s H E hr G W tk =>
    (ms_cons (ms_set (ps_set (i := 1) sc_lw_centre.nd rfl (Or.inl rfl) (me_callC (sp := [none]) (dflt := []) C_lw_step (hr.mono (by first | decide | omega)) tk rfl (mr_fr (me_var (pv 0) rfl) mr_nil))) rfl)
    (ms_one (ms_ret (me_and (me_eq hr (me_mod (me_div (me_ix (me_var (pv 0) rfl) me_int (fun _ _ => rfl)) (me_var (pv 1) rfl)) me_int) me_int) (me_one (me_eq hr (me_mod (me_div (me_ix (me_var (pv 0) rfl) me_int (fun _ _ => rfl)) (me_var (pv 1) rfl)) me_int) me_int))))))) (c.glo 24) (fun _ _ _ _ _ _ us hl => match us, hl with | [_], _ => rfl)
theorem ok_lw_around (c : Cty faL xsL fnL K mg) (C_lw_step : Cal P w K mg base 1 "_law_step" [.fr] .fr f_lw_step []) (C_lw_centre : Cal P w K mg base 2 "_law_centre" [.fr] .fr f_lw_centre []) : Cal P w K mg base 3 "_law_around" [.fr] .ol f_lw_around [] := by
    rw [f_lw_around_eq]
    obtain ⟨fd, F⟩ := c.def_ 25 (d := d_lw_around) rfl
    exact Cal.of F (fn_ok (Γ := [.fr, .fr, .fr, .fr, .fr, .fr, .fr, .fr]) F sc_lw_around rfl rfl rfl (by decide) fun cdv A outer s H E hr G W tk =>
    (ms_cons (ms_set (ps_set (i := 1) sc_lw_around.nd rfl (Or.inl rfl) (me_callC (sp := [none]) (dflt := []) C_lw_step (hr.mono (by first | decide | omega)) tk rfl (mr_fr (me_var (pv 0) rfl) mr_nil))) rfl)
    (ms_cons (ms_asg (ps_asg (me_var (pv 0) rfl) (mg_tup (k := 2) rfl (mg_cons (mg_n (pg_name (i := 2) sc_lw_around.nd rfl (Or.inl rfl)) rfl) (mg_cons (mg_n (pg_name (i := 3) sc_lw_around.nd rfl (Or.inl rfl)) rfl) mg_nil)))))
    (ms_cons (ms_set (ps_set (i := 4) sc_lw_around.nd rfl (Or.inl rfl) (me_fix (me_lst (ma_cons (me_tup (ma_cons (me_sub (me_var (pv 2) rfl) (me_var (pv 1) rfl)) (ma_cons (me_var (pv 3) rfl) ma_nil)) (len_cons (len_cons len_nil)) (by decide)) (ma_cons (me_tup (ma_cons (me_add (me_var (pv 2) rfl) (me_var (pv 1) rfl)) (ma_cons (me_var (pv 3) rfl) ma_nil)) (len_cons (len_cons len_nil)) (by decide)) ma_nil)) (len_cons (len_cons len_nil)) (by decide)))) rfl)
    (ms_cons (ms_set (ps_set (i := 5) sc_lw_around.nd rfl (Or.inl rfl) (me_fix (me_lst (ma_cons (me_tup (ma_cons (me_var (pv 2) rfl) (ma_cons (me_sub (me_var (pv 3) rfl) (me_var (pv 1) rfl)) ma_nil)) (len_cons (len_cons len_nil)) (by decide)) (ma_cons (me_tup (ma_cons (me_var (pv 2) rfl) (ma_cons (me_add (me_var (pv 3) rfl) (me_var (pv 1) rfl)) ma_nil)) (len_cons (len_cons len_nil)) (by decide)) ma_nil)) (len_cons (len_cons len_nil)) (by decide)))) rfl)
    (ms_cons (ms_set (ps_set (i := 6) sc_lw_around.nd rfl (Or.inl rfl) (me_fix (me_lst (ma_cons (me_tup (ma_cons (me_sub (me_var (pv 2) rfl) (me_var (pv 1) rfl)) (ma_cons (me_sub (me_var (pv 3) rfl) (me_var (pv 1) rfl)) ma_nil)) (len_cons (len_cons len_nil)) (by decide)) (ma_cons (me_tup (ma_cons (me_add (me_var (pv 2) rfl) (me_var (pv 1) rfl)) (ma_cons (me_add (me_var (pv 3) rfl) (me_var (pv 1) rfl)) ma_nil)) (len_cons (len_cons len_nil)) (by decide)) ma_nil)) (len_cons (len_cons len_nil)) (by decide)))) rfl)
    (ms_cons (ms_set (ps_set (i := 7) sc_lw_around.nd rfl (Or.inl rfl) (me_fix (me_lst (ma_cons (me_tup (ma_cons (me_sub (me_var (pv 2) rfl) (me_var (pv 1) rfl)) (ma_cons (me_add (me_var (pv 3) rfl) (me_var (pv 1) rfl)) ma_nil)) (len_cons (len_cons len_nil)) (by decide)) (ma_cons (me_tup (ma_cons (me_add (me_var (pv 2) rfl) (me_var (pv 1) rfl)) (ma_cons (me_sub (me_var (pv 3) rfl) (me_var (pv 1) rfl)) ma_nil)) (len_cons (len_cons len_nil)) (by decide)) ma_nil)) (len_cons (len_cons len_nil)) (by decide)))) rfl)
    (ms_cons (ms_if (mt_tru (me_callC (sp := [none]) (dflt := []) C_lw_centre (hr.mono (by first | decide | omega)) tk rfl (mr_fr (me_var (pv 0) rfl) mr_nil)))
    (ms_cons (ms_if (mt_eq hr (me_mod (me_div (me_sub (me_add (me_sub (me_var (pv 2) rfl) (me_var (pv 1) rfl)) (me_var (pv 3) rfl)) (me_var (pv 1) rfl)) (me_mul me_int (me_var (pv 1) rfl))) me_int) me_int)
    (ms_one (ms_ret (me_lst (ma_cons (me_var (pv 6) rfl) (ma_cons (me_var (pv 7) rfl) ma_nil)) (len_cons (len_cons len_nil)) (by decide))))
    ms_nil)
    (ms_one (ms_ret (me_lst (ma_cons (me_var (pv 7) rfl) (ma_cons (me_var (pv 6) rfl) ma_nil)) (len_cons (len_cons len_nil)) (by decide)))))
    ms_nil)
    (ms_cons (ms_if (mt_eq hr (me_mod (me_div (me_var (pv 2) rfl) (me_var (pv 1) rfl)) me_int) me_int)
    (ms_one (ms_ret (me_lst (ma_cons (me_var (pv 4) rfl) (ma_cons (me_var (pv 5) rfl) ma_nil)) (len_cons (len_cons len_nil)) (by decide))))
    ms_nil)
    (ms_one (ms_ret (me_lst (ma_cons (me_var (pv 5) rfl) (ma_cons (me_var (pv 4) rfl) ma_nil)) (len_cons (len_cons len_nil)) (by decide))))))))))))) (c.glo 25) (fun _ _ _ _ _ _ us hl => match us, hl with | [_], _ => rfl)
theorem ok_lw_ups (c : Cty faL xsL fnL K mg) (C_lw_around : Cal P w K mg base 3 "_law_around" [.fr] .ol f_lw_around []) (C_lw_in : Cal P w K mg base 1 "_law_in" [.fr, .fr] .fr f_lw_in []) (C_lw_corner : Cal P w K mg base 1 "_law_corner" [.fr, .fr] .fr f_lw_corner []) : Cal P w K mg base 4 "_law_ups" [.fr, .fr] .ol f_lw_ups [] := by
    rw [f_lw_ups_eq]
    obtain ⟨fd, F⟩ := c.def_ 26 (d := d_lw_ups) rfl
    exact Cal.of F (fn_ok (Γ := [.fr, .fr, .fr]) F sc_lw_ups rfl rfl rfl (by decide) fun cdv A outer s H E hr G W tk =>
    (ms_one (ms_ret (me_comp (pe_lc (own := [("_law_up", 2)]) rfl sc_lw_ups.nd (mi_seq (me_ix (me_fix (me_callC (sp := [none]) (dflt := []) C_lw_around (hr.mono (by first | decide | omega)) tk rfl (mr_fr (me_var (pv 1) rfl) mr_nil))) me_int (fun _ _ => rfl))) (blkOk_by (own := [("_law_up", 2)]) (N := N_lw_ups) (sc := defScope s_lw_ups) (by decide +kernel)) (fun _ _ _ _ _ => (mg_n (pg_name (i := 2) sc_lw_ups.nd rfl (Or.inl rfl)) rfl)) (fun _ _ _ _ _ => (pts_one (mt_w (mt_and (mt_tru (me_callC (sp := [none, none]) (dflt := []) C_lw_in (hr.mono (by first | decide | omega)) takes0 rfl (mr_fr (me_var (pv 0) rfl) (mr_fr (me_var (pv 2) rfl) mr_nil)))) (mt_and1 (mt_not (mt_tru (me_callC (sp := [none, none]) (dflt := []) C_lw_corner (hr.mono (by first | decide | omega)) takes0 rfl (mr_fr (me_var (pv 0) rfl) (mr_fr (me_var (pv 2) rfl) mr_nil)))))))))) (fun _ _ _ _ _ => (me_var (pv 2) rfl))))))) (c.glo 26) (fun _ _ _ _ _ _ us hl => match us, hl with | [_, _], _ => rfl)
theorem ok_lw_level (c : Cty faL xsL fnL K mg) (C_lw_centre : Cal P w K mg base 2 "_law_centre" [.fr] .fr f_lw_centre []) (C_lw_step : Cal P w K mg base 1 "_law_step" [.fr] .fr f_lw_step []) : Cal P w K mg base 3 "_law_level" [.fr, .fr] .fr f_lw_level [] := by
    rw [f_lw_level_eq]
    obtain ⟨fd, F⟩ := c.def_ 27 (d := d_lw_level) rfl
    exact Cal.of F (fn_ok (Γ := [.fr, .fr, .fr, .fr, .fr]) F sc_lw_level rfl rfl rfl (by decide) fun cdv A outer s H E hr G W tk =>
    (ms_cons (ms_set (ps_set (i := 2) sc_lw_level.nd rfl (Or.inl rfl) me_int) rfl)
    (ms_cons (ms_set (ps_set (i := 3) sc_lw_level.nd rfl (Or.inl rfl) (me_div (me_ix (me_var (pv 0) rfl) me_int (fun _ _ => rfl)) me_int)) rfl)
    (ms_cons (ms_for (ps_for (passes_of rfl) rfl (mi_rng1 (pi_range1 rfl (c.free 34) (ma_cons me_int ma_nil))) (mg_n (pg_name (i := 4) sc_lw_level.nd rfl (Or.inl rfl)) rfl)
    (ms_one (ms_if (mt_gt (me_var (pv 3) rfl) (me_callC (sp := [none]) (dflt := []) C_lw_step (hr.mono (by first | decide | omega)) tk rfl (mr_fr (me_var (pv 1) rfl) mr_nil)))
    (ms_cons (ms_set (ps_set (i := 3) sc_lw_level.nd rfl (Or.inl rfl) (me_div (me_var (pv 3) rfl) me_int)) rfl)
    (ms_one (ms_set (ps_set (i := 2) sc_lw_level.nd rfl (Or.inl rfl) (me_add (me_var (pv 2) rfl) me_int)) rfl)))
    ms_nil))))
    (ms_cons (ms_if (mt_tru (me_callC (sp := [none]) (dflt := []) C_lw_centre (hr.mono (by first | decide | omega)) tk rfl (mr_fr (me_var (pv 1) rfl) mr_nil)))
    (ms_one (ms_ret (me_var (pv 2) rfl)))
    ms_nil)
    (ms_one (ms_ret (me_add (me_var (pv 2) rfl) me_int)))))))) (c.glo 27) (fun _ _ _ _ _ _ us hl => match us, hl with | [_, _], _ => rfl)
theorem ok_lw_closed (c : Cty faL xsL fnL K mg) (C_lw_ups : Cal P w K mg base 4 "_law_ups" [.fr, .fr] .ol f_lw_ups []) : Cal P w K mg base 5 "_law_closed" [.fr, .fr] .ol f_lw_closed [] := by
    rw [f_lw_closed_eq]
    obtain ⟨fd, F⟩ := c.def_ 28 (d := d_lw_closed) rfl
    exact Cal.of F (fn_ok (Γ := [.fr, .fr, .od, .ol, .fr]) F sc_lw_closed rfl rfl rfl (by decide) fun cdv A outer s H E hr G W tk =>
    (ms_cons (ms_setO (ps_set (i := 2) sc_lw_closed.nd rfl (Or.inl rfl) me_dnew) rfl (by decide))
    (ms_cons (ms_setO (ps_set (i := 3) sc_lw_closed.nd rfl (Or.inl rfl) (me_list (pe_callTy call_list_of rfl (c.free 35) (by decide +kernel) (pa_cons (me_var (pv 1) rfl) pa_nil)) (pe_callTy (call_list_dT rfl) rfl (c.free 35) (by decide +kernel) (pa_cons (me_var (pv 1) rfl) pa_nil)))) rfl (by decide))
    (ms_cons (ms_while (fuel := fu_lw_closed_1) (ps_while (passes_of rfl) (mt_gt (me_lenO (pe_callB call_len rfl (c.free 36) PySem.boot_len (pa_cons (pv 3) pa_nil)) rfl) me_int)
    (ms_cons (ms_set (ps_set (i := 4) sc_lw_closed.nd rfl (Or.inl rfl) (me_pop (pe_bm0 PySem.F.plainAttrs_list PySem.F.slot_list_pop PySem.F.type_list_pop mt_pop (pv 3)) rfl)) rfl)
    (ms_one (ms_if (mt_notinO hr (me_var (pv 4) rfl) (pv 2) rfl)
    (ms_cons (ms_putO hr (pv 2) rfl (me_var (pv 4) rfl) me_bl)
    (ms_one (ms_ext (pe_bm PySem.F.plainAttrs_list PySem.F.slot_list_extend PySem.F.type_list_extend mt_extend (pv 3) (pa_cons (me_fix (me_callC (sp := [none, none]) (dflt := []) C_lw_ups (hr.mono (by first | decide | omega)) tk rfl (mr_fr (me_var (pv 0) rfl) (mr_fr (me_var (pv 4) rfl) mr_nil)))) pa_nil)) rfl)))
    ms_nil)))))
    (ms_one (ms_ret (me_sortedO (pe_callB (call_sortD hr rfl) rfl (c.free 33) (by decide +kernel) (pa_cons (pv 2) pa_nil)) rfl))))))) (c.glo 28) (fun _ _ _ _ _ _ us hl => match us, hl with | [_, _], _ => rfl)
theorem ok_lw_picks (c : Cty faL xsL fnL K mg) (C_lw_cuts : Cal P w K mg base 2 "_law_cuts" [.fr] .ol f_lw_cuts []) (C_lw_draw : Cal P w K mg base 1 "_law_draw" [.bag, .fr] .fr drawF []) : Cal P w K mg base 3 "_law_picks" [.bag, .fr] .fr f_lw_picks [] := by
    rw [f_lw_picks_eq]
    obtain ⟨fd, F⟩ := c.def_ 29 (d := d_lw_picks) rfl
    exact Cal.of F (fn_ok (Γ := [.bag, .fr, .fr, .fr, .fr, .fr]) F sc_lw_picks rfl rfl rfl (by decide) fun cdv A outer s H E hr G W tk =>
    (ms_cons (ms_set (ps_set (i := 2) sc_lw_picks.nd rfl (Or.inr rfl) (me_fix (me_callC (sp := [none]) (dflt := []) C_lw_cuts (hr.mono (by first | decide | omega)) tk rfl (mr_fr (me_var (pv 1) rfl) mr_nil)))) rfl)
    (ms_cons (ms_set (ps_set (i := 3) sc_lw_picks.nd rfl (Or.inl rfl) (me_callC (sp := [some 0, none]) (dflt := []) C_lw_draw (hr.mono (by first | decide | omega)) tk rfl (mr_own (pv 0) rfl (mr_fr me_int mr_nil)))) rfl)
    (ms_cons (ms_if (mt_eq hr (me_var (pv 3) rfl) me_int)
    (ms_one (ms_ret (me_fix (me_lst ma_nil len_nil (by decide)))))
    ms_nil)
    (ms_cons (ms_if (mt_eq hr (me_var (pv 3) rfl) me_int)
    (ms_one (ms_ret (me_var (pv 2) rfl)))
    ms_nil)
    (ms_cons (ms_if (mt_lt (me_var (pv 3) rfl) me_int)
    (ms_one (ms_ret (me_fix (me_comp (pe_lc (own := [("_law_at", 4)]) rfl sc_lw_picks.nd (mi_seq (me_var (pv 2) rfl)) (blkOk_by (own := [("_law_at", 4)]) (N := N_lw_picks) (sc := defScope s_lw_picks) (by decide +kernel)) (fun _ _ _ _ _ => (mg_n (pg_name (i := 4) sc_lw_picks.nd rfl (Or.inl rfl)) rfl)) (fun _ _ _ _ _ => (pts_one (mt_eq hr (me_callC (sp := [some 0, none]) (dflt := []) C_lw_draw (hr.mono (by first | decide | omega)) takes0 rfl (mr_own (pv 0) rfl (mr_fr me_int mr_nil))) me_int))) (fun _ _ _ _ _ => (me_var (pv 4) rfl)))))))
    ms_nil)
    (ms_cons (ms_if (mt_lt (me_var (pv 3) rfl) me_int)
    (ms_one (ms_ret (me_fix (me_comp (pe_lc (own := [("_law_at", 4)]) rfl sc_lw_picks.nd (mi_seq (me_var (pv 2) rfl)) (blkOk_by (own := [("_law_at", 4)]) (N := N_lw_picks) (sc := defScope s_lw_picks) (by decide +kernel)) (fun _ _ _ _ _ => (mg_n (pg_name (i := 4) sc_lw_picks.nd rfl (Or.inl rfl)) rfl)) (fun _ _ _ _ _ => (pts_one (mt_gt (me_callC (sp := [some 0, none]) (dflt := []) C_lw_draw (hr.mono (by first | decide | omega)) takes0 rfl (mr_own (pv 0) rfl (mr_fr me_int mr_nil))) me_int))) (fun _ _ _ _ _ => (me_var (pv 4) rfl)))))))
    ms_nil)
    (ms_one (ms_ret (me_fix (me_comp (pe_lc (own := [("_law_k", 5)]) rfl sc_lw_picks.nd (mi_rng1 (pi_range1 rfl (c.free 34) (ma_cons (me_add me_int (me_callC (sp := [some 0, none]) (dflt := []) C_lw_draw (hr.mono (by first | decide | omega)) tk rfl (mr_own (pv 0) rfl (mr_fr me_int mr_nil)))) ma_nil))) (blkOk_by (own := [("_law_k", 5)]) (N := N_lw_picks) (sc := defScope s_lw_picks) (by decide +kernel)) (fun _ _ _ _ _ => (mg_n (pg_name (i := 5) sc_lw_picks.nd rfl (Or.inl rfl)) rfl)) (fun _ _ _ _ _ => (pts_yes pts_nil)) (fun _ _ _ _ _ => (me_ix (me_var (pv 2) rfl) (me_callC (sp := [some 0, none]) (dflt := []) C_lw_draw (hr.mono (by first | decide | omega)) takes0 rfl (mr_own (pv 0) rfl (mr_fr (me_len (pe_callB call_len rfl (c.free 36) PySem.boot_len (ma_cons (me_var (pv 2) rfl) ma_nil))) mr_nil))) (fun _ _ => rfl))))))))))))))) (c.glo 29) (fun _ _ _ _ _ _ us hl => match us, hl with | [_, _], _ => rfl)
theorem ok_lw_some (c : Cty faL xsL fnL K mg) (C_lw_closed : Cal P w K mg base 5 "_law_closed" [.fr, .fr] .ol f_lw_closed []) (C_lw_picks : Cal P w K mg base 3 "_law_picks" [.bag, .fr] .fr f_lw_picks []) : Cal P w K mg base 6 "_law_some" [.bag, .fr] .ol f_lw_some [] := by
    rw [f_lw_some_eq]
    obtain ⟨fd, F⟩ := c.def_ 30 (d := d_lw_some) rfl
    exact Cal.of F (fn_ok (Γ := [.bag, .fr]) F sc_lw_some rfl rfl rfl (by decide) fun cdv A outer s H E hr G W tk =>
    (ms_one (ms_ret (me_callC (sp := [none, none]) (dflt := []) C_lw_closed (hr.mono (by first | decide | omega)) tk rfl (mr_fr (me_var (pv 1) rfl) (mr_fr (me_callC (sp := [some 0, none]) (dflt := []) C_lw_picks (hr.mono (by first | decide | omega)) tk rfl (mr_own (pv 0) rfl (mr_fr (me_var (pv 1) rfl) mr_nil))) mr_nil)))))) (c.glo 30) (fun _ _ _ _ _ _ us hl => match us, hl with | [_, _], _ => rfl)
theorem ok_lw_gain (c : Cty faL xsL fnL K mg) : Cal P w K mg base 1 "_law_gain" [.fr, .fr] .fr f_lw_gain [] := by
    rw [f_lw_gain_eq]
    obtain ⟨fd, F⟩ := c.def_ 31 (d := d_lw_gain) rfl
    exact Cal.of F (fn_ok (Γ := [.fr, .fr]) F sc_lw_gain rfl rfl rfl (by decide) fun cdv A outer s H E hr G W tk =>
    (ms_cons (ms_if (mt_w (mt_or (mt_in hr (me_ix (me_var (pv 1) rfl) me_int (fun _ _ => rfl)) (me_fix (me_lst (ma_cons me_int (ma_cons (me_mul (me_ix (me_var (pv 0) rfl) me_int (fun _ _ => rfl)) (me_ix (me_var (pv 0) rfl) me_int (fun _ _ => rfl))) ma_nil)) (len_cons (len_cons len_nil)) (by decide)))) (mt_or1 (mt_in hr (me_ix (me_var (pv 1) rfl) me_int (fun _ _ => rfl)) (me_fix (me_lst (ma_cons me_int (ma_cons (me_mul (me_ix (me_var (pv 0) rfl) me_int (fun _ _ => rfl)) (me_ix (me_var (pv 0) rfl) me_int (fun _ _ => rfl))) ma_nil)) (len_cons (len_cons len_nil)) (by decide)))))))
    (ms_one (ms_ret me_int))
    ms_nil)
    (ms_one (ms_ret me_int)))) (c.glo 31) (fun _ _ _ _ _ _ us hl => match us, hl with | [_, _], _ => rfl)
theorem ok_Mesh_init_p0 (c : Cty faL xsL fnL K mg) (X_Cracked : XCal P w K mg base "Cracked" ["at", "other"]) (K_Mesh : ObjC K mg "Mesh" ["plan", "there", "parts"] ["__init__", "__len__", "__eq__", "cuts", "cut"]) (C_crack : Cal P w K mg base 8 "crack" [.fr, .fr] .fr f_crack []) (C_noted : Cal P w K mg base 5 "noted" [.fr, .fr] .od f_noted []) (C_leaves : Cal P w K mg base 13 "leaves" [.fr, .fr] .ol f_leaves []) : CalI P w K mg base 14 "Mesh" 2 f_Mesh_init [] := by
    rw [f_Mesh_init_eq]
    obtain ⟨fd, F⟩ := c.def_ 33 (d := d_Mesh_init) rfl
    obtain ⟨ds, hv, b⟩ := F.binds1 (ps := ["self", "plan", "cuts"]) 3 1 (List.cons_ne_nil _ _) (by rfl) (fun T kV doc pm an cdv ct us its h1 h2 => match us, its, h1, h2 with | [_, _, _], [_], _, _ => ⟨_, rfl, rfl⟩)
    exact ⟨_, fd, ["self", "plan", "cuts"], ds, (fn_ok (Γ := [.ob "Mesh" [], .fr, .fr, .fr]) F sc_Mesh_init rfl rfl rfl (by decide) fun cdv A outer s H E hr G W tk =>
    (ms_cons (ms_set (ps_set (i := 3) sc_Mesh_init.nd rfl (Or.inl rfl) (me_callC (sp := [none, none]) (dflt := []) C_crack (hr.mono (by first | decide | omega)) tk rfl (mr_fr (me_var (pv 1) rfl) (mr_fr (me_var (pv 2) rfl) mr_nil)))) rfl)
    (ms_cons (ms_if (mt_notN (me_var (pv 3) rfl))
    (ms_one (ms_raiseC (ns := ["at", "other"]) X_Cracked hr (by decide) rfl tk rfl (ma_cons (me_ix (me_var (pv 3) rfl) me_int (fun _ _ => rfl)) (ma_cons (me_ix (me_var (pv 3) rfl) me_int (fun _ _ => rfl)) ma_nil)) (len_cons (len_cons len_nil))))
    ms_nil)
    (ms_cons (ms_fldO K_Mesh.cls (K_Mesh.no _ (by decide)) (pv 0) rfl (me_var (pv 1) rfl))
    (ms_cons (ms_fldO K_Mesh.cls (K_Mesh.no _ (by decide)) (pv 0) rfl (me_fixD (me_callC (sp := [none, none]) (dflt := []) C_noted (hr.mono (by first | decide | omega)) tk rfl (mr_fr (me_var (pv 1) rfl) (mr_fr (me_var (pv 2) rfl) mr_nil)))))
    (ms_one (ms_fldO K_Mesh.cls (K_Mesh.no _ (by decide)) (pv 0) rfl (me_fix (me_callC (sp := [none, none]) (dflt := []) C_leaves (hr.mono (by first | decide | omega)) tk rfl (mr_fr (me_var (pv 1) rfl) (mr_fr (me_fldO K_Mesh.cls (K_Mesh.no _ (by decide)) (pv 0) rfl) mr_nil))))))))))), K_Mesh.mg_, K_Mesh.mk_, b, hv⟩
theorem ok_Mesh_init_p1 (c : Cty faL xsL fnL K mg) (X_Cracked : XCal P w K mg base "Cracked" ["at", "other"]) (K_Mesh : ObjC K mg "Mesh" ["plan", "there", "parts"] ["__init__", "__len__", "__eq__", "cuts", "cut"]) (C_crack : Cal P w K mg base 8 "crack" [.fr, .fr] .fr f_crack []) (C_noted : Cal P w K mg base 5 "noted" [.fr, .fr] .od f_noted []) (C_leaves : Cal P w K mg base 13 "leaves" [.fr, .fr] .ol f_leaves []) : CalI P w K mg base 14 "Mesh" 2 f_Mesh_init [.ref (He.dflAt ("Mesh", some "__init__") 0 K)] := by
    rw [f_Mesh_init_eq]
    obtain ⟨fd, F⟩ := c.def_ 33 (d := d_Mesh_init) rfl
    obtain ⟨ds, hv, b⟩ := F.binds1 (ps := ["self", "plan", "cuts"]) 2 0 (List.cons_ne_nil _ _) (by rfl) (fun T kV doc pm an cdv ct us its h1 h2 => match us, its, h1, h2 with | [_, _], [_], _, _ => ⟨_, rfl, rfl⟩)
    exact ⟨_, fd, ["self", "plan", "cuts"], ds, (fn_ok (Γ := [.ob "Mesh" [], .fr, .fr, .fr]) F sc_Mesh_init rfl rfl rfl (by decide) fun cdv A outer s H E hr G W tk =>
    (ms_cons (ms_set (ps_set (i := 3) sc_Mesh_init.nd rfl (Or.inl rfl) (me_callC (sp := [none, none]) (dflt := []) C_crack (hr.mono (by first | decide | omega)) tk rfl (mr_fr (me_var (pv 1) rfl) (mr_fr (me_var (pv 2) rfl) mr_nil)))) rfl)
    (ms_cons (ms_if (mt_notN (me_var (pv 3) rfl))
    (ms_one (ms_raiseC (ns := ["at", "other"]) X_Cracked hr (by decide) rfl tk rfl (ma_cons (me_ix (me_var (pv 3) rfl) me_int (fun _ _ => rfl)) (ma_cons (me_ix (me_var (pv 3) rfl) me_int (fun _ _ => rfl)) ma_nil)) (len_cons (len_cons len_nil))))
    ms_nil)
    (ms_cons (ms_fldO K_Mesh.cls (K_Mesh.no _ (by decide)) (pv 0) rfl (me_var (pv 1) rfl))
    (ms_cons (ms_fldO K_Mesh.cls (K_Mesh.no _ (by decide)) (pv 0) rfl (me_fixD (me_callC (sp := [none, none]) (dflt := []) C_noted (hr.mono (by first | decide | omega)) tk rfl (mr_fr (me_var (pv 1) rfl) (mr_fr (me_var (pv 2) rfl) mr_nil)))))
    (ms_one (ms_fldO K_Mesh.cls (K_Mesh.no _ (by decide)) (pv 0) rfl (me_fix (me_callC (sp := [none, none]) (dflt := []) C_leaves (hr.mono (by first | decide | omega)) tk rfl (mr_fr (me_var (pv 1) rfl) (mr_fr (me_fldO K_Mesh.cls (K_Mesh.no _ (by decide)) (pv 0) rfl) mr_nil))))))))))), K_Mesh.mg_, K_Mesh.mk_, b, hv⟩
theorem ok_Mesh_len_p0 (c : Cty faL xsL fnL K mg) (K_Mesh : ObjC K mg "Mesh" ["plan", "there", "parts"] ["__init__", "__len__", "__eq__", "cuts", "cut"]) : CalM P w K mg base 1 "Mesh" "__len__" 0 .fr f_Mesh_len [] := by
    rw [f_Mesh_len_eq]
    obtain ⟨fd, F⟩ := c.def_ 34 (d := d_Mesh_len) rfl
    obtain ⟨ds, hv, b⟩ := (⟨[], .nil, F.bindsN (ps := ["self"]) fun _ _ _ _ _ _ us hl => match us, hl with | [_], _ => rfl⟩ : ∃ ds, Vals [] ds ∧ Binds K fd ["self"] ds)
    exact ⟨_, fd, ["self"], ds, (fn_ok (Γ := [.fr]) F sc_Mesh_len rfl rfl rfl (by decide) fun cdv A outer s H E hr G W tk =>
    (ms_one (ms_ret (me_len (pe_callB call_len rfl (c.free 36) PySem.boot_len (ma_cons (me_fld K_Mesh.cls (K_Mesh.no _ (by decide)) (me_var (pv 0) rfl)) ma_nil)))))), K_Mesh.cls, K_Mesh.me _ (by decide), b, hv⟩
theorem ok_Mesh_cuts_p0 (c : Cty faL xsL fnL K mg) (K_Mesh : ObjC K mg "Mesh" ["plan", "there", "parts"] ["__init__", "__len__", "__eq__", "cuts", "cut"]) : CalM P w K mg base 1 "Mesh" "cuts" 0 .ol f_Mesh_cuts [] := by
    rw [f_Mesh_cuts_eq]
    obtain ⟨fd, F⟩ := c.def_ 35 (d := d_Mesh_cuts) rfl
    obtain ⟨ds, hv, b⟩ := (⟨[], .nil, F.bindsN (ps := ["self"]) fun _ _ _ _ _ _ us hl => match us, hl with | [_], _ => rfl⟩ : ∃ ds, Vals [] ds ∧ Binds K fd ["self"] ds)
    exact ⟨_, fd, ["self"], ds, (fn_ok (Γ := [.fr]) F sc_Mesh_cuts rfl rfl rfl (by decide) fun cdv A outer s H E hr G W tk =>
    (ms_one (ms_ret (me_list (pe_callTy call_list_of rfl (c.free 35) (by decide +kernel) (pa_cons (me_fld K_Mesh.cls (K_Mesh.no _ (by decide)) (me_var (pv 0) rfl)) pa_nil)) (pe_callTy (call_list_dT rfl) rfl (c.free 35) (by decide +kernel) (pa_cons (me_fld K_Mesh.cls (K_Mesh.no _ (by decide)) (me_var (pv 0) rfl)) pa_nil)))))), K_Mesh.cls, K_Mesh.me _ (by decide), b, hv⟩
theorem ok_Mesh_cut_p0 (c : Cty faL xsL fnL K mg) (X_Twice : XCal P w K mg base "Twice" ["at"]) (X_Cracked : XCal P w K mg base "Cracked" ["at", "other"]) (K_Mesh : ObjC K mg "Mesh" ["plan", "there", "parts"] ["__init__", "__len__", "__eq__", "cuts", "cut"]) (C_cut_only : Cal P w K mg base 4 "cut_only" [.fr, .fr] .fr f_cut_only []) (C_parents : Cal P w K mg base 7 "parents" [.fr, .fr] .ol f_parents []) (C_Mesh_init_p0 : CalI P w K mg base 14 "Mesh" 2 f_Mesh_init []) (C_Mesh_init_p1 : CalI P w K mg base 14 "Mesh" 2 f_Mesh_init [.ref (He.dflAt ("Mesh", some "__init__") 0 K)]) (C_Mesh_cuts_p0 : CalM P w K mg base 1 "Mesh" "cuts" 0 .ol f_Mesh_cuts []) : CalM P w K mg base 16 "Mesh" "cut" 1 .fr f_Mesh_cut [] := by
    rw [f_Mesh_cut_eq]
    obtain ⟨fd, F⟩ := c.def_ 36 (d := d_Mesh_cut) rfl
    obtain ⟨ds, hv, b⟩ := (⟨[], .nil, F.bindsN (ps := ["self", "at"]) fun _ _ _ _ _ _ us hl => match us, hl with | [_, _], _ => rfl⟩ : ∃ ds, Vals [] ds ∧ Binds K fd ["self", "at"] ds)
    exact ⟨_, fd, ["self", "at"], ds, (fn_ok (Γ := [.fr, .fr, .fr]) F sc_Mesh_cut rfl rfl rfl (by decide) fun cdv A outer s H E hr G W tk =>
    (ms_cons (ms_exp (ps_expr (me_callC (sp := [none, none]) (dflt := []) C_cut_only (hr.mono (by first | decide | omega)) tk rfl (mr_fr (me_fld K_Mesh.cls (K_Mesh.no _ (by decide)) (me_var (pv 0) rfl)) (mr_fr (me_var (pv 1) rfl) mr_nil)))))
    (ms_cons (ms_if (mt_inD hr (me_var (pv 1) rfl) (me_fld K_Mesh.cls (K_Mesh.no _ (by decide)) (me_var (pv 0) rfl)))
    (ms_one (ms_raiseC (ns := ["at"]) X_Twice hr (by decide) rfl tk rfl (ma_cons (me_var (pv 1) rfl) ma_nil) (len_cons len_nil)))
    ms_nil)
    (ms_cons (ms_for (ps_for (passes_of rfl) rfl (mi_seq (me_fix (me_callC (sp := [none, none]) (dflt := []) C_parents (hr.mono (by first | decide | omega)) tk rfl (mr_fr (me_fld K_Mesh.cls (K_Mesh.no _ (by decide)) (me_var (pv 0) rfl)) (mr_fr (me_var (pv 1) rfl) mr_nil))))) (mg_n (pg_name (i := 2) sc_Mesh_cut.nd rfl (Or.inl rfl)) rfl)
    (ms_one (ms_if (mt_notinD hr (me_var (pv 2) rfl) (me_fld K_Mesh.cls (K_Mesh.no _ (by decide)) (me_var (pv 0) rfl)))
    (ms_one (ms_raiseC (ns := ["at", "other"]) X_Cracked hr (by decide) rfl tk rfl (ma_cons (me_var (pv 1) rfl) (ma_cons (me_var (pv 2) rfl) ma_nil)) (len_cons (len_cons len_nil))))
    ms_nil))))
    (ms_one (ms_ret (me_make (np := 2) (dflt := []) C_Mesh_init_p0 (hr.mono (by first | decide | omega)) tk rfl (ma_cons (me_fld K_Mesh.cls (K_Mesh.no _ (by decide)) (me_var (pv 0) rfl)) (ma_cons (me_fix (me_cat (me_fix (me_meth0 (np := 0) (dflt := []) C_Mesh_cuts_p0 (hr.mono (by first | decide | omega)) tk (me_var (pv 0) rfl) rfl (hd := fun F => Reps.nil))) (me_fix (me_lst (ma_cons (me_var (pv 1) rfl) ma_nil) (len_cons len_nil) (by decide))))) ma_nil)) (len_cons (len_cons len_nil)) rfl (hd := fun F => Reps.nil)))))))), K_Mesh.cls, K_Mesh.me _ (by decide), b, hv⟩
theorem ok_Mesh_eq_p0 (c : Cty faL xsL fnL K mg) (K_Mesh : ObjC K mg "Mesh" ["plan", "there", "parts"] ["__init__", "__len__", "__eq__", "cuts", "cut"]) (I_Mesh : IsiC K "Mesh") : CalM P w K mg base 1 "Mesh" "__eq__" 1 .fr f_Mesh_eq [] := by
    rw [f_Mesh_eq_eq]
    obtain ⟨fd, F⟩ := c.def_ 37 (d := d_Mesh_eq) rfl
    obtain ⟨ds, hv, b⟩ := (⟨[], .nil, F.bindsN (ps := ["self", "other"]) fun _ _ _ _ _ _ us hl => match us, hl with | [_, _], _ => rfl⟩ : ∃ ds, Vals [] ds ∧ Binds K fd ["self", "other"] ds)
    exact ⟨_, fd, ["self", "other"], ds, (fn_ok (Γ := [.fr, .fr]) F sc_Mesh_eq rfl rfl rfl (by decide) fun cdv A outer s H E hr G W tk =>
    (ms_cons (ms_if (mt_not (mt_tru (me_isiC K_Mesh.cls I_Mesh (pe_callB call_isi rfl (c.free 37) (by decide +kernel) (pa_cons (me_var (pv 1) rfl) (pa_cons (pe_glob (v := .ref (Cls.ga "Mesh")) rfl K_Mesh.mg_ rfl) pa_nil))))))
    (ms_one (ms_ret me_bl))
    ms_nil)
    (ms_one (ms_ret (me_and (me_eq hr (me_fld K_Mesh.cls (K_Mesh.no _ (by decide)) (me_var (pv 0) rfl)) (me_fld K_Mesh.cls (K_Mesh.no _ (by decide)) (me_var (pv 1) rfl))) (me_one (me_eqD hr (me_fld K_Mesh.cls (K_Mesh.no _ (by decide)) (me_var (pv 0) rfl)) (me_fld K_Mesh.cls (K_Mesh.no _ (by decide)) (me_var (pv 1) rfl))))))))), K_Mesh.cls, K_Mesh.me _ (by decide), b, hv⟩
theorem ok_lw_bag (c : Cty faL xsL fnL K mg) : ∃ (a : Addr) (fd : FuncData), FnOk P w K mg base (L2.CX P w) 1 a fd ["_law_script"] (spBag K) ∧ mg "_law_bag" = some (.ref a) ∧ PySem.W.keepIn K (.ref a) = true ∧ Binds K fd ["_law_script"] [] := by
  obtain ⟨fd, F⟩ := c.def_ 16 (d := d_lw_bag) rfl
  refine ⟨_, fd, F.ok sc_lw_bag (fun vs H Q E h => by obtain ⟨a, ns, rfl, _⟩ := h; rfl) (fun cdv A outer s H vs Q E hr h => ?_), c.glo 16, F.kp, F.bindsN fun _ _ _ _ _ _ us hl => match us, hl with | [_], _ => rfl⟩
  obtain ⟨a, ns, rfl, hS, hl, k⟩ := h
  refine ⟨_, pss_one (ps_ret (pe_lst (pa_cons (pe_callTy call_list_of rfl (c.free 35) (by decide +kernel) (pa_cons (pe_slice sl_list (pv 0) po_none (po_some pe_int)) pa_nil)) (pa_cons pe_int (pa_cons pe_int pa_nil))))), ?_⟩
  refine ⟨_, rfl, _, rfl, a, _, rfl, hS, fun p hp => ⟨p, _, rfl, .inl (SqL.of upd_same), fun l hl2 => ⟨by show 3 ≤ sizeLine; decide, fun b hb => ?_⟩⟩⟩
  have hbl : b ≠ l := fun z => by rw [z, upd_same] at hb; cases hb
  refine k b l _ upd_same ?_ hbl fun a o e => ?h3
  case h3 =>
    have n1 := ne_of_none e hp
    have e1 : ∀ u, upd H p u a = some o := fun u => (upd_ne n1).trans e
    have n2 := ne_of_none (e1 _) hl2
    have e2 : ∀ u u2, upd (upd H p u) l u2 a = some o := fun u u2 => (upd_ne n2).trans (e1 u)
    have n3 := ne_of_none (e2 _ _) hb
    exact (upd_ne n3).trans (e2 _ _)
  rw [upd_ne hbl.symm, upd_same, cut_all _ (by rw [List.length_map]; exact hl)]
theorem ok_law {fd : FuncData} (F : FunD K d_law.name d_law.qual d_law.params d_law.body d_law.scope (d_law.dvs K) (d_law.kws K) (He.fAd K d_law.at_) fd) (c : Cty faL xsL fnL K mg) (hT : Cls.tabs = tabsL K tlL) (hB : ∀ p ∈ tlL, LamX.TabB base mg (He.cT K p.1).1 (He.cT K p.1).2) (hE1 : Cls.emp = some (He.dflAt ("Mesh", some "__init__") 0 K)) (C_lw_plan : Cal P w K mg base 2 "_law_plan" [.bag] .fr f_lw_plan []) (C_lw_some : Cal P w K mg base 6 "_law_some" [.bag, .fr] .ol f_lw_some []) (C_Mesh_init_p0 : CalI P w K mg base 14 "Mesh" 2 f_Mesh_init []) (C_Mesh_init_p1 : CalI P w K mg base 14 "Mesh" 2 f_Mesh_init [.ref (He.dflAt ("Mesh", some "__init__") 0 K)]) (C_Mesh_len_p0 : CalM P w K mg base 1 "Mesh" "__len__" 0 .fr f_Mesh_len []) (C_Mesh_cut_p0 : CalM P w K mg base 16 "Mesh" "cut" 1 .fr f_Mesh_cut []) (C_Mesh_eq_p0 : CalM P w K mg base 1 "Mesh" "__eq__" 1 .fr f_Mesh_eq []) (C_lw_gain : Cal P w K mg base 1 "_law_gain" [.fr, .fr] .fr f_lw_gain []) (C_lw_level : Cal P w K mg base 3 "_law_level" [.fr, .fr] .fr f_lw_level []) : FnOk P w K mg base (L2.CX P w) 17 (He.ga K "law") fd ["_law_script"] (spLaw K) := by
  obtain ⟨ab, fdb, Fb, hmb, hkb, hbb⟩ := ok_lw_bag (P := P) (w := w) (base := base) c
  refine okC (k := 16) F sc_law (fun vs H Q E h => by obtain ⟨a, ns, rfl, _⟩ := h; rfl) (fun A outer s H vs Q E hr h => ?_)
  obtain ⟨a, ns, rfl, hS, hl, ht, kq⟩ := h
  refine ⟨_, pss_cons (ps_set (i := 1) sc_law.nd rfl (Or.inl rfl) (pe_call Fb (hr.mono (by decide)) rfl hmb hkb hbb .nil passL (pa_cons (pv 0) pa_nil)))
    (show MSs _ G0 W0 [.fr, .bag, .fr, .fr, .fr, .fr, .fr, .fr, .fr, .fr, .fr] .fr _ m_law from
    (ms_cons (ms_set (ps_set (i := 2) sc_law.nd rfl (Or.inr rfl) (me_callC (sp := [some 1]) (dflt := []) C_lw_plan (hr.mono (by first | decide | omega)) takes0 rfl (mr_own (pv 1) rfl mr_nil))) rfl)
    (ms_cons (ms_set (ps_set (i := 3) sc_law.nd rfl (Or.inl rfl) (me_fix (me_callC (sp := [some 1, none]) (dflt := []) C_lw_some (hr.mono (by first | decide | omega)) takes0 rfl (mr_own (pv 1) rfl (mr_fr (me_var (pv 2) rfl) mr_nil))))) rfl)
    (ms_cons (ms_set (ps_set (i := 4) sc_law.nd rfl (Or.inl rfl) (me_make (np := 2) (dflt := []) C_Mesh_init_p0 (hr.mono (by first | decide | omega)) takes0 rfl (ma_cons (me_var (pv 2) rfl) (ma_cons (me_var (pv 3) rfl) ma_nil)) (len_cons (len_cons len_nil)) rfl (hd := fun F => Reps.nil))) rfl)
    (ms_cons (ms_set (ps_set (i := 5) sc_law.nd rfl (Or.inl rfl) (me_mul (me_mul me_int (me_ix (me_var (pv 2) rfl) me_int (fun _ _ => rfl))) (me_ix (me_var (pv 2) rfl) me_int (fun _ _ => rfl)))) rfl)
    (ms_cons (ms_set (ps_set (i := 6) sc_law.nd rfl (Or.inl rfl) (me_eq hr (me_lenM (pe_callB (call_lenC C_Mesh_len_p0 (hr.mono (by first | decide | omega)) passL) rfl (c.free 36) PySem.boot_len (pa_cons (me_var (pv 4) rfl) pa_nil))) (me_add (me_var (pv 5) rfl) (me_sum (pe_callB (L2.cr_sum rfl) rfl (c.free 38) (by decide +kernel) (ma_cons (me_fix (me_comp (pe_lc (own := [("_law_at", 7)]) rfl sc_law.nd (mi_seq (me_var (pv 3) rfl)) (blkOk_by (own := [("_law_at", 7)]) (N := N_law) (sc := defScope s_law) (by decide +kernel)) (fun _ _ _ _ _ => (mg_n (pg_name (i := 7) sc_law.nd rfl (Or.inl rfl)) rfl)) (fun _ _ _ _ _ => (pts_yes pts_nil)) (fun _ _ _ _ _ => (me_callC (sp := [none, none]) (dflt := []) C_lw_gain (hr.mono (by first | decide | omega)) takes0 rfl (mr_fr (me_var (pv 2) rfl) (mr_fr (me_var (pv 7) rfl) mr_nil))))))) ma_nil)))))) rfl)
    (ms_cons (ms_set (ps_set (i := 8) sc_law.nd rfl (Or.inl rfl) (me_make (np := 2) (dflt := [.obj "()" [] [.non]]) C_Mesh_init_p1 (hr.mono (by first | decide | omega)) takes0 rfl (ma_cons (me_var (pv 2) rfl) ma_nil) (len_cons len_nil) rfl (hd := fun F => (Reps.cons (Rep.emp hE1) Reps.nil)))) rfl)
    (ms_cons (ms_set (ps_set (i := 9) sc_law.nd rfl (Or.inl rfl) (me_fix (me_sortK (N := ["_law_at", "_law_plan_here"]) (a := "_law_at") (js := [2]) (k := 3) (hB _ (List.mem_of_getElem? (i := 0) rfl)) rfl (by rw [hT]; exact List.mem_map.mpr ⟨_, (List.mem_of_getElem? (i := 0) rfl), rfl⟩) (by rw [hT]; exact fun q hq e => tabs_one (c.own 0) (List.mem_of_getElem? (i := 0) rfl) q hq e) (show LmScope _ _ (defScope s_law) _ from lmScope_by (by decide +kernel)) rfl (hr.mono (by first | decide | omega)) rfl rfl (c.free 33) rfl (fun _ _ _ _ _ _ => rfl) (me_var (pv 3) rfl)
    (fun A2 o2 s2 H2 f2 c2 hr G2 => (me_tup (ma_cons (me_callC (sp := [none, none]) (dflt := []) C_lw_level (hr.mono (by first | decide | omega)) takes0 rfl (mr_fr (me_var (pv 1) rfl) (mr_fr (me_var (pv 0) rfl) mr_nil))) (ma_cons (me_var (pv 0) rfl) ma_nil)) (len_cons (len_cons len_nil)) (by decide)))))) rfl)
    (ms_cons (ms_for (ps_for (passes_of rfl) rfl (mi_seq (me_fix (me_slice (me_var (pv 9) rfl) mp_none (mp_some me_int)))) (mg_n (pg_name (i := 7) sc_law.nd rfl (Or.inl rfl)) rfl)
    (ms_cons (ms_set (ps_set (i := 10) sc_law.nd rfl (Or.inl rfl) (me_lenM (pe_callB (call_lenC C_Mesh_len_p0 (hr.mono (by first | decide | omega)) passL) rfl (c.free 36) PySem.boot_len (pa_cons (me_var (pv 8) rfl) pa_nil)))) rfl)
    (ms_cons (ms_set (ps_set (i := 8) sc_law.nd rfl (Or.inl rfl) (me_meth (np := 1) (dflt := []) C_Mesh_cut_p0 (hr.mono (by first | decide | omega)) takes0 (me_var (pv 8) rfl) (ma_cons (me_var (pv 7) rfl) ma_nil) (len_cons len_nil) rfl (hd := fun F => Reps.nil))) rfl)
    (ms_one (ms_set (ps_set (i := 6) sc_law.nd rfl (Or.inl rfl) (me_and (me_var (pv 6) rfl) (me_one (me_eq hr (me_lenM (pe_callB (call_lenC C_Mesh_len_p0 (hr.mono (by first | decide | omega)) passL) rfl (c.free 36) PySem.boot_len (pa_cons (me_var (pv 8) rfl) pa_nil))) (me_add (me_var (pv 10) rfl) (me_callC (sp := [none, none]) (dflt := []) C_lw_gain (hr.mono (by first | decide | omega)) takes0 rfl (mr_fr (me_var (pv 2) rfl) (mr_fr (me_var (pv 7) rfl) mr_nil)))))))) rfl))))))
    (ms_cons (ms_if (mt_le (me_len (pe_callB call_len rfl (c.free 36) PySem.boot_len (ma_cons (me_var (pv 9) rfl) ma_nil))) me_int)
    (ms_one (ms_set (ps_set (i := 6) sc_law.nd rfl (Or.inl rfl) (me_and (me_var (pv 6) rfl) (me_one (me_eqC C_Mesh_eq_p0 (hr.mono (by first | decide | omega)) (me_var (pv 8) rfl) (me_var (pv 4) rfl))))) rfl))
    ms_nil)
    (ms_one (ms_ret (me_and (me_var (pv 6) rfl) (me_one (me_eq hr (me_lenM (pe_callB (call_lenC C_Mesh_len_p0 (hr.mono (by first | decide | omega)) passL) rfl (c.free 36) PySem.boot_len (pa_cons (me_make (np := 2) (dflt := [.obj "()" [] [.non]]) C_Mesh_init_p1 (hr.mono (by first | decide | omega)) takes0 rfl (ma_cons (me_var (pv 2) rfl) ma_nil) (len_cons len_nil) rfl (hd := fun F => (Reps.cons (Rep.emp hE1) Reps.nil))) pa_nil))) (me_var (pv 5) rfl)))))))))))))))), ?_⟩
  exact ⟨_, rfl, a, ns, rfl, hS, hl, fun b cc H' h1 h2 h3 h4 => show tS K G0 W0 [.fr, .bag, .fr, .fr, .fr, .fr, .fr, .fr, .fr, .fr, .fr] .fr m_law { nx := fun _ H' => Q .non H', rt := Q } (some (.ref a) :: some (.ref b) :: List.replicate (11 - 2) none) H' from law_rest (k := 11 - 2) h1 h2 h3 hl rfl rfl (plain_law ns hl) kq (ht.ext h4)⟩

end
/-! ### the head -/
abbrev Rw : PySem.W.OpenRow := PySem.W.OpenLaw.row PySem.Challenge.rw_braemantle_k31_whole_count_of_triangles
abbrev hk : PySem.W.Hook := hookXT 6 faL xsL fnL tlL
def ob (s : PySem.W.SharedT) : AlT := obsXT 6 faL xsL fnL tlL (HandSHeadRun.getT s)
theorem ob_eq (s : PySem.W.SharedT) : ob s = hk.obs s.abs := obsXT_eq (HandSHeadRun.getT_eq s)
def loose : List PySem.Str := (["_wall", "LandError", "LookError", "Cracked", "Twice", "NoHalf", "NoPlace", "NoCut", "lies_in", "placed", "on_corner", "cut_only", "step", "around", "parents", "noted", "crack", "roots_of", "roots", "middle", "halved", "spread", "leaves", "Mesh", "_law_bag", "_law_draw", "_law_plan", "_law_places", "_law_corner", "_law_cuts"] : List PySem.Str) ++ (["_law_in", "_law_step", "_law_centre", "_law_around", "_law_ups", "_law_level", "_law_closed", "_law_picks", "_law_some", "_law_gain"] : List PySem.Str)
theorem run (w : World) : HandSHeadRun.RunEq Rw (PySem.W.view Rw.prog [46]) hk ob 4000 loose w := by
  intro os
  kernel_rfl
theorem facts {P : Program} {w : World} {K : PySem.W.Frag} {h : Heap} {mg : Str → Option Value} {fa : Addr} (X : K.In h) (G : h.Ns mainGlobals mg) (hfa : mg ("law" : Str) = some (.ref fa)) (cc : SaysX faL xsL fnL K) :
    ∃ fd : FuncData, (∀ (s : Shared) (v : Value), BindsTo s fd ⟨[v], []⟩ [("_law_script", v)]) ∧ ∀ base : Heap, K.In base → base.Ns mainGlobals mg → (∀ p ∈ tlL, LamX.TabB base mg (He.cT K p.1).1 (He.cT K p.1).2) → FnOk P w K mg base (L2.CX P w) 17 fa fd ["_law_script"] (@spLaw ⟨He.ga K, tabsL K tlL, empL K⟩ K) := by
  letI : Bk.Cls := ⟨He.ga K, tabsL K tlL, empL K⟩
  have hT : Cls.tabs = tabsL K tlL := rfl
  have c : Cty faL xsL fnL K mg := ⟨⟨h, X, G⟩, cc⟩
  obtain ⟨fd, F⟩ := c.def_ 32 (d := d_law) rfl
  have e := hfa.symm.trans (c.glo 32 (x := "law"))
  cases e
  refine ⟨fd, fun s v => FunD.bindsA (ps := ["_law_script"]) F (fun _ _ _ _ _ _ us hl => match us, hl with | [_], _ => rfl) s [v] rfl, fun base _ _ hB => ?_⟩
  have hE2 : ∀ a, Cls.emp = some a → ∀ H, SqT K H a [] := fun a e H => by
    cases e
    exact emp_ok (c.own 7) H
  have hE1 : Cls.emp = some (He.dflAt ("Mesh", some "__init__") 0 K) := rfl
  have K_Mesh : ObjC K mg "Mesh" ["plan", "there", "parts"] ["__init__", "__len__", "__eq__", "cuts", "cut"] := objC_of rfl (c.own 5) (c.glo 39)
  have I_Mesh : IsiC K "Mesh" := isiC_of rfl (c.own 6)
  have X_Twice := okx_Twice (P := P) (w := w) (base := base) c
  have X_Cracked := okx_Cracked (P := P) (w := w) (base := base) c
  have X_NoPlace := okx_NoPlace (P := P) (w := w) (base := base) c
  have X_NoCut := okx_NoCut (P := P) (w := w) (base := base) c
  have C__wall := ok__wall (P := P) (w := w) (base := base) c
  have C_lies_in := ok_lies_in (P := P) (w := w) (base := base) c
  have C_placed := ok_placed (P := P) (w := w) (base := base) c X_NoPlace C_lies_in
  have C_on_corner := ok_on_corner (P := P) (w := w) (base := base) c
  have C_cut_only := ok_cut_only (P := P) (w := w) (base := base) c X_NoCut C_placed C_on_corner
  have C_step := ok_step (P := P) (w := w) (base := base) c C_cut_only
  have C_around := ok_around (P := P) (w := w) (base := base) c C_step
  have C_parents := ok_parents (P := P) (w := w) (base := base) c C_around C_lies_in C_on_corner
  have C_noted := ok_noted (P := P) (w := w) (base := base) c hE2 C_cut_only
  have C_crack := ok_crack (P := P) (w := w) (base := base) c C_noted C_parents
  have C_roots_of := ok_roots_of (P := P) (w := w) (base := base) c
  have C_roots := ok_roots (P := P) (w := w) (base := base) c C_roots_of
  have C_middle := ok_middle (P := P) (w := w) (base := base) c
  have C_halved := ok_halved (P := P) (w := w) (base := base) c C_middle
  have C_spread := ok_spread (P := P) (w := w) (base := base) c C_middle C_halved
  have C_leaves := ok_leaves (P := P) (w := w) (base := base) c C_roots C_spread
  have C_lw_draw := ok_lw_draw (P := P) (w := w) (base := base) c
  have C_lw_plan := ok_lw_plan (P := P) (w := w) (base := base) c C_lw_draw
  have C_lw_places := ok_lw_places (P := P) (w := w) (base := base) c
  have C_lw_corner := ok_lw_corner (P := P) (w := w) (base := base) c
  have C_lw_cuts := ok_lw_cuts (P := P) (w := w) (base := base) c C_lw_places C_lw_corner
  have C_lw_in := ok_lw_in (P := P) (w := w) (base := base) c
  have C_lw_step := ok_lw_step (P := P) (w := w) (base := base) c
  have C_lw_centre := ok_lw_centre (P := P) (w := w) (base := base) c C_lw_step
  have C_lw_around := ok_lw_around (P := P) (w := w) (base := base) c C_lw_step C_lw_centre
  have C_lw_ups := ok_lw_ups (P := P) (w := w) (base := base) c C_lw_around C_lw_in C_lw_corner
  have C_lw_level := ok_lw_level (P := P) (w := w) (base := base) c C_lw_centre C_lw_step
  have C_lw_closed := ok_lw_closed (P := P) (w := w) (base := base) c C_lw_ups
  have C_lw_picks := ok_lw_picks (P := P) (w := w) (base := base) c C_lw_cuts C_lw_draw
  have C_lw_some := ok_lw_some (P := P) (w := w) (base := base) c C_lw_closed C_lw_picks
  have C_lw_gain := ok_lw_gain (P := P) (w := w) (base := base) c
  have C_Mesh_init_p0 := ok_Mesh_init_p0 (P := P) (w := w) (base := base) c X_Cracked K_Mesh C_crack C_noted C_leaves
  have C_Mesh_init_p1 := ok_Mesh_init_p1 (P := P) (w := w) (base := base) c X_Cracked K_Mesh C_crack C_noted C_leaves
  have C_Mesh_len_p0 := ok_Mesh_len_p0 (P := P) (w := w) (base := base) c K_Mesh
  have C_Mesh_cuts_p0 := ok_Mesh_cuts_p0 (P := P) (w := w) (base := base) c K_Mesh
  have C_Mesh_cut_p0 := ok_Mesh_cut_p0 (P := P) (w := w) (base := base) c X_Twice X_Cracked K_Mesh C_cut_only C_parents C_Mesh_init_p0 C_Mesh_init_p1 C_Mesh_cuts_p0
  have C_Mesh_eq_p0 := ok_Mesh_eq_p0 (P := P) (w := w) (base := base) c K_Mesh I_Mesh
  exact ok_law F c hT hB hE1 C_lw_plan C_lw_some C_Mesh_init_p0 C_Mesh_init_p1 C_Mesh_len_p0 C_Mesh_cut_p0 C_Mesh_eq_p0 C_lw_gain C_lw_level
end K31
open PySem PySem.W PySem.Calls PyProof.Rows
set_option maxRecDepth 100000 in
set_option maxHeartbeats 0 in
theorem PySem.Challenge.cw_braemantle_k31_whole_count_of_triangles_holds : PySem.Challenge.rw_braemantle_k31_whole_count_of_triangles.Holds := by
  w_on; o_law
  refine HandSHeadRun.head_any (r := OpenLaw.row PySem.Challenge.rw_braemantle_k31_whole_count_of_triangles) (q := view (OpenLaw.row PySem.Challenge.rw_braemantle_k31_whole_count_of_triangles).prog [46]) (H := K31.hk) (ob := K31.ob) (M := 4000) (loose := K31.loose) (d := HandSHeadRun.topDef (OpenLaw.row PySem.Challenge.rw_braemantle_k31_whole_count_of_triangles).prog 46) (kwd := []) K31.ob_eq
    (by kernel_rfl) (fun s => by kernel_rfl) K31.run (by kernel_rfl) (by kernel_rfl) (by kernel_rfl) (by rfl) (by first | assumption | decide +kernel) (by decide +kernel) ⟨rfl, rfl, rfl, rfl, rfl, by decide +kernel⟩ ?hw ?hc
  case hw => w_witness2
  case hc =>
    refine Bk.walk_bkT (law := PySem.Challenge.rw_braemantle_k31_whole_count_of_triangles) (top := 63) (lv := 17) (p := "_law_script") rfl (by decide) (by kernel_rfl) ⟨rfl, by decide, by decide⟩ ?F
    case F =>
      intro w mg fa h Y G hmg0
      obtain ⟨K, KX, c, T⟩ := Y
      have hmg : mg ("law" : PySem.Str) = some (.ref fa) := by
        have e : (HandSHeadRun.topDef (OpenLaw.row PySem.Challenge.rw_braemantle_k31_whole_count_of_triangles).prog 46).name = ("law" : PySem.Str) := by kernel_rfl
        rw [← e]
        exact hmg0
      obtain ⟨fd, hb, hF⟩ := K31.facts (P := (PySem.Challenge.rw_braemantle_k31_whole_count_of_triangles).prog) (w := w) KX G hmg c
      exact ⟨K, fd, @Bk.spLaw ⟨He.ga K, Bk.tabsL K K31.tlL, K31.empL K⟩ K, K31.tlL, KX, T, hb, fun H a ns hl ht hS => ⟨a, ns, rfl, hS, hl, ht, fun _ => rfl⟩, hF⟩
