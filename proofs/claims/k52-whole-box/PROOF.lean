import PyProof.Rows.All
import Wide.All
import OpenK.AllK
import Wide.FinOn
import PyProof.EqAt
import PyProof.EqKinds
import PyProof.TupleCall
import HandS.ForExc
import HandS.Comp
import HandS.Dict
import HandS.Iter
import HandS.EndTab
import HandS.TupAny
import HandS.Wide
import HandS.WideBits
import HandS.Flow
import HandS.IsInst
import KE.LtData
import KE.SortData
import KE.SortKeyHeap
import HandS.Text
import HandS.Steps
import HandS.Zip
import HandS.Conv
import HandS.TupLen
import HandS.SetFor
import KE.KLam
import HandS.SortKw
import HandS.Set
import HandS.Style
import HandS.Exc
import HandS.ExcOwn
import HandS.Rev
import HandS.RevTup
import HandS.Sort
import PyProof.CollectWalk
import PyProof.ListNew
import PyProof.SeqWrite
import HandS.DictTup
import HandS.ExcIs
import HandS.TupSets
import KE.KDictList
import HandS.ListItems
import HandS.Defaults
import PySem.Challenge.RW_fairbench_k52_whole_box
set_option Elab.async false
set_option linter.all false
set_option maxRecDepth 100000
set_option maxHeartbeats 2000000
/-! Fb0: data, the heap that reads as data, environments of data, what an expression, a test, a statement means over them. -/
namespace Fb
open PySem PySem.Spec L2

/-! ### data -/
inductive D where
  | non | bl (b : Bool) | int (i : Int) | str (x : Str)
  | tup (ds : List D) | lst (ds : List D)
  | dT (kvs : List (List Key × D)) | dK (kvs : List (Key × D))
  | obj (C : Addr)
  /-- an exception of the class at C, once raised and caught -/
  | exc (C : Addr)
  /-- a list of ints that is read only (the script) -/
  | ro (ns : List Int)
  /-- an object, by its place alone -/
  | rf (a : Addr)
  /-- an object of the class at C with a list of texts and another object, by its place -/
  | bx (C : Addr) (roll : List Str) (k : Addr)
deriving Inhabited

/-- no list, no dict in it -/
def imm : D → Bool
  | .non => true
  | .bl _ => true
  | .int _ => true
  | .str _ => true
  | .tup ds => immL ds
  | .lst _ => false
  | .dT _ => false
  | .dK _ => false
  | .obj _ => true
  | .exc _ => true
  | .ro _ => false
  | .rf _ => true
  | .bx _ _ _ => false
where immL : List D → Bool
  | [] => true
  | d :: r => imm d && immL r
@[simp] theorem immL_nil : imm.immL [] = true := (rfl)
@[simp] theorem immL_cons (d : D) (r : List D) : imm.immL (d :: r) = (imm d && imm.immL r) := (rfl)
@[simp] theorem imm_tup (ds : List D) : imm (.tup ds) = imm.immL ds := (rfl)
@[simp] theorem imm_int (i : Int) : imm (.int i) = true := (rfl)
@[simp] theorem imm_bl (i : Bool) : imm (.bl i) = true := (rfl)
@[simp] theorem imm_str (i : Str) : imm (.str i) = true := (rfl)
@[simp] theorem imm_non : imm .non = true := (rfl)
@[simp] theorem imm_obj (C : Addr) : imm (.obj C) = true := (rfl)
@[simp] theorem imm_exc (C : Addr) : imm (.exc C) = true := (rfl)
@[simp] theorem imm_rf (a : Addr) : imm (.rf a) = true := (rfl)
@[simp] theorem imm_lst (ds : List D) : imm (.lst ds) = false := (rfl)
theorem immL_map {α : Type} (f : α → D) (h : ∀ x, imm (f x) = true) : ∀ l : List α, imm.immL (l.map f) = true
  | [] => rfl
  | x :: r => by rw [List.map_cons, immL_cons, h x, immL_map f h r]; rfl
@[simp] theorem immL_ints (l : List Int) : imm.immL (l.map D.int) = true := immL_map _ (fun _ => rfl) l
theorem immL_all : ∀ l : List D, imm.immL l = true ↔ ∀ d ∈ l, imm d = true
  | [] => by simp
  | d :: r => by rw [immL_cons, Bool.and_eq_true, immL_all r, List.forall_mem_cons]
theorem immL_append (a b : List D) : imm.immL (a ++ b) = (imm.immL a && imm.immL b) := by
  induction a with
  | nil => simp
  | cons x r ih => rw [List.cons_append, immL_cons, immL_cons, ih, Bool.and_assoc]

/-! ### what a value stands for -/
mutual
inductive Rp (K : PySem.W.Frag) (H : Hp) : V → D → Prop
  | non : Rp K H .non .non
  | bl (b : Bool) : Rp K H (.bl b) (.bl b)
  | int (i : Int) : Rp K H (.int i) (.int i)
  | str (x : Str) : Rp K H (.str x) (.str x)
  | tup {a : Addr} {xs : List V} {ds : List D} : H a = some (.tup xs) → RpL K H xs ds → Rp K H (.ref a) (.tup ds)
  | lst {a : Addr} {xs : List V} {ds : List D} : H a = some (.lst xs) → RpL K H xs ds → Rp K H (.ref a) (.lst ds)
  | dT {a : Addr} {xs : List (List Key × V)} {ds : List (List Key × D)} : Rd H a (.dT xs) → RpT K H xs ds → Rp K H (.ref a) (.dT ds)
  | dK {a : Addr} {xs : List (Key × V)} {ds : List (Key × D)} : Rd H a (.dK xs) → RpK K H xs ds → Rp K H (.ref a) (.dK ds)
  | obj {a C dx : Addr} : H a = some (.ins C dx []) → Rp K H (.ref a) (.obj C)
  | exc {a C : Addr} {oe : Obj} {xs : Array Value} {φ : Heap → Prop} : H a = some (.frz oe (.ext φ)) → Zc (.ref C) none oe → oe.data = .fields xs → Rp K H (.ref a) (.exc C)
  | ro {a : Addr} {ns : List Int} : SqL K H a (ns.map V.int) → Rp K H (.ref a) (.ro ns)
  | rf (a : Addr) : Rp K H (.ref a) (.rf a)
  | bx {a C dx r k : Addr} {roll : List Str} : H a = some (.ins C dx [("roll", .ref r), ("kept", .ref k)]) → H r = some (.lst (roll.map V.str)) → Rp K H (.ref a) (.bx C roll k)
inductive RpL (K : PySem.W.Frag) (H : Hp) : List V → List D → Prop
  | nil : RpL K H [] []
  | cons {v : V} {vs : List V} {d : D} {ds : List D} : Rp K H v d → RpL K H vs ds → RpL K H (v :: vs) (d :: ds)
inductive RpT (K : PySem.W.Frag) (H : Hp) : List (List Key × V) → List (List Key × D) → Prop
  | nil : RpT K H [] []
  | cons {k : List Key} {v : V} {vs : List (List Key × V)} {d : D} {ds : List (List Key × D)} : Rp K H v d → RpT K H vs ds → RpT K H ((k, v) :: vs) ((k, d) :: ds)
inductive RpK (K : PySem.W.Frag) (H : Hp) : List (Key × V) → List (Key × D) → Prop
  | nil : RpK K H [] []
  | cons {k : Key} {v : V} {vs : List (Key × V)} {d : D} {ds : List (Key × D)} : Rp K H v d → RpK K H vs ds → RpK K H ((k, v) :: vs) ((k, d) :: ds)
end

/-! ### heaps that keep what they held, but for tables of code objects, which may grow -/
def NT : HO → Prop
  | .tbl _ => False
  | _ => True
structure Sme (H H' : Hp) : Prop where
  get : ∀ b o, H b = some o → NT o → H' b = some o
  tb : ∀ b ps, H b = some (.tbl ps) → ∃ ps', H' b = some (.tbl ps')
theorem Sme.g {H H' : Hp} (e : Sme H H') (b : Addr) (o : HO) (h : H b = some o) (nt : NT o := by first | trivial | assumption) : H' b = some o := e.get b o h nt
instance {H H' : Hp} : CoeFun (Sme H H') (fun _ => ∀ (b : Addr) (o : HO), H b = some o → (nt : NT o := by first | trivial | assumption) → H' b = some o) := ⟨fun e => @Sme.g _ _ e⟩
abbrev TabS := LamX.TabS
/-- the def whose lambda is asked about -/
def lamF : Str := "sets_of"
/-- its table tells only that lambda's code -/
def TabsK (K : PySem.W.Frag) (H : Hp) : Prop := ∀ c P, PySem.W.tabIn K lamF = some (c, P) → TabS H P (lamF ++ ".<locals>." ++ "<lambda>")
structure Same (K : PySem.W.Frag) (H H' : Hp) : Prop extends Sme H H' where
  tab : TabsK K H → TabsK K H'
instance {K : PySem.W.Frag} {H H' : Hp} : CoeFun (Same K H H') (fun _ => ∀ (b : Addr) (o : HO), H b = some o → (nt : NT o := by first | trivial | assumption) → H' b = some o) := ⟨fun e => @Sme.g _ _ e.toSme⟩
instance {K : PySem.W.Frag} {H H' : Hp} : CoeOut (Same K H H') (Sme H H') := ⟨fun e => e.toSme⟩
theorem Sme.rdT {H H' : Hp} (e : Sme H H') {a : Addr} {u : HO} (h : Rd H a u) (nt : NT u := by trivial) : Rd H' a u := h.elim (fun z => .inl (e.get _ _ z nt)) fun ⟨o, z⟩ => .inr ⟨o, e.get _ _ z trivial⟩
theorem Sme.of {H H' : Hp} (e : ∀ b o, H b = some o → H' b = some o) : Sme H H' := ⟨fun b o h _ => e b o h, fun b ps h => ⟨ps, e b _ h⟩⟩
theorem Same.of {K : PySem.W.Frag} {H H' : Hp} (e : ∀ b o, H b = some o → H' b = some o) : Same K H H' := { Sme.of e with
  tab := fun h c P q => LamX.TabS.ext (h c P q) e }
theorem Sme.refl (H : Hp) : Sme H H := Sme.of fun _ _ h => h
theorem Same.refl {K : PySem.W.Frag} (H : Hp) : Same K H H := Same.of fun _ _ h => h
theorem Sme.trans {H H1 H2 : Hp} (a : Sme H H1) (b : Sme H1 H2) : Sme H H2 := ⟨fun c o h n => b.get c o (a.get c o h n) n, fun c ps h => let ⟨ps1, h1⟩ := a.tb c ps h; b.tb c ps1 h1⟩
theorem Same.trans {K : PySem.W.Frag} {H H1 H2 : Hp} (a : Same K H H1) (b : Same K H1 H2) : Same K H H2 := { Sme.trans a.toSme b.toSme with tab := fun h => b.tab (a.tab h) }
theorem Sme.none {H H' : Hp} {p : Addr} (e : Sme H H') (h : H' p = Option.none) : H p = Option.none := by
  cases q : H p with
  | none => rfl
  | some o =>
    cases o with
    | tbl ps =>
      obtain ⟨ps', z⟩ := e.tb p ps q
      rw [h] at z
      cases z
    | _ =>
      have := e.get p _ q trivial
      rw [h] at this
      cases this
section
variable {K : PySem.W.Frag} {H H' : Hp}
theorem Sme.rd (e : Sme H H') {a : Addr} {u : HO} (h : Rd H a u) (nt : NT u := by trivial) : Rd H' a u := by
  rcases h with h | ⟨o, h⟩
  · exact .inl (e.get _ _ h nt)
  · exact .inr ⟨o, e _ _ h⟩
theorem Sme.sqT (e : Sme H H') {a : Addr} {xs : List V} (h : SqT K H a xs) : SqT K H' a xs := by
  rcases h with h | h
  · exact .inl (Sme.rd e h)
  · exact .inr h
theorem Sme.sqL (e : Sme H H') {a : Addr} {xs : List V} (h : SqL K H a xs) : SqL K H' a xs := by
  rcases h with h | h
  · exact .inl (Sme.rd e h)
  · exact .inr h
mutual
theorem Rp.mono (e : Sme H H') : ∀ (d : D) (v : V), Rp K H v d → Rp K H' v d
  | .non, _, h => by cases h; exact .non
  | .bl b, _, h => by cases h; exact .bl b
  | .int b, _, h => by cases h; exact .int b
  | .str b, _, h => by cases h; exact .str b
  | .tup ds, _, h => by
    cases h with
    | tup s r => exact .tup (e _ _ s) (RpL.mono e ds _ r)
  | .lst ds, _, h => by
    cases h with
    | lst s r => exact .lst (e _ _ s) (RpL.mono e ds _ r)
  | .dT ds, _, h => by
    cases h with
    | dT s r => exact .dT (e.rdT s) (RpT.mono e ds _ r)
  | .dK ds, _, h => by
    cases h with
    | dK s r => exact .dK (e.rdT s) (RpK.mono e ds _ r)
  | .obj C, _, h => by
    cases h with
    | obj s => exact .obj (e _ _ s)
  | .exc C, _, h => by
    cases h with
    | exc s z d => exact .exc (e _ _ s) z d
  | .ro ns, _, h => by
    cases h with
    | ro s => exact .ro (Sme.sqL e s)
  | .rf a, _, h => by cases h; exact .rf a
  | .bx C roll k, _, h => by
    cases h with
    | bx s q => exact .bx (e _ _ s) (e _ _ q)
theorem RpL.mono (e : Sme H H') : ∀ (ds : List D) (vs : List V), RpL K H vs ds → RpL K H' vs ds
  | [], _, h => by cases h; exact .nil
  | d :: ds, _, h => by
    cases h with
    | cons h1 h2 => exact .cons (Rp.mono e d _ h1) (RpL.mono e ds _ h2)
theorem RpT.mono (e : Sme H H') : ∀ (ds : List (List Key × D)) (vs : List (List Key × V)), RpT K H vs ds → RpT K H' vs ds
  | [], _, h => by cases h; exact .nil
  | (k, d) :: ds, _, h => by
    cases h with
    | cons h1 h2 => exact .cons (Rp.mono e d _ h1) (RpT.mono e ds _ h2)
theorem RpK.mono (e : Sme H H') : ∀ (ds : List (Key × D)) (vs : List (Key × V)), RpK K H vs ds → RpK K H' vs ds
  | [], _, h => by cases h; exact .nil
  | (k, d) :: ds, _, h => by
    cases h with
    | cons h1 h2 => exact .cons (Rp.mono e d _ h1) (RpK.mono e ds _ h2)
end
/-- data without lists lean on tuples alone -/
def STup (H H' : Hp) : Prop := (∀ a xs, H a = some (.tup xs) → H' a = some (.tup xs)) ∧ (∀ a C dx, H a = some (.ins C dx []) → H' a = some (.ins C dx [])) ∧ ∀ a oe φ, H a = some (.frz oe (.ext φ)) → H' a = some (.frz oe (.ext φ))
mutual
theorem Rp.immK (e : STup H H') : ∀ (d : D) (v : V), imm d = true → Rp K H v d → Rp K H' v d
  | .non, _, _, h => by cases h; exact .non
  | .bl b, _, _, h => by cases h; exact .bl b
  | .int b, _, _, h => by cases h; exact .int b
  | .str b, _, _, h => by cases h; exact .str b
  | .tup ds, _, i, h => by
    cases h with
    | tup s r => exact .tup (e.1 _ _ s) (RpL.immK e ds _ i r)
  | .lst ds, _, i, h => by cases i
  | .dT ds, _, i, h => by cases i
  | .dK ds, _, i, h => by cases i
  | .obj C, _, i, h => by
    cases h with
    | obj s => exact .obj (e.2.1 _ _ _ s)
  | .exc C, _, i, h => by
    cases h with
    | exc s z d => exact .exc (e.2.2 _ _ _ s) z d
  | .ro ns, _, i, h => by cases i
  | .rf a, _, i, h => by cases h; exact .rf a
  | .bx _ _ _, _, i, h => by cases i
theorem RpL.immK (e : STup H H') : ∀ (ds : List D) (vs : List V), imm.immL ds = true → RpL K H vs ds → RpL K H' vs ds
  | [], _, _, h => by cases h; exact .nil
  | d :: ds, _, i, h => by
    have i' : imm d = true ∧ imm.immL ds = true := by
      have this : (imm d && imm.immL ds) = true := i
      rw [Bool.and_eq_true] at this
      exact this
    cases h with
    | cons h1 h2 => exact .cons (Rp.immK e d _ i'.1 h1) (RpL.immK e ds _ i'.2 h2)
end
theorem RpL.length : ∀ {vs : List V} {ds : List D}, RpL K H vs ds → vs.length = ds.length
  | _, _, .nil => rfl
  | _, _, .cons _ t => congrArg (· + 1) (RpL.length t)
theorem RpL.get : ∀ {vs : List V} {ds : List D} {i : Nat} {d : D}, RpL K H vs ds → ds[i]? = some d → ∃ v, vs[i]? = some v ∧ Rp K H v d
  | _, _, i, d, .nil, e => by simp at e
  | _, _, 0, d, .cons r _, e => by
    have := Option.some.inj e
    subst this
    exact ⟨_, rfl, r⟩
  | _, _, i + 1, d, .cons _ t, e => RpL.get (i := i) t e
theorem RpL.get' : ∀ {vs : List V} {ds : List D} {i : Nat} {v : V}, RpL K H vs ds → vs[i]? = some v → ∃ d, ds[i]? = some d ∧ Rp K H v d
  | _, _, i, d, .nil, e => by simp at e
  | _, _, 0, d, .cons r _, e => by
    have := Option.some.inj e
    subst this
    exact ⟨_, rfl, r⟩
  | _, _, i + 1, d, .cons _ t, e => RpL.get' (i := i) t e
theorem RpL.append : ∀ {vs ws : List V} {ds es : List D}, RpL K H vs ds → RpL K H ws es → RpL K H (vs ++ ws) (ds ++ es)
  | _, _, _, _, .nil, h => h
  | _, _, _, _, .cons r t, h => .cons r (RpL.append t h)
theorem RpL.take : ∀ {vs : List V} {ds : List D} (n : Nat), RpL K H vs ds → RpL K H (vs.take n) (ds.take n)
  | _, _, 0, _ => .nil
  | _, _, _ + 1, .nil => .nil
  | _, _, n + 1, .cons r t => .cons r (RpL.take n t)
theorem RpL.drop : ∀ {vs : List V} {ds : List D} (n : Nat), RpL K H vs ds → RpL K H (vs.drop n) (ds.drop n)
  | _, _, 0, h => h
  | _, _, _ + 1, .nil => .nil
  | _, _, n + 1, .cons _ t => RpL.drop n t
theorem RpL.set {v : V} {d : D} (r : Rp K H v d) : ∀ {vs : List V} {ds : List D} (n : Nat), RpL K H vs ds → RpL K H (vs.set n v) (ds.set n d)
  | _, _, _, .nil => .nil
  | _, _, 0, .cons _ t => .cons r t
  | _, _, n + 1, .cons q t => .cons q (RpL.set r n t)
theorem RpL.reverse {vs : List V} {ds : List D} (h : RpL K H vs ds) : RpL K H vs.reverse ds.reverse := by
  induction ds generalizing vs with
  | nil => cases h; exact .nil
  | cons d ds ih =>
    cases h with
    | cons r t =>
      rw [List.reverse_cons, List.reverse_cons]
      exact (ih t).append (.cons r .nil)
theorem RpL.eraseIdx : ∀ {vs : List V} {ds : List D} (n : Nat), RpL K H vs ds → RpL K H (vs.eraseIdx n) (ds.eraseIdx n)
  | _, _, _, .nil => .nil
  | _, _, 0, .cons _ t => t
  | _, _, n + 1, .cons q t => .cons q (RpL.eraseIdx n t)
theorem RpL.ints : ∀ {vs : List V} {ns : List Int}, RpL K H vs (ns.map D.int) → vs = ns.map V.int
  | vs, [], h => by cases h; rfl
  | vs, n :: ns, h => by
    cases h with
    | cons r t => cases r; rw [RpL.ints t]; rfl
theorem RpL.ofInts : ∀ (ns : List Int), RpL K H (ns.map V.int) (ns.map D.int)
  | [] => .nil
  | n :: ns => .cons (.int n) (RpL.ofInts ns)
end

/-! ### the heap without some objects -/
open Classical in
noncomputable def hide (P : Addr → Prop) (H : Hp) : Hp := fun b => if P b then none else H b
section
variable {P P' : Addr → Prop} {H H' : Hp} {a b : Addr} {o : HO}
theorem hide_some : hide P H b = some o ↔ ¬ P b ∧ H b = some o := by
  unfold hide
  by_cases h : P b
  · simp [h]
  · simp [h]
theorem hide_of (h : ¬ P b) : hide P H b = H b := by
  unfold hide
  simp [h]
theorem hide_same (H : Hp) : Sme (hide P H) H := Sme.of fun b o h => (hide_some.mp h).2
theorem hide_mono (h : ∀ b o, H b = some o → P' b → P b) (e : ∀ b o, ¬ P b → H b = some o → H' b = some o) : Sme (hide P H) (hide P' H') := Sme.of fun b o q => by
  obtain ⟨q1, q2⟩ := hide_some.mp q
  exact hide_some.mpr ⟨fun z => q1 (h b o q2 z), e b o q1 q2⟩
theorem hide_via (h : ∀ b o, H b = some o → P' b → P b) (e : Sme H H') : Sme (hide P H) (hide P' H') := ⟨fun b o q nt => by
  obtain ⟨q1, q2⟩ := hide_some.mp q
  exact hide_some.mpr ⟨fun z => q1 (h b o q2 z), e.get b o q2 nt⟩, fun b ps q => by
  obtain ⟨q1, q2⟩ := hide_some.mp q
  obtain ⟨ps', z⟩ := e.tb b ps q2
  exact ⟨ps', hide_some.mpr ⟨fun z => q1 (h b _ q2 z), z⟩⟩⟩
theorem same_hide (e : Sme H H') : Sme (hide P H) (hide P H') := hide_via (fun _ _ _ h => h) e
theorem same_upd {K : PySem.W.Frag} {p : Addr} (h : H p = none) : Same K H (upd H p o) := Same.of fun b x e => by
  rw [upd_ne (ne_of_none e h)]
  exact e
end

/-! ### environments -/
/-- what a slot holds: nothing; data that are shared (never changed from here); a list or dict of one's own, which nothing else leads to -/
inductive Sl where
  | emp | sh (d : D) | own (d : D)
deriving Inhabited
abbrev En := List Sl
def Ow (σ : St) (ρ : En) : Addr → Prop := fun a => ∃ (i : Nat) (d : D), ρ[i]? = some (.own d) ∧ σ[i]? = some (some (.ref a))
/-- what is kept apart: Z (others'), and one's own -/
def Pz (Z : Addr → Prop) (σ : St) (ρ : En) : Addr → Prop := fun a => Z a ∨ Ow σ ρ a
/-- an own object at a, its items without P -/
def OwnRp (K : PySem.W.Frag) (P : Addr → Prop) (H : Hp) (a : Addr) : D → Prop
  | .lst ds => ∃ vs, H a = some (.lst vs) ∧ RpL K (hide P H) vs ds
  | .dT ds => ∃ vs, H a = some (.dT vs) ∧ RpT K (hide P H) vs ds
  | .dK ds => ∃ vs, H a = some (.dK vs) ∧ RpK K (hide P H) vs ds
  | _ => False
/-- dicts that stand for themselves: where they lie and what they hold -/
class GSt where
  st : Addr → Option (List (List Int × Int))
def encV (kvs : List (List Int × Int)) : List (List Key × V) := kvs.map fun p => (p.1.map Sum.inl, V.int p.2)
variable [γ : GSt]
/-- they lie there, and are kept apart -/
def GIn (P : Addr → Prop) (H : Hp) : Prop := ∀ b kvs, GSt.st b = some kvs → P b ∧ H b = some (.dT (encV kvs))
/-- P's are objects that may change -/
structure POk (P : Addr → Prop) (H : Hp) : Prop where
  ok : ∀ a, P a → ∃ o, H a = some o ∧ Mut (some o) ∧ ∀ C dx, o ≠ .ins C dx []
  gh : GIn P H
instance {P : Addr → Prop} {H : Hp} : CoeFun (POk P H) (fun _ => ∀ a, P a → ∃ o, H a = some o ∧ Mut (some o) ∧ ∀ C dx, o ≠ .ins C dx []) := ⟨POk.ok⟩
theorem Sme.updN {B H : Hp} {a : Addr} {o : HO} (e : Sme B H) (h : B a = Option.none) : Sme B (upd H a o) := ⟨fun b u q nt => by
  rw [upd_ne (ne_of_none q h)]
  exact e.get b u q nt, fun b ps q => by
  rw [upd_ne (ne_of_none q h)]
  exact e.tb b ps q⟩
theorem Sme.back {H H2 : Hp} {a : Addr} {o u : HO} (ha : H a = some u) (e : Sme (upd H a o) H2) : Sme H (upd H2 a u) := ⟨fun b x q nt => by
  by_cases c : b = a
  · rw [c, upd_same, ← ha, ← c, q]
  · rw [upd_ne c]
    exact e.get b x (by rw [upd_ne c]; exact q) nt, fun b ps q => by
  by_cases c : b = a
  · exact ⟨ps, by rw [c, upd_same, ← ha, ← c, q]⟩
  · rw [upd_ne c]
    exact e.tb b ps (by rw [upd_ne c]; exact q)⟩
/-- no table, no code object -/
def LD : HO → Prop
  | .tbl _ => False
  | .ext _ => False
  | _ => True
theorem TabS.upd {H : Hp} {P a : Addr} {q : Str} {o o' : HO} (h : TabS H P q) (ha : H a = some o') (l : LD o') : TabS (upd H a o) P q := by
  obtain ⟨ps, h1, h2, h3⟩ := h
  refine ⟨ps, by rw [upd_ne fun c => by rw [c, ha] at h1; cases h1; exact l]; exact h1, h2, fun pos cv hc => ?_⟩
  obtain ⟨c, e1, e2⟩ := h3 pos cv hc
  exact ⟨c, e1, by rw [upd_ne fun z => by rw [z, ha] at e2; cases e2; exact l]; exact e2⟩
theorem TabsK.upd {K : PySem.W.Frag} {H : Hp} {a : Addr} {o o' : HO} (h : TabsK K H) (ha : H a = some o') (l : LD o') : TabsK K (L2.upd H a o) := fun c P q => (h c P q).upd ha l
theorem TabsK.mono {K : PySem.W.Frag} {H H' : Hp} (e : Same K H H') (h : TabsK K H) : TabsK K H' := e.tab h
theorem Same.updN {K : PySem.W.Frag} {B H : Hp} {a : Addr} {o o' : HO} (e : Same K B H) (h : B a = Option.none) (ha : H a = some o') (l : LD o') : Same K B (L2.upd H a o) := { Sme.updN e.toSme h with tab := fun t => (e.tab t).upd ha l }
theorem Sme.hideN {P : Addr → Prop} {B H : Hp} (e : Sme B H) (h : ∀ a, P a → B a = Option.none) : Sme B (hide P H) := ⟨fun b o q nt => hide_some.mpr ⟨fun z => (by rw [h b z] at q; cases q), e.get b o q nt⟩, fun b ps q => by
  obtain ⟨ps', z⟩ := e.tb b ps q
  exact ⟨ps', hide_some.mpr ⟨fun z' => (by rw [h b z'] at q; cases q), z⟩⟩⟩
structure EnvOk (K : PySem.W.Frag) (Z : Addr → Prop) (H : Hp) (σ : St) (ρ : En) : Prop where
  len : σ.length = ρ.length
  sh : ∀ (i : Nat) (d : D), ρ[i]? = some (.sh d) → ∃ v, σ[i]? = some (some v) ∧ Rp K (hide (Pz Z σ ρ) H) v d
  own : ∀ (i : Nat) (d : D), ρ[i]? = some (.own d) → ∃ a, σ[i]? = some (some (.ref a)) ∧ OwnRp K (Pz Z σ ρ) H a d
  inj : ∀ (i j : Nat) (d e : D) (a : Addr), ρ[i]? = some (.own d) → ρ[j]? = some (.own e) → σ[i]? = some (some (.ref a)) → σ[j]? = some (some (.ref a)) → i = j
  zok : POk Z H
  zdis : ∀ a, Ow σ ρ a → ¬ Z a
  tab : TabsK K H
structure StOk (K : PySem.W.Frag) (Z : Addr → Prop) (B H : Hp) (σ : St) (ρ : En) : Prop where
  env : EnvOk K Z H σ ρ
  base : Sme B H
  free : ∀ a, Ow σ ρ a → B a = none

section
variable {K : PySem.W.Frag} {P P' Z : Addr → Prop} {B H H' : Hp} {σ : St} {ρ : En} {a : Addr} {d : D} {v : V}
theorem OwnRp.via (ha : ∀ o, H a = some o → NT o → H' a = some o) (e : Sme (hide P H) (hide P' H')) (h : OwnRp K P H a d) : OwnRp K P' H' a d := by
  cases d with
  | lst ds => obtain ⟨vs, h1, h2⟩ := h; exact ⟨vs, ha _ h1 trivial, RpL.mono e _ _ h2⟩
  | dT ds => obtain ⟨vs, h1, h2⟩ := h; exact ⟨vs, ha _ h1 trivial, RpT.mono e _ _ h2⟩
  | dK ds => obtain ⟨vs, h1, h2⟩ := h; exact ⟨vs, ha _ h1 trivial, RpK.mono e _ _ h2⟩
  | _ => exact h.elim
theorem OwnRp.mono (e : Sme H H') (h : OwnRp K P H a d) : OwnRp K P H' a d := h.via (e.get a) (same_hide e)
theorem OwnRp.less (hp : ∀ b, P' b → P b) (h : OwnRp K P H a d) : OwnRp K P' H a d := h.via (fun _ q _ => q) (hide_mono (fun b _ _ q => hp b q) fun _ _ _ q => q)
theorem OwnRp.mut (h : OwnRp K P H a d) : ∃ o, H a = some o ∧ Mut (some o) ∧ ∀ C dx, o ≠ .ins C dx [] := by
  cases d with
  | lst ds => obtain ⟨vs, h1, h2⟩ := h; exact ⟨_, h1, trivial, fun _ _ z => by cases z⟩
  | dT ds => obtain ⟨vs, h1, h2⟩ := h; exact ⟨_, h1, trivial, fun _ _ z => by cases z⟩
  | dK ds => obtain ⟨vs, h1, h2⟩ := h; exact ⟨_, h1, trivial, fun _ _ z => by cases z⟩
  | _ => exact h.elim
theorem OwnRp.ld (h : OwnRp K P H a d) : ∃ o, H a = some o ∧ LD o := by
  cases d with
  | lst ds => obtain ⟨vs, h1, h2⟩ := h; exact ⟨_, h1, trivial⟩
  | dT ds => obtain ⟨vs, h1, h2⟩ := h; exact ⟨_, h1, trivial⟩
  | dK ds => obtain ⟨vs, h1, h2⟩ := h; exact ⟨_, h1, trivial⟩
  | _ => exact h.elim
theorem OwnRp.rp (h : OwnRp K P H a d) : Rp K H (.ref a) d := by
  cases d with
  | lst ds => obtain ⟨vs, h1, h2⟩ := h; exact .lst h1 (RpL.mono (hide_same H) _ _ h2)
  | dT ds => obtain ⟨vs, h1, h2⟩ := h; exact .dT (.inl h1) (RpT.mono (hide_same H) _ _ h2)
  | dK ds => obtain ⟨vs, h1, h2⟩ := h; exact .dK (.inl h1) (RpK.mono (hide_same H) _ _ h2)
  | _ => exact h.elim
theorem OwnRp.rpHide (ha : ¬ P' a) (hp : ∀ b, P' b → P b) (h : OwnRp K P H a d) : Rp K (hide P' H) (.ref a) d := by
  have e : Sme (hide P H) (hide P' H) := hide_mono (fun b _ _ q => hp b q) fun _ _ _ q => q
  cases d with
  | lst ds => obtain ⟨vs, h1, h2⟩ := h; exact .lst (hide_some.mpr ⟨ha, h1⟩) (RpL.mono e _ _ h2)
  | dT ds => obtain ⟨vs, h1, h2⟩ := h; exact .dT (.inl (hide_some.mpr ⟨ha, h1⟩)) (RpT.mono e _ _ h2)
  | dK ds => obtain ⟨vs, h1, h2⟩ := h; exact .dK (.inl (hide_some.mpr ⟨ha, h1⟩)) (RpK.mono e _ _ h2)
  | _ => exact h.elim
theorem Mut.nt {o : HO} (h : Mut (some o)) : NT o := by cases o <;> first | trivial | exact h.elim
theorem GIn.mono (e : Sme H H') (h : GIn P H) : GIn P H' := fun b kvs q => ⟨(h b kvs q).1, e.get _ _ (h b kvs q).2 trivial⟩
theorem GIn.more (hp : ∀ b, P b → P' b) (h : GIn P H) : GIn P' H := fun b kvs q => ⟨hp b (h b kvs q).1, (h b kvs q).2⟩
theorem GIn.upd {o : HO} (ha : ¬ P a) (h : GIn P H) : GIn P (L2.upd H a o) := fun b kvs q => ⟨(h b kvs q).1, by rw [upd_ne fun c => ha (by rw [← c]; exact (h b kvs q).1)]; exact (h b kvs q).2⟩
theorem POk.mono (e : Sme H H') (h : POk P H) : POk P H' := ⟨fun a q => let ⟨o, h1, h2, h3⟩ := h a q; ⟨o, e.get _ _ h1 (Mut.nt h2), h2, h3⟩, h.gh.mono e⟩
theorem POk.upd {o : HO} (h : POk P H) (ha : ¬ P a) : POk P (L2.upd H a o) := ⟨fun b q => let ⟨u, h1, h2, h3⟩ := h b q; ⟨u, by rw [upd_ne fun c => ha (by rw [← c]; exact q)]; exact h1, h2, h3⟩, h.gh.upd ha⟩
theorem POk.there (h : POk P H) {b : Addr} (q : P b) : ∃ o, H b = some o := let ⟨o, h1, _⟩ := h b q; ⟨o, h1⟩
theorem POk.stup (h : POk P H) : STup H (hide P H) := by
  refine ⟨fun a xs e => hide_some.mpr ⟨fun q => ?_, e⟩, fun a C dx e => hide_some.mpr ⟨fun q => ?_, e⟩, fun a oe φ e => hide_some.mpr ⟨fun q => ?_, e⟩⟩
  · obtain ⟨o, h1, h2, _⟩ := h a q
    rw [e] at h1; cases h1; exact h2
  · obtain ⟨o, h1, h2, h3⟩ := h a q
    rw [e] at h1; cases h1; exact h3 C dx rfl
  · obtain ⟨o, h1, h2, _⟩ := h a q
    rw [e] at h1; cases h1; exact h2
theorem EnvOk.mono (e : Same K H H') (h : EnvOk K Z H σ ρ) : EnvOk K Z H' σ ρ where
  len := h.len
  sh := fun i d hi => let ⟨v, h1, h2⟩ := h.sh i d hi; ⟨v, h1, Rp.mono (same_hide e) _ _ h2⟩
  own := fun i d hi => let ⟨a, h1, h2⟩ := h.own i d hi; ⟨a, h1, h2.mono e⟩
  inj := h.inj
  zok := h.zok.mono e
  zdis := h.zdis
  tab := h.tab.mono e
theorem StOk.mono (e : Same K H H') (h : StOk K Z B H σ ρ) : StOk K Z B H' σ ρ := ⟨h.env.mono e, h.base.trans e.toSme, h.free⟩
theorem EnvOk.pok (h : EnvOk K Z H σ ρ) : POk (Pz Z σ ρ) H := ⟨fun a q => by
  rcases q with q | ⟨i, d, h1, h2⟩
  · exact h.zok a q
  · obtain ⟨b, h3, h4⟩ := h.own i d h1
    rw [h2] at h3
    cases h3
    exact h4.mut, h.zok.gh.more fun _ => .inl⟩
end

/-! ### what comes of an expression -/
/-- bor: it reads as the data; top: .. and its items lean on nothing kept apart; av: nor does it; fr: a new object -/
inductive Md where
  | bor | top | av | fr
deriving DecidableEq, Inhabited
structure R where
  d : D
  m : Md
abbrev EF := En → Option R
def TopRp (K : PySem.W.Frag) (P : Addr → Prop) (H : Hp) (a : Addr) : D → Prop
  | .lst ds => ∃ vs, H a = some (.lst vs) ∧ RpL K (hide P H) vs ds
  | .dT ds => ∃ vs, H a = some (.dT vs) ∧ RpT K (hide P H) vs ds
  | .dK ds => ∃ vs, H a = some (.dK vs) ∧ RpK K (hide P H) vs ds
  | _ => False
/-- an operand that stands -/
def Opd (K : PySem.W.Frag) (P : Addr → Prop) (H : Hp) (v : V) (r : R) : Prop :=
  match r.m with
  | .bor => Rp K H v r.d
  | .top => ∃ a, v = .ref a ∧ TopRp K P H a r.d
  | .av => Rp K (hide P H) v r.d
  | .fr => Rp K (hide P H) v r.d
/-- what has come of a thing evaluated from H0 -/
def Res (K : PySem.W.Frag) (P : Addr → Prop) (H0 H : Hp) (v : V) (r : R) : Prop :=
  match r.m with
  | .bor => Rp K H v r.d
  | .top => ∃ a, v = .ref a ∧ TopRp K P H a r.d
  | .av => Rp K (hide P H) v r.d
  | .fr => ∃ a, v = .ref a ∧ H0 a = none ∧ OwnRp K (fun b => P b ∨ b = a) H a r.d
inductive ResL (K : PySem.W.Frag) (P : Addr → Prop) (H : Hp) : List V → List R → Prop
  | nil : ResL K P H [] []
  | cons {v : V} {vs : List V} {r : R} {rs : List R} : Opd K P H v r → ResL K P H vs rs → ResL K P H (v :: vs) (r :: rs)

section
variable {K : PySem.W.Frag} {P P' : Addr → Prop} {B H0 H H' H1 H2 : Hp} {σ : St} {ρ : En} {a : Addr} {d : D} {v : V} {r : R}
theorem TopRp.mono (e : Sme H H') (h : TopRp K P H a d) : TopRp K P H' a d := by
  cases d with
  | lst ds => obtain ⟨vs, h1, h2⟩ := h; exact ⟨vs, e _ _ h1, RpL.mono (same_hide e) _ _ h2⟩
  | dT ds => obtain ⟨vs, h1, h2⟩ := h; exact ⟨vs, e _ _ h1, RpT.mono (same_hide e) _ _ h2⟩
  | dK ds => obtain ⟨vs, h1, h2⟩ := h; exact ⟨vs, e _ _ h1, RpK.mono (same_hide e) _ _ h2⟩
  | _ => exact h.elim
theorem TopRp.rp (h : TopRp K P H a d) : Rp K H (.ref a) d := by
  cases d with
  | lst ds => obtain ⟨vs, h1, h2⟩ := h; exact .lst h1 (RpL.mono (hide_same H) _ _ h2)
  | dT ds => obtain ⟨vs, h1, h2⟩ := h; exact .dT (.inl h1) (RpT.mono (hide_same H) _ _ h2)
  | dK ds => obtain ⟨vs, h1, h2⟩ := h; exact .dK (.inl h1) (RpK.mono (hide_same H) _ _ h2)
  | _ => exact h.elim
theorem OwnRp.top (h : OwnRp K P H a d) : TopRp K P H a d := by
  cases d with
  | lst ds => exact h
  | dT ds => exact h
  | dK ds => exact h
  | _ => exact h.elim
theorem Opd.mono (e : Sme H H') (h : Opd K P H v r) : Opd K P H' v r := by
  obtain ⟨d, m⟩ := r
  cases m with
  | bor => exact Rp.mono e _ _ h
  | top => obtain ⟨a, h1, h2⟩ := h; exact ⟨a, h1, h2.mono e⟩
  | av => exact Rp.mono (same_hide e) _ _ h
  | fr => exact Rp.mono (same_hide e) _ _ h
theorem Res.mono (e : Sme H H') (h : Res K P H0 H v r) : Res K P H0 H' v r := by
  obtain ⟨d, m⟩ := r
  cases m with
  | bor => exact Rp.mono e _ _ h
  | top => obtain ⟨a, h1, h2⟩ := h; exact ⟨a, h1, h2.mono e⟩
  | av => exact Rp.mono (same_hide e) _ _ h
  | fr => obtain ⟨a, h1, h2, h3⟩ := h; exact ⟨a, h1, h2, h3.mono e⟩
theorem Res.pre (e : Sme H1 H0) (h : Res K P H0 H v r) : Res K P H1 H v r := by
  obtain ⟨d, m⟩ := r
  cases m with
  | fr => obtain ⟨a, h1, h2, h3⟩ := h; exact ⟨a, h1, Sme.none e h2, h3⟩
  | _ => exact h
theorem Res.opd (hP : POk P H0) (h : Res K P H0 H v r) : Opd K P H v r := by
  obtain ⟨d, m⟩ := r
  cases m with
  | fr =>
    obtain ⟨a, h1, h2, h3⟩ := h
    subst h1
    exact h3.rpHide (fun z => by obtain ⟨o, q⟩ := hP.there z; rw [h2] at q; cases q) fun b q => .inl q
  | _ => exact h
theorem Opd.rp (h : Opd K P H v r) : Rp K H v r.d := by
  obtain ⟨d, m⟩ := r
  cases m with
  | bor => exact h
  | top => obtain ⟨a, h1, h2⟩ := h; subst h1; exact h2.rp
  | av => exact Rp.mono (hide_same H) _ _ h
  | fr => exact Rp.mono (hide_same H) _ _ h
theorem Opd.av (h : Opd K P H v r) (hm : r.m = .av ∨ r.m = .fr) : Rp K (hide P H) v r.d := by
  obtain ⟨d, m⟩ := r
  cases m with
  | av => exact h
  | fr => exact h
  | bor => rcases hm with z | z <;> cases z
  | top => rcases hm with z | z <;> cases z
/-- what reads as the data, as an operand of any mode that it deserves -/
def md (b : Bool) : Md := if b then .av else .bor
theorem Opd.md {b : Bool} (h1 : b = true → Rp K (hide P H) v d) (h2 : Rp K H v d) : Opd K P H v ⟨d, Fb.md b⟩ := by
  cases b with
  | true => exact h1 rfl
  | false => exact h2
/-- are its items told as leaning on nothing kept apart -/
def Md.it : Md → Bool
  | .bor => false
  | _ => true
def Md.ok : Md → Bool
  | .av => true
  | .fr => true
  | _ => false
theorem Opd.lst {ds : List D} {m : Md} (h : Opd K P H v ⟨.lst ds, m⟩) : ∃ a vs, v = .ref a ∧ H a = some (.lst vs) ∧ RpL K H vs ds ∧ (m.it = true → RpL K (hide P H) vs ds) := by
  cases m with
  | bor =>
    cases h with
    | lst s q => exact ⟨_, _, rfl, s, q, fun z => by cases z⟩
  | top => obtain ⟨a, h1, vs, h2, h3⟩ := h; exact ⟨a, vs, h1, h2, RpL.mono (hide_same H) _ _ h3, fun _ => h3⟩
  | av =>
    cases h with
    | lst s q => exact ⟨_, _, rfl, hide_same H _ _ s, RpL.mono (hide_same H) _ _ q, fun _ => q⟩
  | fr =>
    cases h with
    | lst s q => exact ⟨_, _, rfl, hide_same H _ _ s, RpL.mono (hide_same H) _ _ q, fun _ => q⟩
theorem Opd.tup {ds : List D} {m : Md} (h : Opd K P H v ⟨.tup ds, m⟩) : ∃ a vs, v = .ref a ∧ SqT K H a vs ∧ RpL K H vs ds ∧ (m.it = true → RpL K (hide P H) vs ds) := by
  cases m with
  | bor =>
    cases h with
    | tup s q => exact ⟨_, _, rfl, .of s, q, fun z => by cases z⟩
  | top => obtain ⟨a, h1, h2⟩ := h; exact h2.elim
  | av =>
    cases h with
    | tup s q => exact ⟨_, _, rfl, .of (hide_same H _ _ s), RpL.mono (hide_same H) _ _ q, fun _ => q⟩
  | fr =>
    cases h with
    | tup s q => exact ⟨_, _, rfl, .of (hide_same H _ _ s), RpL.mono (hide_same H) _ _ q, fun _ => q⟩
/-- data without lists lean on nothing that may change -/
def up (r : R) : Md := match r.m with
  | .fr => .fr
  | .av => .av
  | m => if imm r.d then .av else m
theorem Res.up (E : POk P H) (h : Res K P H0 H v r) : Res K P H0 H v ⟨r.d, Fb.up r⟩ := by
  have rp : r.m = .bor ∨ r.m = .top → Rp K H v r.d := fun z => by
    obtain ⟨d, m⟩ := r
    rcases z with z | z
    · cases z; exact h
    · cases z
      obtain ⟨a, h1, h2⟩ := h
      subst h1
      exact h2.rp
  obtain ⟨d, m⟩ := r
  cases m with
  | fr => exact h
  | av => exact h
  | bor =>
    by_cases c : imm d = true
    · have : Fb.up ⟨d, .bor⟩ = .av := if_pos c
      rw [this]
      exact Rp.immK E.stup _ _ c (rp (.inl rfl))
    · have : Fb.up ⟨d, .bor⟩ = .bor := if_neg c
      rw [this]
      exact h
  | top =>
    by_cases c : imm d = true
    · have : Fb.up ⟨d, .top⟩ = .av := if_pos c
      rw [this]
      exact Rp.immK E.stup _ _ c (rp (.inr rfl))
    · have : Fb.up ⟨d, .top⟩ = .top := if_neg c
      rw [this]
      exact h
/-- a new object, its items at hand -/
def nw (b : Bool) : Md := if b then .fr else .bor
/-- a new list at p -/
theorem Res.newL {vs : List V} {ds : List D} {b : Bool} {p : Addr} (e : Sme H0 H) (hp : H p = none) (h1 : RpL K H vs ds) (h2 : b = true → RpL K (hide P H) vs ds) : Res K P H0 (upd H p (.lst vs)) (.ref p) ⟨.lst ds, nw b⟩ := by
  have s1 : Sme H (upd H p (.lst vs)) := (same_upd (K := K) hp).toSme
  cases b with
  | false => exact .lst upd_same (RpL.mono s1 _ _ h1)
  | true =>
    refine ⟨p, rfl, Sme.none e hp, vs, upd_same, RpL.mono (hide_via (fun b o q z => ?_) s1) _ _ (h2 rfl)⟩
    rcases z with z | z
    · exact z
    · rw [z, hp] at q; cases q
/-- a new tuple at p -/
theorem Res.newT {vs : List V} {ds : List D} {b : Bool} {p : Addr} (hP : POk P H) (hp : H p = none) (h1 : RpL K H vs ds) (h2 : b = true → RpL K (hide P H) vs ds) : Res K P H0 (upd H p (.tup vs)) (.ref p) ⟨.tup ds, md b⟩ := by
  have s1 : Sme H (upd H p (.tup vs)) := (same_upd (K := K) hp).toSme
  cases b with
  | false => exact .tup upd_same (RpL.mono s1 _ _ h1)
  | true =>
    refine .tup (hide_some.mpr ⟨fun z => ?_, upd_same⟩) (RpL.mono (same_hide s1) _ _ (h2 rfl))
    obtain ⟨o, q⟩ := hP.there z
    rw [hp] at q; cases q
theorem Res.atom {d : D} (h : ∀ H, Rp K H v d) : Res K P H0 H v ⟨d, .av⟩ := h _
theorem Res.ofOpd {b : Bool} (h : Opd K P H v ⟨d, Fb.md b⟩) : Res K P H0 H v ⟨d, Fb.md b⟩ := by
  cases b with
  | true => exact h
  | false => exact h
end
/-- no such dicts -/
instance (priority := low) gTriv : GSt := ⟨fun _ => none⟩
theorem POk.triv {P : Addr → Prop} {H : Hp} (h : POk P H) : @POk gTriv P H := @POk.mk gTriv P H h.ok fun _ _ q => by cases q
theorem pok_no (H : Hp) : @POk gTriv (fun _ => False) H := @POk.mk gTriv _ H (fun _ z => z.elim) fun _ _ q => by cases q
end Fb
set_option maxHeartbeats 2000000
/-! Fb1: what expressions and tests mean over environments of data. -/
namespace Fb
open PySem PySem.Spec L2
variable [γ : GSt]

def SemE (K : PySem.W.Frag) (t : TE) (f : EF) : Prop := ∀ (Z : Addr → Prop) (σ : L2.St) (H : Hp) (ρ : En) (r : R), EnvOk K Z H σ ρ → f ρ = some r → ∀ Q : VK, (∀ v H', Same K H H' → Res K (Pz Z σ ρ) H H' v r → Q v H') → t σ H Q
abbrev TF := En → Option Bool
def SemT (K : PySem.W.Frag) (t : TT) (f : TF) : Prop := ∀ (Z : Addr → Prop) (σ : L2.St) (H : Hp) (ρ : En) (b : Bool), EnvOk K Z H σ ρ → f ρ = some b → ∀ Q : Bool → Hp → Prop, (∀ H', Same K H H' → Q b H') → t σ H Q
abbrev AF := En → Option (List R)
def SemA (K : PySem.W.Frag) (t : TA) (f : AF) : Prop := ∀ (Z : Addr → Prop) (σ : L2.St) (H : Hp) (ρ : En) (rs : List R), EnvOk K Z H σ ρ → f ρ = some rs → ∀ Q : List V → Hp → Prop, (∀ vs H', Same K H H' → ResL K (Pz Z σ ρ) H' vs rs → Q vs H') → t σ H Q
abbrev OF := En → Option (Option Int)
def SemO (K : PySem.W.Frag) (t : TO) (f : OF) : Prop := ∀ (Z : Addr → Prop) (σ : L2.St) (H : Hp) (ρ : En) (o : Option Int), EnvOk K Z H σ ρ → f ρ = some o → ∀ Q : Option Int → Hp → Prop, (∀ H', Same K H H' → Q o H') → t σ H Q
/-- by values -/
abbrev VF := R → R → Option R
def SemV (K : PySem.W.Frag) (r : R2) (g : VF) : Prop := ∀ (P : Addr → Prop) (H : Hp) (x y : V) (a b c : R), POk P H → Opd K P H x a → Opd K P H y b → g a b = some c → ∀ Q : VK, (∀ v H', Same K H H' → Res K P H H' v c → Q v H') → r x y H Q
abbrev UF := R → Option R
def SemU (K : PySem.W.Frag) (r : V → Hp → VK → Prop) (g : UF) : Prop := ∀ (P : Addr → Prop) (H : Hp) (x : V) (a c : R), POk P H → Opd K P H x a → g a = some c → ∀ Q : VK, (∀ v H', Same K H H' → Res K P H H' v c → Q v H') → r x H Q
abbrev CF := List R → Option R
def SemC (K : PySem.W.Frag) (r : List V → Hp → VK → Prop) (g : CF) : Prop := ∀ (P : Addr → Prop) (H : Hp) (xs : List V) (as : List R) (c : R), POk P H → ResL K P H xs as → g as = some c → ∀ Q : VK, (∀ v H', Same K H H' → Res K P H H' v c → Q v H') → r xs H Q

/-! ### the judgements -/
structure GE (K : PySem.W.Frag) (X : Cx) (e : Expr) (t : TE) (f : EF) : Prop where
  p : PE X e t
  s : SemE K t f
structure GT (K : PySem.W.Frag) (X : Cx) (e : Expr) (t : TT) (f : TF) : Prop where
  p : PT X e t
  s : SemT K t f
structure GW (K : PySem.W.Frag) (X : Cx) (e : Expr) (t : TT) (f : TF) : Prop where
  p : PW X e t
  s : SemT K t f
structure GA (K : PySem.W.Frag) (X : Cx) (es : List Expr) (t : TA) (f : AF) : Prop where
  p : PA X es t
  s : SemA K t f
structure GO (K : PySem.W.Frag) (X : Cx) (e : Option Expr) (t : TO) (f : OF) : Prop where
  p : PO X e t
  s : SemO K t f

section
variable {K : PySem.W.Frag} {P Z : Addr → Prop} {H H' H0 : Hp} {σ : L2.St} {ρ : En} {v x y : V} {a b c : R} {d : D} {as : List R} {vs : List V}
theorem ResL.mono (e : Sme H H') : ∀ {vs : List V} {as : List R}, ResL K P H vs as → ResL K P H' vs as
  | _, _, .nil => .nil
  | _, _, .cons h t => .cons (h.mono e) (ResL.mono e t)
theorem ResL.length : ∀ {vs : List V} {as : List R}, ResL K P H vs as → vs.length = as.length
  | _, _, .nil => rfl
  | _, _, .cons h t => congrArg (· + 1) (ResL.length t)
theorem ResL.rp : ∀ {vs : List V} {as : List R}, ResL K P H vs as → RpL K H vs (as.map R.d)
  | _, _, .nil => .nil
  | _, _, .cons h t => .cons h.rp (ResL.rp t)
/-- it leans on nothing kept apart -/
def okR (r : R) : Bool := r.m.ok || imm r.d
def okL : List R → Bool
  | [] => true
  | r :: t => okR r && okL t
@[simp] theorem okL_nil : okL [] = true := (rfl)
@[simp] theorem okL_cons (r : R) (t : List R) : okL (r :: t) = (okR r && okL t) := (rfl)
theorem Opd.okR (hP : POk P H) (h : Opd K P H v a) (q : Fb.okR a = true) : Rp K (hide P H) v a.d := by
  unfold Fb.okR at q
  rw [Bool.or_eq_true] at q
  rcases q with q | q
  · refine h.av ?_
    obtain ⟨d, m⟩ := a
    cases m with
    | av => exact .inl rfl
    | fr => exact .inr rfl
    | bor => cases q
    | top => cases q
  · exact Rp.immK hP.stup _ _ q h.rp
theorem ResL.okL (hP : POk P H) : ∀ {vs : List V} {as : List R}, ResL K P H vs as → Fb.okL as = true → RpL K (hide P H) vs (as.map R.d)
  | _, _, .nil, _ => .nil
  | _, _, .cons h t, q => by
    rw [okL_cons, Bool.and_eq_true] at q
    exact .cons (h.okR hP q.1) (ResL.okL hP t q.2)
/-- its items lean on nothing kept apart -/
def itR (r : R) : Bool := r.m.it || match r.d with
  | .lst ds => imm.immL ds
  | .tup ds => imm.immL ds
  | _ => false
theorem Opd.lstR {ds : List D} {m : Md} (hP : POk P H) (h : Opd K P H v ⟨.lst ds, m⟩) : ∃ a vs, v = .ref a ∧ H a = some (.lst vs) ∧ RpL K H vs ds ∧ (itR ⟨.lst ds, m⟩ = true → RpL K (hide P H) vs ds) := by
  obtain ⟨a, vs, h1, h2, h3, h4⟩ := h.lst
  refine ⟨a, vs, h1, h2, h3, fun q => ?_⟩
  unfold itR at q
  rw [Bool.or_eq_true] at q
  rcases q with q | q
  · exact h4 q
  · exact RpL.immK hP.stup _ _ q h3
theorem Opd.tupR {ds : List D} {m : Md} (hP : POk P H) (h : Opd K P H v ⟨.tup ds, m⟩) : ∃ a vs, v = .ref a ∧ SqT K H a vs ∧ RpL K H vs ds ∧ (itR ⟨.tup ds, m⟩ = true → RpL K (hide P H) vs ds) := by
  obtain ⟨a, vs, h1, h2, h3, h4⟩ := h.tup
  refine ⟨a, vs, h1, h2, h3, fun q => ?_⟩
  unfold itR at q
  rw [Bool.or_eq_true] at q
  rcases q with q | q
  · exact h4 q
  · exact RpL.immK hP.stup _ _ q h3
theorem Opd.int {i : Int} {m : Md} (h : Opd K P H v ⟨.int i, m⟩) : v = .int i := by
  cases h.rp
  rfl
theorem Opd.bl {i : Bool} {m : Md} (h : Opd K P H v ⟨.bl i, m⟩) : v = .bl i := by
  cases h.rp
  rfl
theorem Opd.str {i : Str} {m : Md} (h : Opd K P H v ⟨.str i, m⟩) : v = .str i := by
  cases h.rp
  rfl
theorem Opd.non {m : Md} (h : Opd K P H v ⟨.non, m⟩) : v = .non := by
  cases h.rp
  rfl
theorem Res.okUp (h : Rp K H v d) (h2 : (b : Bool) → b = true → Rp K (hide P H) v d) (b : Bool) : Res K P H0 H v ⟨d, md b⟩ := by
  cases b with
  | true => exact h2 true rfl
  | false => exact h
/-- an item of a list or tuple, by that list's mode -/
theorem Res.item {bo : Bool} (h1 : Rp K H v d) (h2 : bo = true → Rp K (hide P H) v d) : Res K P H0 H v ⟨d, md bo⟩ := by
  cases bo with
  | true => exact h2 rfl
  | false => exact h1
end

/-! ### names, constants -/
def eVar (i : Nat) : EF := fun ρ => match ρ[i]? with
  | some (.sh d) => some ⟨d, .av⟩
  | some (.own d) => some ⟨d, .top⟩
  | _ => none
def eC (d : D) : EF := fun _ => some ⟨d, .av⟩
section
variable {K : PySem.W.Frag} {X : Cx}
theorem se_var (i : Nat) : SemE K (tVar i) (eVar i) := by
  intro Z σ H ρ r E h Q q
  unfold eVar at h
  split at h
  · rename_i d e
    cases h
    obtain ⟨v, h1, h2⟩ := E.sh i d e
    exact ⟨v, h1, q v H (Same.refl H) h2⟩
  · rename_i d e
    cases h
    obtain ⟨a, h1, h2⟩ := E.own i d e
    exact ⟨_, h1, q _ H (Same.refl H) ⟨a, rfl, h2.top⟩⟩
  · cases h
theorem se_c {v : V} {d : D} (h : ∀ H, Rp K H v d) : SemE K (tC v) (eC d) := by
  intro Z σ H ρ r E e Q q
  cases e
  exact q v H (Same.refl H) (h _)
theorem ge_var (i : Nat) {x : Str} {pos : Pos} (hN : X.N[i]? = some x := by rfl) (hv : Vis X.env.scope x := by first | exact Or.inl rfl | exact Or.inr (Or.inl rfl) | exact Or.inr (Or.inr rfl)) (hd : (x == ("__debug__" : Str)) = false := by decide)
    (hcd : (x == ("__classdict__" : Str)) = false := by decide) : GE K X (.Name x pos) (tVar i) (eVar i) := ⟨pe_var hN hv hd hcd, se_var i⟩
theorem ge_int {i j pos} : GE K X (.Constant (.int i) j pos) (tC (.int i)) (eC (.int i)) := ⟨pe_int, se_c fun _ => .int i⟩
theorem ge_bl {i j pos} : GE K X (.Constant (.bool i) j pos) (tC (.bl i)) (eC (.bl i)) := ⟨pe_bl, se_c fun _ => .bl i⟩
theorem ge_str {i j pos} : GE K X (.Constant (.str i) j pos) (tC (.str i)) (eC (.str i)) := ⟨pe_str, se_c fun _ => .str i⟩
theorem ge_non {j pos} : GE K X (.Constant .none j pos) (tC .non) (eC .non) := ⟨pe_non, se_c fun _ => .non⟩
theorem ge_glob {x : Str} {v : V} {u : Value} {pos : Pos} {d : D} (hg : Gl X x) (hm : X.mg x = some u) (r : RelV v u) (h : ∀ H, Rp K H v d) (hd : (x == ("__debug__" : Str)) = false := by decide) : GE K X (.Name x pos) (tC v) (eC d) := ⟨pe_glob hg hm r hd, se_c h⟩
end

/-! ### operators -/
def eOp (g : VF) (fa fb : EF) : EF := fun ρ => (fa ρ).bind fun a => (fb ρ).bind fun b => g a b
def eUn (g : UF) (fa : EF) : EF := fun ρ => (fa ρ).bind g
section
variable {K : PySem.W.Frag} {X : Cx} {ta tb : TE} {fa fb : EF} {r : R2} {g : VF}
theorem se_op (hr : SemV K r g) (ha : SemE K ta fa) (hb : SemE K tb fb) : SemE K (tOp r ta tb) (eOp g fa fb) := by
  intro Z σ H ρ c E h Q q
  obtain ⟨a, h1, h⟩ := Option.bind_eq_some_iff.mp h
  obtain ⟨b, h2, h⟩ := Option.bind_eq_some_iff.mp h
  refine ha Z σ H ρ a E h1 _ fun x H1 s1 r1 => ?_
  refine hb Z σ H1 ρ b (E.mono s1) h2 _ fun y H2 s2 r2 => ?_
  exact hr (Pz Z σ ρ) H2 x y a b c (E.mono (s1.trans s2)).pok ((r1.opd E.pok).mono s2) (r2.opd (E.mono s1).pok) h Q fun v H3 s3 r3 => q v H3 ((s1.trans s2).trans s3) (r3.pre (s1.trans s2))
theorem se_un {r : V → Hp → VK → Prop} {g : UF} (hr : SemU K r g) (ha : SemE K ta fa) : SemE K (tUn r ta) (eUn g fa) := by
  intro Z σ H ρ c E h Q q
  obtain ⟨a, h1, h⟩ := Option.bind_eq_some_iff.mp h
  refine ha Z σ H ρ a E h1 _ fun x H1 s1 r1 => ?_
  exact hr (Pz Z σ ρ) H1 x a c (E.mono s1).pok (r1.opd E.pok) h Q fun v H3 s3 r3 => q v H3 (s1.trans s3) (r3.pre s1)
variable {a b : Expr} {pos : Pos}
theorem ge_bin {op : Operator} (hr : SemV K r g) (ho : OpR X (binaryOp op) r) (ha : GE K X a ta fa) (hb : GE K X b tb fb) : GE K X (.BinOp a op b pos) (tOp r ta tb) (eOp g fa fb) := ⟨pe_op ho ha.p hb.p, se_op hr ha.s hb.s⟩
theorem ge_cmp {op : CmpOp} (hr : SemV K r g) (ho : OpR X (compareOp op) r) (ha : GE K X a ta fa) (hb : GE K X b tb fb) (hm : behindInMarks op b = false) : GE K X (.Compare a [op] [b] pos) (tOp r ta tb) (eOp g fa fb) := ⟨pe_cmpR ho ha.p hb.p hm, se_op hr ha.s hb.s⟩
theorem ge_un {op : UnaryOp} {r : V → Hp → VK → Prop} {g : UF} (hr : SemU K r g) (ho : UnR X (unaryOp op) r) (ha : GE K X a ta fa) : GE K X (.UnaryOp op a pos) (tUn r ta) (eUn g fa) := ⟨pe_un ho ha.p, se_un hr ha.s⟩
end

/-! ### tests -/
def toB (f : EF) : TF := fun ρ => match f ρ with
  | some ⟨.bl b, _⟩ => some b
  | _ => none
def tAnd' (f g : TF) : TF := fun ρ => match f ρ with
  | some true => g ρ
  | some false => some false
  | none => none
def tOr' (f g : TF) : TF := fun ρ => match f ρ with
  | some true => some true
  | some false => g ρ
  | none => none
def tNot' (f : TF) : TF := fun ρ => (f ρ).map (!·)
section
variable {K : PySem.W.Frag} {X : Cx} {ta tb : TE} {fa fb : EF} {t u : TT} {f g : TF}
theorem toB_some {f : EF} {ρ : En} {b : Bool} (h : toB f ρ = some b) : ∃ m, f ρ = some ⟨.bl b, m⟩ := by
  unfold toB at h
  split at h
  · rename_i c m e
    cases h
    exact ⟨m, e⟩
  · cases h
theorem st_test (h : SemE K ta fa) : SemT K (tTest ta) (toB fa) := by
  intro Z σ H ρ b E e Q q
  obtain ⟨m, e⟩ := toB_some e
  refine h Z σ H ρ _ E e _ fun v H' s r => ?_
  have := (r.opd E.pok).bl
  subst this
  exact ⟨b, rfl, q H' s⟩
theorem st_B (h : SemE K ta fa) : SemT K (tB ta) (toB fa) := st_test h
theorem st_and (h1 : SemT K t f) (h2 : SemT K u g) : SemT K (tAnd t u) (tAnd' f g) := by
  intro Z σ H ρ b E e Q q
  unfold tAnd' at e
  split at e
  · rename_i e1
    refine h1 Z σ H ρ true E e1 _ fun H1 s1 => ?_
    rw [if_pos rfl]
    exact h2 Z σ H1 ρ b (E.mono s1) e Q fun H2 s2 => q H2 (s1.trans s2)
  · rename_i e1
    cases e
    refine h1 Z σ H ρ false E e1 _ fun H1 s1 => ?_
    rw [if_neg Bool.false_ne_true]
    exact q H1 s1
  · cases e
theorem st_or (h1 : SemT K t f) (h2 : SemT K u g) : SemT K (tOr t u) (tOr' f g) := by
  intro Z σ H ρ b E e Q q
  unfold tOr' at e
  split at e
  · rename_i e1
    cases e
    refine h1 Z σ H ρ true E e1 _ fun H1 s1 => ?_
    rw [if_pos rfl]
    exact q H1 s1
  · rename_i e1
    refine h1 Z σ H ρ false E e1 _ fun H1 s1 => ?_
    rw [if_neg Bool.false_ne_true]
    exact h2 Z σ H1 ρ b (E.mono s1) e Q fun H2 s2 => q H2 (s1.trans s2)
  · cases e
theorem st_not (h1 : SemT K t f) : SemT K (tNot t) (tNot' f) := by
  intro Z σ H ρ b E e Q q
  unfold tNot' at e
  obtain ⟨c, e1, e2⟩ := Option.map_eq_some_iff.mp e
  subst e2
  exact h1 Z σ H ρ c E e1 _ fun H1 s1 => q H1 s1
variable {a b : Expr} {pos : Pos} {rest : List Expr}
theorem gt_cmp {op : CmpOp} {r : R2} {g : VF} (hr : SemV K r g) (ho : OpR X (compareOp op) r) (ha : GE K X a ta fa) (hb : GE K X b tb fb) (hm : behindInMarks op b = false) : GT K X (.Compare a [op] [b] pos) (tTest (tOp r ta tb)) (toB (eOp g fa fb)) := ⟨pt_cmpR ho ha.p hb.p hm, st_test (se_op hr ha.s hb.s)⟩
theorem gt_val {e : Expr} (h : GE K X e ta fa) (he : ∀ whole, isTrue e X.env whole = (do let v ← whole; standAt e.pos; holding [v] (truthy v)) := by intro _; rfl) : GT K X e (tB ta) (toB fa) := ⟨pt_val h.p he, st_B h.s⟩
theorem gw_and1 (h : GT K X a t f) : GW K X (.BoolOp .And [a] pos) t f := ⟨pw_and1 h.p, h.s⟩
theorem gw_or1 (h : GT K X a t f) : GW K X (.BoolOp .Or [a] pos) t f := ⟨pw_or1 h.p, h.s⟩
theorem gw_and (h1 : GT K X a t f) (h2 : GW K X (.BoolOp .And (b :: rest) pos) u g) : GW K X (.BoolOp .And (a :: b :: rest) pos) (tAnd t u) (tAnd' f g) := ⟨pw_and h1.p h2.p, st_and h1.s h2.s⟩
theorem gw_or (h1 : GT K X a t f) (h2 : GW K X (.BoolOp .Or (b :: rest) pos) u g) : GW K X (.BoolOp .Or (a :: b :: rest) pos) (tOr t u) (tOr' f g) := ⟨pw_or h1.p h2.p, st_or h1.s h2.s⟩
theorem gt_w {e : Expr} (h : GW K X e t f) : GT K X e t f := ⟨h.p.pt, h.s⟩
theorem gt_not (h : GT K X a t f) : GT K X (.UnaryOp .Not a pos) (tNot t) (tNot' f) := ⟨pt_not h.p, st_not h.s⟩
end
/-- a test's value as a value -/
def ofB (b : Bool) : R := ⟨.bl b, .av⟩
def eAnd (fa fb : EF) : EF := fun ρ => match fa ρ with
  | some ⟨.bl true, _⟩ => fb ρ
  | some ⟨.bl false, _⟩ => some (ofB false)
  | _ => none
def eOr (fa fb : EF) : EF := fun ρ => match fa ρ with
  | some ⟨.bl true, _⟩ => some (ofB true)
  | some ⟨.bl false, _⟩ => fb ρ
  | _ => none
def eNot (fa : EF) : EF := fun ρ => match fa ρ with
  | some ⟨.bl b, _⟩ => some (ofB (!b))
  | _ => none
def eIf (ft : TF) (fa fb : EF) : EF := fun ρ => match ft ρ with
  | some true => fa ρ
  | some false => fb ρ
  | none => none
section
variable {K : PySem.W.Frag} {X : Cx} {ta tb : TE} {fa fb : EF} {t : TT} {f : TF} {a b c : Expr} {pos : Pos} {rest : List Expr}
theorem se_and (ha : SemE K ta fa) (hb : SemE K tb fb) : SemE K (tAndV ta tb) (eAnd fa fb) := by
  intro Z σ H ρ r E e Q q
  unfold eAnd at e
  split at e
  · rename_i m e1
    refine ha Z σ H ρ _ E e1 _ fun v H1 s1 r1 => ?_
    have := (r1.opd E.pok).bl
    subst this
    refine ⟨true, rfl, ?_⟩
    rw [if_pos rfl]
    exact hb Z σ H1 ρ r (E.mono s1) e Q fun v H2 s2 r2 => q v H2 (s1.trans s2) (r2.pre s1)
  · rename_i m e1
    cases e
    refine ha Z σ H ρ _ E e1 _ fun v H1 s1 r1 => ?_
    have := (r1.opd E.pok).bl
    subst this
    refine ⟨false, rfl, ?_⟩
    rw [if_neg Bool.false_ne_true]
    exact q _ H1 s1 (.bl false)
  · cases e
theorem se_or (ha : SemE K ta fa) (hb : SemE K tb fb) : SemE K (tOrV ta tb) (eOr fa fb) := by
  intro Z σ H ρ r E e Q q
  unfold eOr at e
  split at e
  · rename_i m e1
    cases e
    refine ha Z σ H ρ _ E e1 _ fun v H1 s1 r1 => ?_
    have := (r1.opd E.pok).bl
    subst this
    refine ⟨true, rfl, ?_⟩
    rw [if_pos rfl]
    exact q _ H1 s1 (.bl true)
  · rename_i m e1
    refine ha Z σ H ρ _ E e1 _ fun v H1 s1 r1 => ?_
    have := (r1.opd E.pok).bl
    subst this
    refine ⟨false, rfl, ?_⟩
    rw [if_neg Bool.false_ne_true]
    exact hb Z σ H1 ρ r (E.mono s1) e Q fun v H2 s2 r2 => q v H2 (s1.trans s2) (r2.pre s1)
  · cases e
theorem se_not (ha : SemE K ta fa) : SemE K (tNotV ta) (eNot fa) := by
  intro Z σ H ρ r E e Q q
  unfold eNot at e
  split at e
  · rename_i b m e1
    cases e
    refine ha Z σ H ρ _ E e1 _ fun v H1 s1 r1 => ?_
    have := (r1.opd E.pok).bl
    subst this
    exact ⟨b, rfl, q _ H1 s1 (.bl (!b))⟩
  · cases e
theorem se_if (ht : SemT K t f) (ha : SemE K ta fa) (hb : SemE K tb fb) : SemE K (tIf t ta tb) (eIf f fa fb) := by
  intro Z σ H ρ r E e Q q
  unfold eIf at e
  split at e
  · rename_i e1
    refine ht Z σ H ρ _ E e1 _ fun H1 s1 => ?_
    rw [if_pos rfl]
    exact ha Z σ H1 ρ r (E.mono s1) e Q fun v H2 s2 r2 => q v H2 (s1.trans s2) (r2.pre s1)
  · rename_i e1
    refine ht Z σ H ρ _ E e1 _ fun H1 s1 => ?_
    rw [if_neg Bool.false_ne_true]
    exact hb Z σ H1 ρ r (E.mono s1) e Q fun v H2 s2 r2 => q v H2 (s1.trans s2) (r2.pre s1)
  · cases e
theorem ge_one {op} {te : TE} {fe : EF} (h : GE K X a te fe) : GE K X (.BoolOp op [a] pos) te fe := ⟨pe_one h.p, h.s⟩
theorem ge_and (ha : GE K X a ta fa) (hb : GE K X (.BoolOp .And (b :: rest) pos) tb fb) : GE K X (.BoolOp .And (a :: b :: rest) pos) (tAndV ta tb) (eAnd fa fb) := ⟨pe_and ha.p hb.p, se_and ha.s hb.s⟩
theorem ge_or (ha : GE K X a ta fa) (hb : GE K X (.BoolOp .Or (b :: rest) pos) tb fb) : GE K X (.BoolOp .Or (a :: b :: rest) pos) (tOrV ta tb) (eOr fa fb) := ⟨pe_or ha.p hb.p, se_or ha.s hb.s⟩
theorem ge_not (ha : GE K X a ta fa) : GE K X (.UnaryOp .Not a pos) (tNotV ta) (eNot fa) := ⟨pe_not ha.p, se_not ha.s⟩
theorem ge_if (hc : GT K X c t f) (ha : GE K X a ta fa) (hb : GE K X b tb fb) : GE K X (.IfExp c a b pos) (tIf t ta tb) (eIf f fa fb) := ⟨pe_ifExp hc.p ha.p hb.p, se_if hc.s ha.s hb.s⟩
end

/-! ### arguments, displays -/
def aNil : AF := fun _ => some []
def aCons (f : EF) (g : AF) : AF := fun ρ => (f ρ).bind fun a => (g ρ).bind fun as => some (a :: as)
def eTup (f : AF) : EF := fun ρ => (f ρ).bind fun as => if as.length ≤ 1000 then some ⟨.tup (as.map R.d), md (okL as)⟩ else none
def eLst (f : AF) : EF := fun ρ => (f ρ).bind fun as => if as.length ≤ 1000 then some ⟨.lst (as.map R.d), nw (okL as)⟩ else none
theorem line1000 {n : Nat} (h : n ≤ 1000) : n ≤ sizeLine := Nat.le_trans h (by decide)
section
variable {K : PySem.W.Frag} {X : Cx} {te : TE} {fe : EF} {t : TA} {f : AF}
theorem sa_nil : SemA K tNil aNil := by
  intro Z σ H ρ rs E e Q q
  cases e
  exact q [] H (Same.refl H) .nil
theorem sa_cons (h1 : SemE K te fe) (h2 : SemA K t f) : SemA K (tCons te t) (aCons fe f) := by
  intro Z σ H ρ rs E e Q q
  obtain ⟨a, e1, e⟩ := Option.bind_eq_some_iff.mp e
  obtain ⟨as, e2, e⟩ := Option.bind_eq_some_iff.mp e
  cases e
  refine h1 Z σ H ρ a E e1 _ fun v H1 s1 r1 => ?_
  refine h2 Z σ H1 ρ as (E.mono s1) e2 _ fun vs H2 s2 r2 => ?_
  exact q _ H2 (s1.trans s2) (.cons ((r1.opd E.pok).mono s2) r2)
theorem se_tup (h : SemA K t f) : SemE K (tTup t) (eTup f) := by
  intro Z σ H ρ r E e Q q
  obtain ⟨as, e1, e⟩ := Option.bind_eq_some_iff.mp e
  split at e
  · rename_i hl
    cases e
    refine h Z σ H ρ as E e1 _ fun vs H1 s1 r1 => ?_
    refine ⟨line1000 (by rw [r1.length]; exact hl), fun p hp => ?_⟩
    exact q _ _ (s1.trans (same_upd hp)) (Res.newT (E.mono s1).pok hp r1.rp fun z => r1.okL (E.mono s1).pok z)
  · cases e
theorem se_lst (h : SemA K t f) : SemE K (tLst t) (eLst f) := by
  intro Z σ H ρ r E e Q q
  obtain ⟨as, e1, e⟩ := Option.bind_eq_some_iff.mp e
  split at e
  · rename_i hl
    cases e
    refine h Z σ H ρ as E e1 _ fun vs H1 s1 r1 => ?_
    refine ⟨line1000 (by rw [r1.length]; exact hl), fun p hp => ?_⟩
    exact q _ _ (s1.trans (same_upd hp)) (Res.newL s1 hp r1.rp fun z => r1.okL (E.mono s1).pok z)
  · cases e
variable {e : Expr} {es : List Expr} {pos : Pos}
theorem ga_nil : GA K X [] tNil aNil := ⟨pa_nil, sa_nil⟩
theorem ga_cons (h : GE K X e te fe) (hr : GA K X es t f) (hs : starEach (e :: es) X.env = (false, eval e X.env) :: starEach es X.env := by rfl) : GA K X (e :: es) (tCons te t) (aCons fe f) := ⟨pa_cons h.p hr.p hs, sa_cons h.s hr.s⟩
theorem ge_tup {x1} (h : GA K X es t f) : GE K X (.Tuple es x1 pos) (tTup t) (eTup f) := ⟨pe_tup h.p, se_tup h.s⟩
theorem ge_lst (h : GA K X es t f) : GE K X (.List es pos) (tLst t) (eLst f) := ⟨pe_lst h.p, se_lst h.s⟩
end

/-! ### calls of built-ins -/
def eCB (g : CF) (f : AF) : EF := fun ρ => (f ρ).bind g
section
variable {K : PySem.W.Frag} {X : Cx} {t : TA} {f : AF} {r : List V → Hp → VK → Prop} {g : CF}
theorem se_cb (hr : SemC K r g) (h : SemA K t f) : SemE K (tCB r t) (eCB g f) := by
  intro Z σ H ρ c E e Q q
  obtain ⟨as, e1, e⟩ := Option.bind_eq_some_iff.mp e
  refine h Z σ H ρ as E e1 _ fun vs H1 s1 r1 => ?_
  exact hr (Pz Z σ ρ) H1 vs as c (E.mono s1).pok r1 e Q fun v H2 s2 r2 => q v H2 (s1.trans s2) (r2.pre s1)
variable {x : Str} {p pos : Pos} {e : Expr} {es : List Expr} {id T : String}
theorem ge_callB (hr : SemC K r g) (hc : CallR X (.builtin id) r) (hg : Gl X x) (hm : X.mg x = none) (hv : bootBuiltins x = some (.builtin id)) (ha : GA K X (e :: es) t f) (hn : x ≠ "__name__" := by decide) (hdb : (x == ("__debug__" : Str)) = false := by decide)
    (he : starEach (e :: es) X.env = (false, eval e X.env) :: starEach es X.env := by rfl) (hpl : (backTo pos (starEach es X.env)).any (·.1) = false := by rfl) : GE K X (.Call (.Name x p) (e :: es) [] pos) (tCB r t) (eCB g f) := ⟨pe_callB hc hg hm hv ha.p hn hdb he hpl, se_cb hr ha.s⟩
theorem ge_callTy (hr : SemC K r g) (hc : CallR X (.type T) r) (hg : Gl X x) (hm : X.mg x = none) (hv : bootBuiltins x = some (.type T)) (ha : GA K X (e :: es) t f) (hn : x ≠ "__name__" := by decide) (hdb : (x == ("__debug__" : Str)) = false := by decide)
    (he : starEach (e :: es) X.env = (false, eval e X.env) :: starEach es X.env := by rfl) (hpl : (backTo pos (starEach es X.env)).any (·.1) = false := by rfl) : GE K X (.Call (.Name x p) (e :: es) [] pos) (tCB r t) (eCB g f) := ⟨pe_callTy hc hg hm hv ha.p hn hdb he hpl, se_cb hr ha.s⟩
end
end Fb
set_option maxHeartbeats 2000000
set_option exponentiation.threshold 30000
/-! Fb2: operators and built-ins over data. -/
namespace Fb
open PySem PySem.Spec L2
variable [γ : GSt]

/-! ### data as the library's data -/
mutual
def toP : D → PyData
  | .non => .none
  | .bl b => .bool b
  | .int i => .int i
  | .str x => .str x
  | .tup ds => .tuple (toPL ds)
  | .lst ds => .list (toPL ds)
  | .dT _ => .none
  | .dK _ => .none
  | .obj _ => .none
  | .exc _ => .none
  | .ro _ => .none
  | .rf _ => .none
  | .bx _ _ _ => .none
def toPL : List D → List PyData
  | [] => []
  | d :: r => toP d :: toPL r
end
theorem toPL_map (ds : List D) : toPL ds = ds.map toP := by
  induction ds with
  | nil => rfl
  | cons d r ih => rw [toPL, ih]; rfl
/-- data of the library's kinds, at most n deep -/
def fit : Nat → D → Bool
  | _, .non => true
  | _, .bl _ => true
  | _, .int _ => true
  | _, .str x => PyData.strOk x
  | n + 1, .tup ds => ds.all (fit n)
  | n + 1, .lst ds => ds.all (fit n)
  | _, _ => false
theorem fit_mono : ∀ (n : Nat) (d : D), fit n d = true → fit (n + 1) d = true
  | n, .non, _ => by simp [fit]
  | n, .bl _, _ => by simp [fit]
  | n, .int _, _ => by simp [fit]
  | n, .str _, h => by simpa [fit] using h
  | 0, .tup _, h => by simp [fit] at h
  | 0, .lst _, h => by simp [fit] at h
  | n + 1, .tup ds, h => by
    simp only [fit, List.all_eq_true] at h ⊢
    exact fun d hd => fit_mono n d (h d hd)
  | n + 1, .lst ds, h => by
    simp only [fit, List.all_eq_true] at h ⊢
    exact fun d hd => fit_mono n d (h d hd)
  | _, .dT _, h => by simp [fit] at h
  | _, .dK _, h => by simp [fit] at h
  | _, .obj _, h => by simp [fit] at h
  | _, .exc _, h => by simp [fit] at h
  | _, .ro _, h => by simp [fit] at h
  | _, .rf _, h => by simp [fit] at h
  | _, .bx _ _ _, h => by simp [fit] at h
theorem canLayAll_of {n : Nat} (ih : ∀ d, fit n d = true → (toP d).canLay0 = true ∧ (toP d).depth ≤ n) : ∀ ds : List D, ds.all (fit n) = true → PyData.canLayAll0 (toPL ds) = true ∧ PyData.depthAll (toPL ds) ≤ n
  | [], _ => ⟨by simp [toPL, PyData.canLayAll0], by simp [toPL, PyData.depthAll]⟩
  | d :: r, h => by
    rw [List.all_cons, Bool.and_eq_true] at h
    obtain ⟨h1, h2⟩ := ih d h.1
    obtain ⟨h3, h4⟩ := canLayAll_of ih r h.2
    refine ⟨by simp [toPL, PyData.canLayAll0, h1, h3], ?_⟩
    simp only [toPL, PyData.depthAll]
    omega
theorem fit_lay : ∀ (n : Nat) (d : D), fit n d = true → (toP d).canLay0 = true ∧ (toP d).depth ≤ n
  | n, .non, _ => ⟨by simp [toP, PyData.canLay0], by simp [toP, PyData.depth]⟩
  | n, .bl _, _ => ⟨by simp [toP, PyData.canLay0], by simp [toP, PyData.depth]⟩
  | n, .int _, _ => ⟨by simp [toP, PyData.canLay0], by simp [toP, PyData.depth]⟩
  | n, .str _, h => ⟨by simpa [toP, PyData.canLay0, fit] using h, by simp [toP, PyData.depth]⟩
  | 0, .tup _, h => by simp [fit] at h
  | 0, .lst _, h => by simp [fit] at h
  | n + 1, .tup ds, h => by
    have q := canLayAll_of (n := n) (fun d => fit_lay n d) ds (by simpa [fit] using h)
    exact ⟨by simpa [toP, PyData.canLay0] using q.1, by simp only [toP, PyData.depth]; omega⟩
  | n + 1, .lst ds, h => by
    have q := canLayAll_of (n := n) (fun d => fit_lay n d) ds (by simpa [fit] using h)
    exact ⟨by simpa [toP, PyData.canLay0] using q.1, by simp only [toP, PyData.depth]; omega⟩
  | _, .dT _, h => by simp [fit] at h
  | _, .dK _, h => by simp [fit] at h
  | _, .obj _, h => by simp [fit] at h
  | _, .exc _, h => by simp [fit] at h
  | _, .ro _, h => by simp [fit] at h
  | _, .rf _, h => by simp [fit] at h
  | _, .bx _ _ _, h => by simp [fit] at h
theorem fit_shaped {n : Nat} {d : D} (h : fit n d = true) (hn : n ≤ 64) : SeqAt.shaped (toP d) = true := by
  obtain ⟨h1, h2⟩ := fit_lay n d h
  unfold SeqAt.shaped
  rw [h1, Bool.true_and]
  exact decide_eq_true (by omega)
section
variable {K : PySem.W.Frag} {H : Hp}
theorem dpAll_of {n : Nat} (ih : ∀ d v, fit n d = true → Rp K H v d → Dp K H v (toP d)) : ∀ (ds : List D) (vs : List V), ds.all (fit n) = true → RpL K H vs ds → DpAll K H vs (toPL ds)
  | [], _, _, h => by cases h; exact .nil
  | d :: r, _, f, h => by
    rw [List.all_cons, Bool.and_eq_true] at f
    cases h with
    | cons h1 h2 => exact .cons (ih d _ f.1 h1) (dpAll_of ih r _ f.2 h2)
theorem dp_of : ∀ (n : Nat) (d : D) (v : V), fit n d = true → Rp K H v d → Dp K H v (toP d)
  | n, .non, _, _, h => by cases h; exact .non
  | n, .bl _, _, _, h => by cases h; exact .bl _
  | n, .int _, _, _, h => by cases h; exact .int _
  | n, .str _, _, _, h => by cases h; exact .str _
  | 0, .tup _, _, f, _ => by simp [fit] at f
  | 0, .lst _, _, f, _ => by simp [fit] at f
  | n + 1, .tup ds, _, f, h => by
    cases h with
    | tup s r => exact .tup (.of s) (dpAll_of (fun d v => dp_of n d v) ds _ (by simpa [fit] using f) r)
  | n + 1, .lst ds, _, f, h => by
    cases h with
    | lst s r => exact .lst (SqL.of s) (dpAll_of (fun d v => dp_of n d v) ds _ (by simpa [fit] using f) r)
  | _, .dT _, _, f, _ => by simp [fit] at f
  | _, .dK _, _, f, _ => by simp [fit] at f
  | _, .obj _, _, f, _ => by simp [fit] at f
  | _, .exc _, _, f, _ => by simp [fit] at f
  | _, .ro _, _, f, _ => by simp [fit] at f
  | _, .rf _, _, f, _ => by simp [fit] at f
  | _, .bx _ _ _, _, f, _ => by simp [fit] at f
end
def eqD (d e : D) : Bool := PyData.eqv (toP d) (toP e)
def ltD (d e : D) : Bool := PySem.W.dataLt (toP d) (toP e)

/-! ### arithmetic -/
/-- bounds for great numbers: 2 ^ 20000, 2 ^ 8999 -/
@[irreducible] def bigN : Nat := 2 ^ 20000
@[irreducible] def bigQ : Nat := 2 ^ 8999
theorem bigN_eq : bigN = 2 ^ 20000 := by unfold bigN; rfl
theorem bigQ_eq : bigQ = 2 ^ 8999 := by unfold bigQ; rfl
theorem lt_bigN {n k : Nat} (h : n < 2 ^ k) (hk : k ≤ 20000) : n < bigN := by
  rw [bigN_eq]
  exact Nat.lt_of_lt_of_le h (Nat.pow_le_pow_right (by decide) hk)
theorem lt_bigQ {n k : Nat} (h : n < 2 ^ k) (hk : k ≤ 8999) : n < bigQ := by
  rw [bigQ_eq]
  exact Nat.lt_of_lt_of_le h (Nat.pow_le_pow_right (by decide) hk)
def i2 (c : Int → Int → Bool) (g : Int → Int → D) : VF := fun a b => match a, b with
  | ⟨.int i, _⟩, ⟨.int j, _⟩ => if c i j = true then some ⟨g i j, .av⟩ else none
  | _, _ => none
section
variable {K : PySem.W.Frag} {P Z : Addr → Prop} {H H' H0 : Hp}
theorem i2_some {c : Int → Int → Bool} {g : Int → Int → D} {a b r : R} (h : i2 c g a b = some r) : ∃ i m j n, a = ⟨.int i, m⟩ ∧ b = ⟨.int j, n⟩ ∧ c i j = true ∧ r = ⟨g i j, .av⟩ := by
  unfold i2 at h
  split at h
  · rename_i i m j n
    split at h
    · rename_i hc
      cases h
      exact ⟨i, m, j, n, rfl, rfl, hc, rfl⟩
    · cases h
  · cases h
theorem sv_i2 {C : Int → Int → Prop} {c : Int → Int → Bool} {gv : Int → Int → V} {g : Int → Int → D} (hc : ∀ i j, c i j = true → C i j) (hg : ∀ i j H, Rp K H (gv i j) (g i j)) : SemV K (rI C gv) (i2 c g) := by
  intro P H x y a b r hP ha hb h Q q
  obtain ⟨i, m, j, n, rfl, rfl, hcc, rfl⟩ := i2_some h
  exact ⟨i, j, ha.int, hb.int, hc i j hcc, q _ H (Same.refl H) (hg i j _)⟩
theorem sv_i0 {gv : Int → Int → V} {g : Int → Int → D} (hg : ∀ i j H, Rp K H (gv i j) (g i j)) : SemV K (rI0 gv) (i2 (fun _ _ => true) g) := by
  intro P H x y a b r hP ha hb h Q q
  obtain ⟨i, m, j, n, rfl, rfl, hcc, rfl⟩ := i2_some h
  exact ⟨i, j, ha.int, hb.int, q _ H (Same.refl H) (hg i j _)⟩
end
def vSub : VF := i2 (fun _ _ => true) fun i j => .int (i - j)
def vMul : VF := i2 (fun i j => decide (i.natAbs < bigN) && decide (j.natAbs < bigN)) fun i j => .int (i * j)
def vDiv : VF := i2 (fun _ j => decide (0 < j) && decide (j.natAbs < bigQ)) fun i j => .int (i / j)
def vMod : VF := i2 (fun _ j => decide (0 < j)) fun i j => .int (i % j)
def vPow : VF := i2 (fun i j => decide (0 ≤ j) && decide (j ≤ 1000000) && decide (i.natAbs < 2 ^ 64)) fun i j => .int (i ^ j.toNat)
def vShl : VF := i2 (fun i j => decide (0 ≤ j) && decide (j ≤ 1000000) && decide (i.natAbs < 2 ^ 64)) fun i j => .int (i * 2 ^ j.toNat)
def vShr : VF := i2 (fun _ j => decide (0 ≤ j)) fun i j => .int (i / 2 ^ j.toNat)
def vBitAnd : VF := i2 (fun _ _ => true) fun i j => .int (Builtin.bitAnd i j)
def vGt : VF := i2 (fun _ _ => true) fun i j => .bl (decide (j < i))
def vGe : VF := i2 (fun _ _ => true) fun i j => .bl (decide (j ≤ i))
def vLe : VF := i2 (fun _ _ => true) fun i j => .bl (decide (i ≤ j))
section
variable {K : PySem.W.Frag}
theorem sv_sub : SemV K (rI0 fun i j => .int (i - j)) vSub := sv_i0 fun _ _ _ => .int _
theorem sv_mul : SemV K (rI CMulX fun i j => .int (i * j)) vMul := sv_i2 (fun i j h => by
  simp only [Bool.and_eq_true, decide_eq_true_eq] at h
  rw [bigN_eq] at h
  exact mulx_ok h.1 h.2 (by decide)) fun _ _ _ => .int _
theorem sv_div : SemV K (rI CDivW fun i j => .int (i / j)) vDiv := sv_i2 (fun i j h => by
  simp only [Bool.and_eq_true, decide_eq_true_eq] at h
  rw [bigQ_eq] at h
  exact wide_div (i := i) h.1 h.2 (by decide) (by decide)) fun _ _ _ => .int _
theorem sv_mod : SemV K (rI (fun _ j => 0 < j) fun i j => .int (i % j)) vMod := sv_i2 (fun i j h => of_decide_eq_true h) fun _ _ _ => .int _
theorem sv_pow : SemV K (rI CPow fun i j => .int (i ^ j.toNat)) vPow := sv_i2 (fun i j h => by
  simp only [Bool.and_eq_true, decide_eq_true_eq] at h
  exact ⟨h.1.1, h.1.2, h.2⟩) fun _ _ _ => .int _
theorem sv_shl : SemV K (rI CPow fun i j => .int (i * 2 ^ j.toNat)) vShl := sv_i2 (fun i j h => by
  simp only [Bool.and_eq_true, decide_eq_true_eq] at h
  exact ⟨h.1.1, h.1.2, h.2⟩) fun _ _ _ => .int _
theorem sv_shr : SemV K (rI (fun _ j => 0 ≤ j) fun i j => .int (i / 2 ^ j.toNat)) vShr := sv_i2 (fun i j h => of_decide_eq_true h) fun _ _ _ => .int _
theorem sv_and : SemV K (rI0 fun i j => .int (Builtin.bitAnd i j)) vBitAnd := sv_i0 fun _ _ _ => .int _
theorem sv_gt : SemV K (rI0 fun i j => .bl (decide (j < i))) vGt := sv_i0 fun _ _ _ => .bl _
theorem sv_ge : SemV K (rI0 fun i j => .bl (decide (j ≤ i))) vGe := sv_i0 fun _ _ _ => .bl _
theorem sv_le : SemV K (rI0 fun i j => .bl (decide (i ≤ j))) vLe := sv_i0 fun _ _ _ => .bl _
def uNeg : UF := fun a => match a with
  | ⟨.int i, _⟩ => some ⟨.int (-i), .av⟩
  | _ => none
theorem su_neg : SemU K (rU fun i => .int (-i)) uNeg := by
  intro P H x a c hP ha h Q q
  unfold uNeg at h
  split at h
  · cases h
    exact ⟨_, ha.int, q _ H (Same.refl H) (.int _)⟩
  · cases h
end

/-! ### + of ints, texts, lists, tuples -/
def vAdd : VF := fun a b => match a, b with
  | ⟨.int i, _⟩, ⟨.int j, _⟩ => some ⟨.int (i + j), .av⟩
  | ⟨.str i, _⟩, ⟨.str j, _⟩ => if i.length + j.length ≤ 100000 then some ⟨.str (i ++ j), .av⟩ else none
  | ⟨.lst xs, m⟩, ⟨.lst ys, n⟩ => if xs.length + ys.length ≤ 100000 then some ⟨.lst (xs ++ ys), nw (itR ⟨.lst xs, m⟩ && itR ⟨.lst ys, n⟩)⟩ else none
  | ⟨.tup xs, m⟩, ⟨.tup ys, n⟩ => if xs.length + ys.length ≤ 100000 then some ⟨.tup (xs ++ ys), md (okR ⟨.tup xs, m⟩ && okR ⟨.tup ys, n⟩)⟩ else none
  | _, _ => none
def rAdd (K : PySem.W.Frag) : R2 := fun x y H Q => rI0 (fun i j => .int (i + j)) x y H Q ∨ (∃ i j, x = .str i ∧ y = .str j ∧ i.length + j.length ≤ sizeLine ∧ Q (.str (i ++ j)) H) ∨ rCat x y H Q ∨ rCatA K x y H Q
theorem op_addA {X : Cx} : OpR X (binaryOp .Add) (rAdd X.K) := op_add.or (op_add_str.or (op_cat.or op_catA))
theorem line100000 {n : Nat} (h : n ≤ 100000) : n ≤ sizeLine := Nat.le_trans h (by decide)
section
variable {K : PySem.W.Frag} {P : Addr → Prop} {H : Hp}
theorem itR_tup {ds : List D} {m : Md} (h : okR ⟨.tup ds, m⟩ = true) : itR ⟨.tup ds, m⟩ = true := by
  unfold okR at h
  unfold itR
  cases m with
  | bor => simpa [Md.ok, Md.it] using h
  | top => rfl
  | av => rfl
  | fr => rfl
theorem sv_add : SemV K (rAdd K) vAdd := by
  intro P H x y a b c hP ha hb h Q q
  unfold vAdd at h
  split at h
  · cases h
    exact .inl ⟨_, _, ha.int, hb.int, q _ H (Same.refl H) (.int _)⟩
  · split at h
    · rename_i hl
      cases h
      exact .inr (.inl ⟨_, _, ha.str, hb.str, line100000 hl, q _ H (Same.refl H) (.str _)⟩)
    · cases h
  · split at h
    · rename_i hl
      cases h
      obtain ⟨p, vs, rfl, h1, h2, h3⟩ := Opd.lstR hP ha
      obtain ⟨p', vs', rfl, k1, k2, k3⟩ := Opd.lstR hP hb
      refine .inr (.inr (.inl ⟨p, p', vs, vs', rfl, rfl, h1, k1, line100000 (by rw [h2.length, k2.length]; exact hl), fun l hl => ?_⟩))
      refine q _ _ (same_upd hl) (Res.newL (Sme.refl H) hl (h2.append k2) fun z => ?_)
      rw [Bool.and_eq_true] at z
      exact (h3 z.1).append (k3 z.2)
    · cases h
  · split at h
    · rename_i hl
      cases h
      obtain ⟨p, vs, rfl, h1, h2, h3⟩ := Opd.tupR hP ha
      obtain ⟨p', vs', rfl, k1, k2, k3⟩ := Opd.tupR hP hb
      refine .inr (.inr (.inr ⟨p, p', vs, vs', rfl, rfl, h1, k1, line100000 (by rw [h2.length, k2.length]; exact hl), fun e => ?_, fun _ e => ?_, fun _ _ l hl => ?_⟩))
      · subst e
        cases h2
        refine q _ _ (Same.refl H) (Res.item hb.rp fun z => ?_)
        rw [Bool.and_eq_true] at z
        exact hb.okR hP z.2
      · subst e
        cases k2
        refine q _ _ (Same.refl H) (Res.item ?_ fun z => ?_)
        · rw [List.append_nil]
          exact ha.rp
        · rw [Bool.and_eq_true] at z
          rw [List.append_nil]
          exact ha.okR hP z.1
      · refine q _ _ (same_upd hl) (Res.newT hP hl (h2.append k2) fun z => ?_)
        rw [Bool.and_eq_true] at z
        exact (h3 (itR_tup z.1)).append (k3 (itR_tup z.2))
    · cases h
  · cases h
end

/-! ### == and < of data -/
def vEq : VF := fun a b => if fit 6 a.d && fit 6 b.d then some (ofB (eqD a.d b.d)) else none
def vNe : VF := fun a b => if fit 6 a.d && fit 6 b.d then some (ofB (!eqD a.d b.d)) else none
def rLtD (K : PySem.W.Frag) : R2 := fun x y H Q => ∃ d e, Dp K H x d ∧ Dp K H y e ∧ PySem.W.alike d e = true ∧ d ≠ .none ∧ d.depth ≤ 64 ∧ Q (.bl (PySem.W.dataLt d e)) H
theorem op_ltD {X : Cx} (hu : X.A.units + 64 < cLine) : OpR X (compareOp .Lt) (rLtD X.K) := by
  intro pins s σ H x y v u Q I rx ry h
  obtain ⟨d, e, hd, he, ha, hn, hz, q⟩ := h
  obtain ⟨as, r1⟩ := Dp.reads I d x v hd rx
  obtain ⟨bs, r2⟩ := Dp.reads I e y u he ry
  exact PySem.W.rcLt_alike d e X.A s v u as bs r1 r2 ha hn (by have := Nat.min_le_left d.depth e.depth; omega) X.prog X.w X.xe (EP X pins σ Q) ⟨.bl _, H, I, rfl, q⟩
def vLt : VF := fun a b => match a, b with
  | ⟨.int i, _⟩, ⟨.int j, _⟩ => some (ofB (decide (i < j)))
  | ⟨.str i, _⟩, ⟨.str j, _⟩ => some (ofB (decide (i.cps.toList < j.cps.toList)))
  | ⟨.tup xs, _⟩, ⟨.tup ys, _⟩ => if fit 6 (.tup xs) && fit 6 (.tup ys) && PySem.W.alike (toP (.tup xs)) (toP (.tup ys)) then some (ofB (ltD (.tup xs) (.tup ys))) else none
  | _, _ => none
def rLtA (K : PySem.W.Frag) : R2 := fun x y H Q => rI0 (fun i j => .bl (decide (i < j))) x y H Q ∨ (∃ i j, x = .str i ∧ y = .str j ∧ Q (.bl (decide (i.cps.toList < j.cps.toList))) H) ∨ rLtD K x y H Q
theorem op_ltA {X : Cx} (hu : X.A.units + 64 < cLine) : OpR X (compareOp .Lt) (rLtA X.K) := op_lt.or (op_lt_str.or (op_ltD hu))
section
variable {K : PySem.W.Frag} {P : Addr → Prop} {H : Hp}
theorem sv_eq : SemV K (rEqD K) vEq := by
  intro P H x y a b c hP ha hb h Q q
  unfold vEq at h
  split at h
  · rename_i hf
    rw [Bool.and_eq_true] at hf
    cases h
    exact ⟨_, _, dp_of 6 _ _ hf.1 ha.rp, dp_of 6 _ _ hf.2 hb.rp, fit_shaped hf.1 (by decide), fit_shaped hf.2 (by decide), q _ H (Same.refl H) (.bl _)⟩
  · cases h
theorem sv_ne : SemV K (rNeD K) vNe := by
  intro P H x y a b c hP ha hb h Q q
  unfold vNe at h
  split at h
  · rename_i hf
    rw [Bool.and_eq_true] at hf
    cases h
    exact ⟨_, _, dp_of 6 _ _ hf.1 ha.rp, dp_of 6 _ _ hf.2 hb.rp, fit_shaped hf.1 (by decide), fit_shaped hf.2 (by decide), q _ H (Same.refl H) (.bl _)⟩
  · cases h
theorem sv_lt : SemV K (rLtA K) vLt := by
  intro P H x y a b c hP ha hb h Q q
  unfold vLt at h
  split at h
  · cases h
    exact .inl ⟨_, _, ha.int, hb.int, q _ H (Same.refl H) (.bl _)⟩
  · cases h
    exact .inr (.inl ⟨_, _, ha.str, hb.str, q _ H (Same.refl H) (.bl _)⟩)
  · split at h
    · rename_i hf
      rw [Bool.and_eq_true, Bool.and_eq_true] at hf
      cases h
      refine .inr (.inr ⟨_, _, dp_of 6 _ _ hf.1.1 ha.rp, dp_of 6 _ _ hf.1.2 hb.rp, hf.2, fun z => ?_, ?_, q _ H (Same.refl H) (.bl _)⟩)
      · simp [toP] at z
      · have := (fit_lay 6 _ hf.1.1).2
        omega
    · cases h
  · cases h
end
/-- is None, is not None -/
def nonD : D → Bool
  | .non => true
  | _ => false
def vIs : VF := fun a b => match b.d with
  | .non => some (ofB (nonD a.d))
  | _ => none
def vIsNot : VF := fun a b => match b.d with
  | .non => some (ofB (!nonD a.d))
  | _ => none
section
variable {K : PySem.W.Frag} {P : Addr → Prop} {H : Hp}
theorem isN_of {v : V} {d : D} (h : Rp K H v d) : decide (v = .non) = nonD d := by
  cases h <;> simp [nonD]
theorem notN_of {v : V} {d : D} (h : Rp K H v d) : (!decide (v = .non)) = (!nonD d) := by
  cases h <;> simp [nonD]
theorem sv_is : SemV K rIsN vIs := by
  intro P H x y a b c hP ha hb h Q q
  unfold vIs at h
  split at h
  · rename_i e
    cases h
    have hb := hb.rp
    rw [e] at hb
    cases hb
    refine ⟨rfl, ?_⟩
    rw [isN_of ha.rp]
    exact q _ H (Same.refl H) (.bl _)
  · cases h
theorem sv_isNot : SemV K rNotN vIsNot := by
  intro P H x y a b c hP ha hb h Q q
  unfold vIsNot at h
  split at h
  · rename_i e
    cases h
    have hb := hb.rp
    rw [e] at hb
    cases hb
    refine ⟨rfl, ?_⟩
    rw [notN_of ha.rp]
    exact q _ H (Same.refl H) (.bl _)
  · cases h
end
/-! ### in, not in: flat items -/
def atom : D → Bool
  | .non => true
  | .bl _ => true
  | .int _ => true
  | .str _ => true
  | _ => false
def eqA : D → D → Bool
  | .non, .non => true
  | .bl a, .bl b => a == b
  | .bl a, .int b => (if a then 1 else 0) == b
  | .int a, .bl b => a == (if b then 1 else 0)
  | .int a, .int b => a == b
  | .str a, .str b => a == b
  | _, _ => false
def inD (d : D) (ds : List D) : Bool := ds.any fun e => eqA e d
def vInG (neg : Bool) : VF := fun a b => match b with
  | ⟨.lst ds, _⟩ => if atom a.d && ds.all atom then some (ofB (if neg then !inD a.d ds else inD a.d ds)) else none
  | ⟨.tup ds, _⟩ => if atom a.d && ds.all atom then some (ofB (if neg then !inD a.d ds else inD a.d ds)) else none
  | _ => none
def vIn : VF := vInG false
def vNotIn : VF := vInG true
section
variable {K : PySem.W.Frag} {P : Addr → Prop} {H : Hp}
theorem flat_of {v : V} {d : D} (h : Rp K H v d) (a : atom d = true) : flatV v = true := by
  cases h <;> first | rfl | cases a
theorem flats_of : ∀ {ds : List D} {vs : List V}, RpL K H vs ds → ds.all atom = true → vs.all flatV = true
  | [], _, h, _ => by cases h; rfl
  | d :: r, _, h, a => by
    rw [List.all_cons, Bool.and_eq_true] at a
    cases h with
    | cons h1 h2 => rw [List.all_cons, flat_of h1 a.1, flats_of h2 a.2]; rfl
theorem eqV_of {v w : V} {d e : D} (h : Rp K H v d) (k : Rp K H w e) (a : atom d = true) (b : atom e = true) : eqV v w = eqA d e := by
  cases h <;> first
    | (cases a; done)
    | (cases k <;> first | (cases b; done) | rfl)
theorem inV_of {v : V} {d : D} (h : Rp K H v d) (a : atom d = true) : ∀ {ds : List D} {vs : List V}, RpL K H vs ds → ds.all atom = true → inV v vs = inD d ds
  | [], _, k, _ => by cases k; rfl
  | e :: r, _, k, b => by
    rw [List.all_cons, Bool.and_eq_true] at b
    cases k with
    | cons k1 k2 =>
      have ih := inV_of h a k2 b.2
      unfold inV at ih ⊢
      unfold inD at ih ⊢
      rw [List.any_cons, List.any_cons, ih, eqV_of k1 h b.1 a]
theorem sv_in (neg : Bool) : SemV K (rIn K neg) (vInG neg) := by
  intro P H x y a b c hP ha hb h Q q
  unfold vInG at h
  split at h
  · split at h
    · rename_i hf
      rw [Bool.and_eq_true] at hf
      cases h
      obtain ⟨p, vs, rfl, h1, h2, h3⟩ := hb.lst
      refine ⟨p, vs, rfl, .inl (SqL.of h1), flat_of ha.rp hf.1, flats_of h2 hf.2, ?_⟩
      rw [inV_of ha.rp hf.1 h2 hf.2]
      exact q _ H (Same.refl H) (.bl _)
    · cases h
  · split at h
    · rename_i hf
      rw [Bool.and_eq_true] at hf
      cases h
      obtain ⟨p, vs, rfl, h1, h2, h3⟩ := hb.tup
      refine ⟨p, vs, rfl, .inr h1, flat_of ha.rp hf.1, flats_of h2 hf.2, ?_⟩
      rw [inV_of ha.rp hf.1 h2 hf.2]
      exact q _ H (Same.refl H) (.bl _)
    · cases h
  · cases h
end
/-! ### subscripts -/
def vIx : VF := fun a b => match a, b with
  | ⟨.lst ds, m⟩, ⟨.int i, _⟩ => (atI ds i).map fun d => ⟨d, md (itR ⟨.lst ds, m⟩ || imm d)⟩
  | ⟨.tup ds, m⟩, ⟨.int i, _⟩ => (atI ds i).map fun d => ⟨d, md (itR ⟨.tup ds, m⟩ || imm d)⟩
  | ⟨.str z, _⟩, ⟨.int i, _⟩ => if z.length ≤ 100000 then (atI z.cps.toList i).map fun c => ⟨.str ⟨#[c]⟩, .av⟩ else none
  | ⟨.ro ns, _⟩, ⟨.int i, _⟩ => (atI ns i).map fun n => ⟨.int n, .av⟩
  | _, _ => none
theorem atI_rp {K : PySem.W.Frag} {H : Hp} {vs : List V} {ds : List D} {i : Int} {d : D} (h : RpL K H vs ds) (e : atI ds i = some d) : ∃ v, atI vs i = some v ∧ Rp K H v d := by
  unfold atI at e ⊢
  rw [h.length]
  cases q : ixN ds.length i with
  | none => rw [q] at e; cases e
  | some j =>
    rw [q] at e
    obtain ⟨v, h1, h2⟩ := h.get e
    exact ⟨v, h1, h2⟩
theorem atI_map {α β : Type} (f : α → β) (xs : List α) (i : Int) : atI (xs.map f) i = (atI xs i).map f := by
  unfold atI
  rw [List.length_map]
  cases ixN xs.length i with
  | none => rfl
  | some j => simp
theorem Res.itm {K : PySem.W.Frag} {P : Addr → Prop} {H0 H : Hp} {vs : List V} {ds : List D} {i : Nat} {d : D} {v : V} {bo : Bool} (hP : POk P H) (h2 : RpL K H vs ds) (h3 : bo = true → RpL K (hide P H) vs ds) (e : vs[i]? = some v) (e' : ds[i]? = some d) : Res K P H0 H v ⟨d, md (bo || imm d)⟩ := by
  obtain ⟨w, k1, k2⟩ := h2.get e'
  rw [e] at k1
  cases k1
  refine Res.item k2 fun z => ?_
  rw [Bool.or_eq_true] at z
  rcases z with z | z
  · obtain ⟨w', k1', k2'⟩ := (h3 z).get e'
    rw [e] at k1'
    cases k1'
    exact k2'
  · exact Rp.immK hP.stup _ _ z k2
theorem atI_ix {α : Type} {xs : List α} {i : Int} {v : α} (h : atI xs i = some v) : ∃ j, ixN xs.length i = some j ∧ xs[j]? = some v := by
  unfold atI at h
  cases e : ixN xs.length i with
  | none => rw [e] at h; cases h
  | some j => rw [e] at h; exact ⟨j, rfl, h⟩
section
variable {K : PySem.W.Frag} {P : Addr → Prop} {H : Hp}
theorem sv_ix : SemV K (rIx K) vIx := by
  intro P H x y a b c hP ha hb h Q q
  unfold vIx at h
  split at h
  · obtain ⟨d, e, rfl⟩ := Option.map_eq_some_iff.mp h
    obtain ⟨p, vs, rfl, h1, h2, h3⟩ := Opd.lstR hP ha
    obtain ⟨j, j1, j2⟩ := atI_ix e
    obtain ⟨v, k1, k2⟩ := h2.get j2
    refine .inl ⟨p, vs, _, v, rfl, hb.int, SqL.of h1, ?_, q v H (Same.refl H) (Res.itm hP h2 h3 k1 j2)⟩
    unfold atI
    rw [h2.length, j1]
    exact k1
  · obtain ⟨d, e, rfl⟩ := Option.map_eq_some_iff.mp h
    obtain ⟨p, vs, rfl, h1, h2, h3⟩ := Opd.tupR hP ha
    obtain ⟨j, j1, j2⟩ := atI_ix e
    obtain ⟨v, k1, k2⟩ := h2.get j2
    refine .inr (.inl ⟨p, vs, _, v, rfl, hb.int, h1, ?_, q v H (Same.refl H) (Res.itm hP h2 h3 k1 j2)⟩)
    unfold atI
    rw [h2.length, j1]
    exact k1
  · split at h
    · rename_i hz
      obtain ⟨c, e, rfl⟩ := Option.map_eq_some_iff.mp h
      exact .inr (.inr ⟨_, _, c, ha.str, hb.int, line100000 hz, e, q _ H (Same.refl H) (.str _)⟩)
    · cases h
  · obtain ⟨n, e, rfl⟩ := Option.map_eq_some_iff.mp h
    have ra := ha.rp
    cases ra with
    | ro s =>
      refine .inl ⟨_, _, _, .int n, rfl, hb.int, s, ?_, q _ H (Same.refl H) (.int n)⟩
      rw [atI_map, e]
      rfl
  · cases h
end
/-! ### slices -/
def cutG {α : Type} (xs : List α) (lo hi : Option Int) : List α := (xs.drop (HT.sIx xs.length 0 lo)).take (HT.sIx xs.length xs.length hi - HT.sIx xs.length 0 lo)
theorem cutG_rp {K : PySem.W.Frag} {H : Hp} {vs : List V} {ds : List D} (h : RpL K H vs ds) (lo hi : Option Int) : RpL K H (cutV vs lo hi) (cutG ds lo hi) := by
  unfold cutV cutG
  rw [h.length]
  exact (h.drop _).take _
theorem cutG_map {α β : Type} (f : α → β) (xs : List α) (lo hi : Option Int) : cutG (xs.map f) lo hi = (cutG xs lo hi).map f := by
  unfold cutG
  rw [List.length_map, List.map_take, List.map_drop]
theorem cutV_eq (xs : List V) (lo hi : Option Int) : cutV xs lo hi = cutG xs lo hi := rfl
theorem cutG_whole {α : Type} {xs : List α} {lo hi : Option Int} (h : HT.sIx xs.length 0 lo = 0 ∧ HT.sIx xs.length xs.length hi = xs.length) : cutG xs lo hi = xs := by
  unfold cutG
  rw [h.1, h.2]
  simp
def slF (a : R) (lo hi : Option Int) : Option R := match a with
  | ⟨.lst ds, m⟩ => some ⟨.lst (cutG ds lo hi), nw (itR ⟨.lst ds, m⟩)⟩
  | ⟨.tup ds, m⟩ => some ⟨.tup (cutG ds lo hi), md (okR ⟨.tup ds, m⟩)⟩
  | ⟨.str z, _⟩ => if z.length ≤ 100000 then some ⟨.str (cutS z lo hi), .av⟩ else none
  | ⟨.ro ns, _⟩ => some ⟨.lst ((cutG ns lo hi).map .int), .fr⟩
  | _ => none
def oNone : OF := fun _ => some none
def oSome (f : EF) : OF := fun ρ => match f ρ with
  | some ⟨.int i, _⟩ => some (some i)
  | _ => none
def eSl (fe : EF) (fl fh : OF) : EF := fun ρ => (fe ρ).bind fun a => (fl ρ).bind fun l => (fh ρ).bind fun h => slF a l h
def rSl (K : PySem.W.Frag) : V → Option Int → Option Int → Hp → VK → Prop := fun x lo hi H Q => rSlL K x lo hi H Q ∨ rSlA K x lo hi H Q ∨ rSlS x lo hi H Q
theorem sl_any {X : Cx} : SlR X (rSl X.K) := sl_list.or (sl_tupA.or sl_str)
section
variable {K : PySem.W.Frag} {P : Addr → Prop} {H : Hp} {X : Cx}
theorem so_none : SemO K tNoPart oNone := by
  intro Z σ H ρ o E e Q q
  cases e
  exact q H (Same.refl H)
theorem so_some {te : TE} {fe : EF} (h : SemE K te fe) : SemO K (tPart te) (oSome fe) := by
  intro Z σ H ρ o E e Q q
  unfold oSome at e
  split at e
  · rename_i i m e1
    cases e
    refine h Z σ H ρ _ E e1 _ fun v H1 s1 r1 => ?_
    exact ⟨i, (r1.opd E.pok).int, q H1 s1⟩
  · cases e
theorem slF_ok {P : Addr → Prop} {H : Hp} {x : V} {a c : R} {lo hi : Option Int} (hP : POk P H) (ha : Opd K P H x a) (h : slF a lo hi = some c) (Q : VK) (q : ∀ v H', Same K H H' → Res K P H H' v c → Q v H') : rSl K x lo hi H Q := by
  unfold slF at h
  split at h
  · cases h
    obtain ⟨p, vs, rfl, h1, h2, h3⟩ := Opd.lstR hP ha
    refine .inl ⟨p, vs, rfl, SqL.of h1, fun l hl => ?_⟩
    exact q _ _ (same_upd hl) (Res.newL (Sme.refl H) hl (cutG_rp h2 lo hi) fun z => cutG_rp (h3 z) lo hi)
  · cases h
    obtain ⟨p, vs, rfl, h1, h2, h3⟩ := Opd.tupR hP ha
    refine .inr (.inl ⟨p, vs, rfl, h1, fun w => ?_, fun _ l hl => ?_⟩)
    · rw [h2.length] at w
      rw [cutG_whole w] at q
      exact q _ _ (Same.refl H) (Res.item ha.rp fun z => ha.okR hP z)
    · exact q _ _ (same_upd hl) (Res.newT hP hl (cutG_rp h2 lo hi) fun z => cutG_rp (h3 (itR_tup z)) lo hi)
  · split at h
    · rename_i hz
      cases h
      exact .inr (.inr ⟨_, ha.str, line100000 hz, q _ H (Same.refl H) (.str _)⟩)
    · cases h
  · cases h
    have ra := ha.rp
    cases ra with
    | ro s =>
      refine .inl ⟨_, _, rfl, s, fun l hl => ?_⟩
      rw [cutV_eq, cutG_map]
      exact q _ _ (same_upd hl) (Res.newL (b := true) (Sme.refl H) hl (RpL.ofInts _) fun _ => RpL.ofInts _)
  · cases h
theorem se_sl {te : TE} {fe : EF} {tl th : TO} {fl fh : OF} (he : SemE K te fe) (hl : SemO K tl fl) (hh : SemO K th fh) : SemE K (tSl (rSl K) te tl th) (eSl fe fl fh) := by
  intro Z σ H ρ c E h Q q
  obtain ⟨a, h1, h⟩ := Option.bind_eq_some_iff.mp h
  obtain ⟨l, h2, h⟩ := Option.bind_eq_some_iff.mp h
  obtain ⟨u, h3, h⟩ := Option.bind_eq_some_iff.mp h
  refine he Z σ H ρ a E h1 _ fun x H1 s1 r1 => ?_
  refine hl Z σ H1 ρ l (E.mono s1) h2 _ fun H2 s2 => ?_
  refine hh Z σ H2 ρ u (E.mono (s1.trans s2)) h3 _ fun H3 s3 => ?_
  have s := (s1.trans s2).trans s3
  exact slF_ok (E.mono s).pok ((r1.opd E.pok).mono (s2.trans s3)) h _ fun v H4 s4 r4 => q v H4 (s.trans s4) (r4.pre s)
variable {e : Expr} {te : TE} {fe : EF} {lo hi : Option Expr} {tl th : TO} {fl fh : OF} {pos p2 : Pos}
theorem go_none : GO K X none tNoPart oNone := ⟨po_none, so_none⟩
theorem go_some (h : GE K X e te fe) : GO K X (some e) (tPart te) (oSome fe) := ⟨po_some h.p, so_some h.s⟩
theorem ge_sl (he : GE K X e te fe) (hl : GO K X lo tl fl) (hh : GO K X hi th fh) (hk : X.K = K := by rfl) : GE K X (.Subscript e (.Slice lo hi none p2) pos) (tSl (rSl K) te tl th) (eSl fe fl fh) := by
  subst hk
  exact ⟨pe_slice sl_any he.p hl.p hh.p, se_sl he.s hl.s hh.s⟩
theorem ge_ix {a b : Expr} {ta tb : TE} {fa fb : EF} (ha : GE K X a ta fa) (hb : GE K X b tb fb) (hs : PlainIx b := by intro _ _; rfl) (hk : X.K = K := by rfl) : GE K X (.Subscript a b pos) (tOp (rIx K) ta tb) (eOp vIx fa fb) := by
  subst hk
  exact ⟨pe_ix ix_seq ha.p hb.p hs, se_op sv_ix ha.s hb.s⟩
end

/-! ### built-ins -/
def cLen : CF := fun as => match as with
  | [⟨.lst ds, _⟩] => some ⟨.int ds.length, .av⟩
  | [⟨.tup ds, _⟩] => some ⟨.int ds.length, .av⟩
  | [⟨.str z, _⟩] => if z.length ≤ 100000 then some ⟨.int z.length, .av⟩ else none
  | [⟨.ro ns, _⟩] => some ⟨.int ns.length, .av⟩
  | _ => none
def rLenA (K : PySem.W.Frag) : List V → Hp → VK → Prop := fun xs H Q => ∃ x n, xs = [x] ∧ LenV K x H n ∧ Q (.int n) H
def cTup : CF := fun as => match as with
  | [⟨.lst ds, m⟩] => some ⟨.tup ds, md (itR ⟨.lst ds, m⟩)⟩
  | [⟨.tup ds, m⟩] => some ⟨.tup ds, md (okR ⟨.tup ds, m⟩)⟩
  | _ => none
def rTupA (K : PySem.W.Frag) : List V → Hp → VK → Prop := fun xs H Q => ∃ p ys, xs = [.ref p] ∧ ((SqL K H p ys ∧ ∀ l, H l = none → Q (.ref l) (upd H l (.tup ys))) ∨ (SqT K H p ys ∧ Q (.ref p) H))
def cLst : CF := fun as => match as with
  | [⟨.lst ds, m⟩] => some ⟨.lst ds, nw (itR ⟨.lst ds, m⟩)⟩
  | [⟨.tup ds, m⟩] => some ⟨.lst ds, nw (itR ⟨.tup ds, m⟩)⟩
  | _ => none
def rLstA (K : PySem.W.Frag) : List V → Hp → VK → Prop := fun xs H Q => ∃ p ys, xs = [.ref p] ∧ (SqL K H p ys ∨ SqT K H p ys) ∧ ∀ l, H l = none → Q (.ref l) (upd H l (.lst ys))
/-- the ints of a list -/
def intsD : List D → Option (List Int)
  | [] => some []
  | .int i :: r => (intsD r).map (i :: ·)
  | _ :: _ => none
@[simp] theorem intsD_map (ns : List Int) : intsD (ns.map D.int) = some ns := by
  induction ns with
  | nil => rfl
  | cons n r ih => rw [List.map_cons, intsD, ih]; rfl
theorem intsD_some : ∀ {ds : List D} {ns : List Int}, intsD ds = some ns → ds = ns.map D.int
  | [], ns, h => by cases h; rfl
  | .int i :: r, ns, h => by
    unfold intsD at h
    obtain ⟨ms, h1, h2⟩ := Option.map_eq_some_iff.mp h
    subst h2
    rw [intsD_some h1]; rfl
  | .non :: _, ns, h => by simp [intsD] at h
  | .bl _ :: _, ns, h => by simp [intsD] at h
  | .str _ :: _, ns, h => by simp [intsD] at h
  | .tup _ :: _, ns, h => by simp [intsD] at h
  | .lst _ :: _, ns, h => by simp [intsD] at h
  | .dT _ :: _, ns, h => by simp [intsD] at h
  | .dK _ :: _, ns, h => by simp [intsD] at h
  | .obj _ :: _, ns, h => by simp [intsD] at h
  | .exc _ :: _, ns, h => by simp [intsD] at h
  | .ro _ :: _, ns, h => by simp [intsD] at h
  | .rf _ :: _, ns, h => by simp [intsD] at h
  | .bx _ _ _ :: _, ns, h => by simp [intsD] at h
def cSum : CF := fun as => match as with
  | [⟨.lst ds, _⟩] => (intsD ds).map fun ns => ⟨.int ns.sum, .av⟩
  | _ => none
def bolsD : List D → Option (List Bool)
  | [] => some []
  | .bl i :: r => (bolsD r).map (i :: ·)
  | _ :: _ => none
@[simp] theorem bolsD_map (ns : List Bool) : bolsD (ns.map D.bl) = some ns := by
  induction ns with
  | nil => rfl
  | cons n r ih => rw [List.map_cons, bolsD, ih]; rfl
theorem bolsD_some : ∀ {ds : List D} {ns : List Bool}, bolsD ds = some ns → ds = ns.map D.bl
  | [], ns, h => by cases h; rfl
  | .bl i :: r, ns, h => by
    unfold bolsD at h
    obtain ⟨ms, h1, h2⟩ := Option.map_eq_some_iff.mp h
    subst h2
    rw [bolsD_some h1]; rfl
  | .non :: _, ns, h => by simp [bolsD] at h
  | .int _ :: _, ns, h => by simp [bolsD] at h
  | .str _ :: _, ns, h => by simp [bolsD] at h
  | .tup _ :: _, ns, h => by simp [bolsD] at h
  | .lst _ :: _, ns, h => by simp [bolsD] at h
  | .dT _ :: _, ns, h => by simp [bolsD] at h
  | .dK _ :: _, ns, h => by simp [bolsD] at h
  | .obj _ :: _, ns, h => by simp [bolsD] at h
  | .exc _ :: _, ns, h => by simp [bolsD] at h
  | .ro _ :: _, ns, h => by simp [bolsD] at h
  | .rf _ :: _, ns, h => by simp [bolsD] at h
  | .bx _ _ _ :: _, ns, h => by simp [bolsD] at h
def cAny : CF := fun as => match as with
  | [⟨.lst ds, _⟩] => (bolsD ds).map fun ns => ofB (ns.any id)
  | _ => none
def cAbs : CF := fun as => match as with
  | [⟨.int i, _⟩] => some ⟨.int (if i < 0 then -i else i), .av⟩
  | _ => none
def cInt : CF := fun as => match as with
  | [⟨.int i, _⟩] => some ⟨.int i, .av⟩
  | [⟨.bl b, _⟩] => some ⟨.int (if b then 1 else 0), .av⟩
  | _ => none
def cMax2 : CF := fun as => match as with
  | [⟨.int i, _⟩, ⟨.int j, _⟩] => some ⟨.int (if j > i then j else i), .av⟩
  | _ => none
def cMin2 : CF := fun as => match as with
  | [⟨.int i, _⟩, ⟨.int j, _⟩] => some ⟨.int (if j < i then j else i), .av⟩
  | _ => none
section
variable {K : PySem.W.Frag} {P : Addr → Prop} {H : Hp} {X : Cx}
theorem ResL.one {xs : List V} {a : R} (h : ResL K P H xs [a]) : ∃ x, xs = [x] ∧ Opd K P H x a := by
  cases h with
  | cons h t => cases t; exact ⟨_, rfl, h⟩
theorem ResL.two {xs : List V} {a b : R} (h : ResL K P H xs [a, b]) : ∃ x y, xs = [x, y] ∧ Opd K P H x a ∧ Opd K P H y b := by
  cases h with
  | cons h t =>
    obtain ⟨y, rfl, k⟩ := t.one
    exact ⟨_, y, rfl, h, k⟩
theorem sc_len : SemC K (rLenA K) cLen := by
  intro P H xs as c hP hA h Q q
  unfold cLen at h
  split at h
  · cases h
    obtain ⟨x, rfl, ha⟩ := hA.one
    obtain ⟨p, vs, rfl, h1, h2, h3⟩ := ha.lst
    exact ⟨_, _, rfl, .inl ⟨vs, SqL.of h1, h2.length.symm⟩, q _ H (Same.refl H) (.int _)⟩
  · cases h
    obtain ⟨x, rfl, ha⟩ := hA.one
    obtain ⟨p, vs, rfl, h1, h2, h3⟩ := ha.tup
    exact ⟨_, _, rfl, .inr ⟨vs, h1, h2.length.symm⟩, q _ H (Same.refl H) (.int _)⟩
  · split at h
    · rename_i hz
      cases h
      obtain ⟨x, rfl, ha⟩ := hA.one
      cases ha.str
      exact ⟨_, _, rfl, ⟨line100000 hz, rfl⟩, q _ H (Same.refl H) (.int _)⟩
    · cases h
  · cases h
    obtain ⟨x, rfl, ha⟩ := hA.one
    have ra := ha.rp
    cases ra with
    | ro s => exact ⟨_, _, rfl, .inl ⟨_, s, (List.length_map _).symm⟩, q _ H (Same.refl H) (.int _)⟩
  · cases h
theorem sc_tup : SemC K (rTupA K) cTup := by
  intro P H xs as c hP hA h Q q
  unfold cTup at h
  split at h
  · cases h
    obtain ⟨x, rfl, ha⟩ := hA.one
    obtain ⟨p, vs, rfl, h1, h2, h3⟩ := Opd.lstR hP ha
    exact ⟨p, vs, rfl, .inl ⟨SqL.of h1, fun l hl => q _ _ (same_upd hl) (Res.newT hP hl h2 h3)⟩⟩
  · cases h
    obtain ⟨x, rfl, ha⟩ := hA.one
    obtain ⟨p, vs, rfl, h1, h2, h3⟩ := ha.tup
    exact ⟨p, vs, rfl, .inr ⟨h1, q _ _ (Same.refl H) (Res.item ha.rp fun z => ha.okR hP z)⟩⟩
  · cases h
theorem sc_lst : SemC K (rLstA K) cLst := by
  intro P H xs as c hP hA h Q q
  unfold cLst at h
  split at h
  · cases h
    obtain ⟨x, rfl, ha⟩ := hA.one
    obtain ⟨p, vs, rfl, h1, h2, h3⟩ := Opd.lstR hP ha
    exact ⟨p, vs, rfl, .inl (SqL.of h1), fun l hl => q _ _ (same_upd hl) (Res.newL (Sme.refl H) hl h2 h3)⟩
  · cases h
    obtain ⟨x, rfl, ha⟩ := hA.one
    obtain ⟨p, vs, rfl, h1, h2, h3⟩ := Opd.tupR hP ha
    exact ⟨p, vs, rfl, .inr h1, fun l hl => q _ _ (same_upd hl) (Res.newL (Sme.refl H) hl h2 h3)⟩
  · cases h
theorem sc_sum : SemC K (rSum K) cSum := by
  intro P H xs as c hP hA h Q q
  unfold cSum at h
  split at h
  · obtain ⟨ns, e, rfl⟩ := Option.map_eq_some_iff.mp h
    cases intsD_some e
    obtain ⟨x, rfl, ha⟩ := hA.one
    obtain ⟨p, vs, rfl, h1, h2, h3⟩ := ha.lst
    cases h2.ints
    exact ⟨p, ns, rfl, SqL.of h1, q _ H (Same.refl H) (.int _)⟩
  · cases h
theorem RpL.bols : ∀ {vs : List V} {ns : List Bool}, RpL K H vs (ns.map D.bl) → vs = ns.map V.bl
  | vs, [], h => by cases h; rfl
  | vs, n :: ns, h => by
    cases h with
    | cons r t => cases r; rw [RpL.bols t]; rfl
theorem sc_any : SemC K (rAny K) cAny := by
  intro P H xs as c hP hA h Q q
  unfold cAny at h
  split at h
  · obtain ⟨ns, e, rfl⟩ := Option.map_eq_some_iff.mp h
    cases bolsD_some e
    obtain ⟨x, rfl, ha⟩ := hA.one
    obtain ⟨p, vs, rfl, h1, h2, h3⟩ := ha.lst
    cases RpL.bols h2
    exact ⟨p, ns, rfl, SqL.of h1, q _ H (Same.refl H) (.bl _)⟩
  · cases h
theorem sc_abs : SemC K (fun xs H Q => ∃ i, xs = [.int i] ∧ Q (.int (if i < 0 then -i else i)) H) cAbs := by
  intro P H xs as c hP hA h Q q
  unfold cAbs at h
  split at h
  · cases h
    obtain ⟨x, rfl, ha⟩ := hA.one
    cases ha.int
    exact ⟨_, rfl, q _ H (Same.refl H) (.int _)⟩
  · cases h
theorem sc_int : SemC K (fun xs H Q => (∃ i, xs = [.int i] ∧ Q (.int i) H) ∨ ∃ k, xs = [.bl k] ∧ Q (.int (if k then 1 else 0)) H) cInt := by
  intro P H xs as c hP hA h Q q
  unfold cInt at h
  split at h
  · cases h
    obtain ⟨x, rfl, ha⟩ := hA.one
    cases ha.int
    exact .inl ⟨_, rfl, q _ H (Same.refl H) (.int _)⟩
  · cases h
    obtain ⟨x, rfl, ha⟩ := hA.one
    cases ha.bl
    exact .inr ⟨_, rfl, q _ H (Same.refl H) (.int _)⟩
  · cases h
theorem sc_max2 : SemC K (fun xs H Q => ∃ i j, xs = [.int i, .int j] ∧ Q (.int (if j > i then j else i)) H) cMax2 := by
  intro P H xs as c hP hA h Q q
  unfold cMax2 at h
  split at h
  · cases h
    obtain ⟨x, y, rfl, ha, hb⟩ := hA.two
    cases ha.int
    cases hb.int
    exact ⟨_, _, rfl, q _ H (Same.refl H) (.int _)⟩
  · cases h
theorem sc_min2 : SemC K (fun xs H Q => ∃ i j, xs = [.int i, .int j] ∧ Q (.int (if j < i then j else i)) H) cMin2 := by
  intro P H xs as c hP hA h Q q
  unfold cMin2 at h
  split at h
  · cases h
    obtain ⟨x, y, rfl, ha, hb⟩ := hA.two
    cases ha.int
    cases hb.int
    exact ⟨_, _, rfl, q _ H (Same.refl H) (.int _)⟩
  · cases h
end
/-! ### isinstance(e, T), T a built-in type -/
def kindD : D → String
  | .non => "NoneType"
  | .bl _ => "bool"
  | .int _ => "int"
  | .str _ => "str"
  | .tup _ => "tuple"
  | .lst _ => "list"
  | .dT _ => "dict"
  | .dK _ => "dict"
  | .obj _ => "object"
  | .exc _ => "exception"
  | .ro _ => "list"
  | .rf _ => "object"
  | .bx _ _ _ => "object"
/-- its kind is known -/
def knd : D → Bool
  | .obj _ => false
  | .exc _ => false
  | .ro _ => false
  | .rf _ => false
  | .bx _ _ _ => false
  | .dT _ => false
  | .dK _ => false
  | _ => true
def isiD (d : D) (T : String) : Bool := kindD d == T || (kindD d == "bool" && T == "int")
def eIsi (T : String) (f : EF) : EF := fun ρ => (f ρ).bind fun a => if knd a.d then some (ofB (isiD a.d T)) else none
section
variable {K : PySem.W.Frag} {P : Addr → Prop} {H : Hp} {X : Cx}
/-- what isinstance answers for the kinds that data have -/
def KitOk (T : String) : Prop := kitB "NoneType" T = some (isiD .non T) ∧ kitB "bool" T = some (isiD (.bl true) T) ∧ kitB "int" T = some (isiD (.int 0) T) ∧ kitB "str" T = some (isiD (.str "") T) ∧ kitB "tuple" T = some (isiD (.tup []) T) ∧ kitB "list" T = some (isiD (.lst []) T) ∧ kitB "dict" T = some (isiD (.dK []) T)
theorem kit_int : KitOk "int" := by unfold KitOk; decide +kernel
theorem kit_bool : KitOk "bool" := by unfold KitOk; decide +kernel
theorem kit_str : KitOk "str" := by unfold KitOk; decide +kernel
theorem kit_tuple : KitOk "tuple" := by unfold KitOk; decide +kernel
theorem kit_list : KitOk "list" := by unfold KitOk; decide +kernel
theorem isi_of {T : String} {v : V} {d : D} (k : KitOk T) (h : Rp K H v d) (hk : knd d = true) : ∃ t, TyX K H v t ∧ PySem.W.kitOne K t (.type T) = some (isiD d T) := by
  obtain ⟨k1, k2, k3, k4, k5, k6, k7⟩ := k
  cases h with
  | non => exact ⟨_, .base .non, kit_ty k1⟩
  | bl b => exact ⟨_, .base (.bl b), kit_ty k2⟩
  | int i => exact ⟨_, .base (.int i), kit_ty k3⟩
  | str x => exact ⟨_, .base (.str x), kit_ty k4⟩
  | tup s r =>
    exact ⟨_, .base (.tup s), kit_ty k5⟩
  | lst s r => exact ⟨_, .base (.lst s), kit_ty k6⟩
  | dT s r => cases hk
  | dK s r => cases hk
  | obj s => cases hk
  | exc s z d => cases hk
  | ro s => cases hk
  | rf a => cases hk
  | bx s q => cases hk
theorem se_isi {T : String} {ta : TE} {fa : EF} (k : KitOk T) (h : SemE K ta fa) : SemE K (tCB (rIsi K) (tCons ta (tCons (tC (.ty T)) tNil))) (eIsi T fa) := by
  intro Z σ H ρ c E e Q q
  obtain ⟨a, e1, e⟩ := Option.bind_eq_some_iff.mp e
  split at e
  · rename_i hk
    cases e
    refine h Z σ H ρ a E e1 _ fun v H1 s1 r1 => ?_
    obtain ⟨t, h1, h2⟩ := isi_of k (r1.opd E.pok).rp hk
    exact ⟨v, .ty T, t, .type T, _, rfl, .ty T, h1, h2, q _ H1 s1 (.bl _)⟩
  · cases e
theorem ge_isi {T : String} {x : Str} {a : Expr} {ta : TE} {fa : EF} {p p2 pos : Pos} (k : KitOk T) (hg : Gl X "isinstance") (hm : X.mg "isinstance" = none) (hg2 : Gl X x) (hm2 : X.mg x = none) (hv : bootBuiltins x = some (.type T)) (ha : GE K X a ta fa)
    (hb : bootBuiltins "isinstance" = some (.builtin "isinstance") := by decide +kernel) (hn : x ≠ "__name__" := by decide) (hdb : (x == ("__debug__" : Str)) = false := by decide)
    (h1 : starEach [a, .Name x p2] X.env = (false, eval a X.env) :: starEach [.Name x p2] X.env := by rfl) (h2 : starEach [.Name x p2] X.env = (false, eval (.Name x p2) X.env) :: starEach [] X.env := by rfl) (hpl : (backTo pos (starEach [.Name x p2] X.env)).any (·.1) = false := by rfl) (hk : X.K = K := by rfl) :
    GE K X (.Call (.Name "isinstance" p) [a, .Name x p2] [] pos) (tCB (rIsi K) (tCons ta (tCons (tC (.ty T)) tNil))) (eIsi T fa) := by
  subst hk
  exact ⟨pe_callB call_isi hg hm hb (pa_cons ha.p (pa_cons (pe_bltn (v := .ty T) hg2 hm2 hv rfl hn hdb) pa_nil h2) h1) (by decide) (by decide) h1 hpl, se_isi k ha.s⟩
end
end Fb
set_option maxHeartbeats 2000000
/-! Fb3: statements, loops, comprehensions, calls of defs. -/
namespace Fb
open PySem PySem.Spec L2
variable [γ : GSt]

inductive Fl where
  | nx (ρ : En) | rt (d : D) (fr : Bool) | bk (ρ : En) | ct (ρ : En) | ex (n : Str)
  /-- what is given back leans on nothing that stood before and may change -/
  | rn (d : D)
abbrev SF := En → Option Fl
/-- a def's answer: data or an exception by its class's name; without an own object of its caller's -/
def RetOk (K : PySem.W.Frag) (Z : Addr → Prop) (B H' : Hp) (v : V) (d : D) (fr : Bool) : Prop :=
  Sme B H' ∧ TabsK K H' ∧ match fr with
  | true => ∃ a, v = .ref a ∧ B a = none ∧ OwnRp K (fun b => Z b ∨ b = a) H' a d
  | false => Rp K (hide Z H') v d
/-- what stood in B and may change -/
def Old (B : Hp) : Addr → Prop := fun b => ∃ o, B b = some o ∧ Mut (some o) ∧ ∀ C dx, o ≠ .ins C dx []
def RnOk (K : PySem.W.Frag) (B H' : Hp) (v : V) (d : D) : Prop := Sme B H' ∧ TabsK K H' ∧ Rp K (hide (Old B) H') v d
theorem Old.mono {B B' : Hp} (s : Sme B B') {b : Addr} (h : Old B b) : Old B' b := let ⟨o, h1, h2, h3⟩ := h; ⟨o, s.get _ _ h1 (Mut.nt h2), h2, h3⟩
theorem RnOk.base {K : PySem.W.Frag} {B B' H : Hp} {v : V} {d : D} (s : Sme B B') (h : RnOk K B' H v d) : RnOk K B H v d := ⟨s.trans h.1, h.2.1, Rp.mono (hide_mono (fun b _ _ q => Old.mono s q) fun _ _ _ q => q) _ _ h.2.2⟩
def Want (K : PySem.W.Frag) (W : Str → Hp → Prop) (Z : Addr → Prop) (B : Hp) (Dn : Ends) : Fl → Prop
  | .nx ρ => ∀ σ H, StOk K Z B H σ ρ → Dn.nx σ H
  | .bk ρ => ∀ σ H, StOk K Z B H σ ρ → Dn.bk σ H
  | .ct ρ => ∀ σ H, StOk K Z B H σ ρ → Dn.ct σ H
  | .rt d fr => ∀ v H, RetOk K Z B H v d fr → Dn.rt v H
  | .ex n => ∀ H, Sme B H → TabsK K H → W n H
  | .rn d => ∀ v H, RnOk K B H v d → Dn.rt v H
def SemS (K : PySem.W.Frag) (W : Str → Hp → Prop) (t : TS) (f : SF) : Prop :=
  ∀ (Z : Addr → Prop) (B : Hp) (σ : L2.St) (H : Hp) (ρ : En) (fl : Fl), StOk K Z B H σ ρ → f ρ = some fl → ∀ Dn : Ends, Want K W Z B Dn fl → t Dn σ H
structure GS (K : PySem.W.Frag) (X : Cx) (W : Str → Hp → Prop) (st : Stmt) (t : TS) (f : SF) : Prop where
  p : PS X st t
  s : SemS K W t f
structure GSs (K : PySem.W.Frag) (X : Cx) (W : Str → Hp → Prop) (st : List Stmt) (t : TS) (f : SF) : Prop where
  p : PSs X st t
  s : SemS K W t f

/-! ### stores -/
section
variable {K : PySem.W.Frag} {Z P : Addr → Prop} {B H H0 H' : Hp} {σ : L2.St} {ρ : En} {i : Nat} {v : V} {d : D} {a : Addr} {r : R}
theorem set_get_ne {α : Type} {l : List α} {i j : Nat} {x : α} (h : j ≠ i) : (l.set i x)[j]? = l[j]? := List.getElem?_set_ne (Ne.symm h)
theorem ow_setSh (h : Ow (σ.set i (some v)) (ρ.set i (.sh d)) a) : Ow σ ρ a := by
  obtain ⟨j, e, h1, h2⟩ := h
  by_cases hj : j = i
  · subst hj
    rw [List.getElem?_set] at h1
    simp only [if_true] at h1
    split at h1 <;> cases h1
  · rw [set_get_ne hj] at h1 h2
    exact ⟨j, e, h1, h2⟩
theorem StOk.setSh (S : StOk K Z B H σ ρ) (hv : Rp K (hide (Pz Z σ ρ) H) v d) (hi : i < ρ.length) : StOk K Z B H (σ.set i (some v)) (ρ.set i (.sh d)) := by
  have less : ∀ b, Pz Z (σ.set i (some v)) (ρ.set i (.sh d)) b → Pz Z σ ρ b := fun b q => q.elim .inl fun z => .inr (ow_setSh z)
  have e : Sme (hide (Pz Z σ ρ) H) (hide (Pz Z (σ.set i (some v)) (ρ.set i (.sh d))) H) := hide_mono (fun b _ _ q => less b q) fun _ _ _ q => q
  have E := S.env
  refine ⟨⟨by rw [List.length_set, List.length_set]; exact E.len, fun j x hj => ?_, fun j x hj => ?_, fun j k x y b h1 h2 h3 h4 => ?_, E.zok, fun b q => E.zdis b (ow_setSh q), E.tab⟩, S.base, fun b q => S.free b (ow_setSh q)⟩
  · by_cases c : j = i
    · subst c
      rw [List.getElem?_set_self hi] at hj
      cases hj
      exact ⟨v, List.getElem?_set_self (by rw [E.len]; exact hi), Rp.mono e _ _ hv⟩
    · rw [set_get_ne c] at hj ⊢
      obtain ⟨w, h1, h2⟩ := E.sh j x hj
      exact ⟨w, h1, Rp.mono e _ _ h2⟩
  · by_cases c : j = i
    · subst c
      rw [List.getElem?_set_self hi] at hj
      cases hj
    · rw [set_get_ne c] at hj ⊢
      obtain ⟨w, h1, h2⟩ := E.own j x hj
      exact ⟨w, h1, h2.via (fun _ q _ => q) e⟩
  · have hne : ∀ m z, (ρ.set i (.sh d))[m]? = some (.own z) → m ≠ i := fun m z q c => by
      subst c
      rw [List.getElem?_set_self hi] at q
      cases q
    have c1 := hne j x h1
    have c2 := hne k y h2
    rw [set_get_ne c1] at h1 h3
    rw [set_get_ne c2] at h2 h4
    exact E.inj j k x y b h1 h2 h3 h4
/-- a new object becomes one's own -/
theorem StOk.setOwn (S : StOk K Z B H0 σ ρ) (s : Same K H0 H) (ha : H0 a = none) (ho : OwnRp K (fun b => Pz Z σ ρ b ∨ b = a) H a d) (hi : i < ρ.length) : StOk K Z B H (σ.set i (some (.ref a))) (ρ.set i (.own d)) := by
  have E := S.env
  have ow : ∀ b, Ow (σ.set i (some (.ref a))) (ρ.set i (.own d)) b → Ow σ ρ b ∨ b = a := fun b ⟨j, x, h1, h2⟩ => by
    by_cases c : j = i
    · subst c
      rw [List.getElem?_set_self (by rw [E.len]; exact hi)] at h2
      cases h2
      exact .inr rfl
    · rw [set_get_ne c] at h1 h2
      exact .inl ⟨j, x, h1, h2⟩
  have less : ∀ b, Pz Z (σ.set i (some (.ref a))) (ρ.set i (.own d)) b → Pz Z σ ρ b ∨ b = a := fun b q => q.elim (fun z => .inl (.inl z)) fun z => (ow b z).imp .inr id
  have e : Sme (hide (Pz Z σ ρ) H0) (hide (Pz Z (σ.set i (some (.ref a))) (ρ.set i (.own d))) H) := hide_via (fun b o q z => (less b z).elim id fun c => by rw [c, ha] at q; cases q) s.toSme
  have aow : ∀ b, Ow σ ρ b → b ≠ a := fun b q c => by
    obtain ⟨o, h1, _⟩ := E.pok b (.inr q)
    rw [c, ha] at h1
    cases h1
  refine ⟨⟨by rw [List.length_set, List.length_set]; exact E.len, fun j x hj => ?_, fun j x hj => ?_, fun j k x y b h1 h2 h3 h4 => ?_, E.zok.mono s.toSme, fun b q => ?_, E.tab.mono s⟩, S.base.trans s.toSme, fun b q => ?_⟩
  · by_cases c : j = i
    · subst c
      rw [List.getElem?_set_self hi] at hj
      cases hj
    · rw [set_get_ne c] at hj ⊢
      obtain ⟨w, h1, h2⟩ := E.sh j x hj
      exact ⟨w, h1, Rp.mono e _ _ h2⟩
  · by_cases c : j = i
    · subst c
      rw [List.getElem?_set_self hi] at hj
      cases hj
      exact ⟨a, List.getElem?_set_self (by rw [E.len]; exact hi), ho.less less⟩
    · rw [set_get_ne c] at hj ⊢
      obtain ⟨w, h1, h2⟩ := E.own j x hj
      exact ⟨w, h1, h2.via (s.get w) e⟩
  · have key : ∀ m z, m ≠ i → (ρ.set i (.own d))[m]? = some (.own z) → (σ.set i (some (.ref a)))[m]? = some (some (.ref b)) → b ≠ a := fun m z c q1 q2 => by
      rw [set_get_ne c] at q1 q2
      exact aow b ⟨m, z, q1, q2⟩
    by_cases c1 : j = i
    · by_cases c2 : k = i
      · rw [c1, c2]
      · have nb := key k y c2 h2 h4
        subst c1
        rw [List.getElem?_set_self (by rw [E.len]; exact hi)] at h3
        cases h3
        exact absurd rfl nb
    · by_cases c2 : k = i
      · have nb := key j x c1 h1 h3
        subst c2
        rw [List.getElem?_set_self (by rw [E.len]; exact hi)] at h4
        cases h4
        exact absurd rfl nb
      · rw [set_get_ne c1] at h1 h3
        rw [set_get_ne c2] at h2 h4
        exact E.inj j k x y b h1 h2 h3 h4
  · intro z
    rcases ow b q with q | q
    · exact E.zdis b q z
    · obtain ⟨o, h1, _⟩ := E.zok b z
      rw [q, ha] at h1
      cases h1
  · rcases ow b q with q | q
    · exact S.free b q
    · rw [q]
      exact Sme.none S.base ha
/-- one's own object is changed -/
theorem StOk.upd {d' : D} {o : HO} (S : StOk K Z B H σ ρ) (h1 : ρ[i]? = some (.own d)) (h2 : σ[i]? = some (some (.ref a))) (ho : OwnRp K (Pz Z σ ρ) (L2.upd H a o) a d') : StOk K Z B (L2.upd H a o) σ (ρ.set i (.own d')) := by
  have E := S.env
  have hi : i < ρ.length := (List.getElem?_eq_some_iff.mp h1).1
  have oa : Ow σ ρ a := ⟨i, d, h1, h2⟩
  have owe : ∀ b, Ow σ (ρ.set i (.own d')) b ↔ Ow σ ρ b := fun b => by
    constructor
    · rintro ⟨j, x, q1, q2⟩
      by_cases c : j = i
      · subst c
        exact ⟨j, d, h1, q2⟩
      · rw [set_get_ne c] at q1
        exact ⟨j, x, q1, q2⟩
    · rintro ⟨j, x, q1, q2⟩
      by_cases c : j = i
      · subst c
        exact ⟨j, d', List.getElem?_set_self hi, q2⟩
      · exact ⟨j, x, by rw [set_get_ne c]; exact q1, q2⟩
  have pze : Pz Z σ (ρ.set i (.own d')) = Pz Z σ ρ := by
    funext b
    exact propext ⟨fun q => q.imp id (owe b).mp, fun q => q.imp id (owe b).mpr⟩
  have e : Sme (hide (Pz Z σ ρ) H) (hide (Pz Z σ ρ) (L2.upd H a o)) := hide_mono (fun _ _ _ q => q) fun b u q z => by
    rw [upd_ne fun c => q (by rw [c]; exact .inr oa)]
    exact z
  refine ⟨⟨by rw [List.length_set]; exact E.len, fun j x hj => ?_, fun j x hj => ?_, fun j k x y b q1 q2 q3 q4 => ?_, E.zok.upd (E.zdis a oa), fun b q => E.zdis b ((owe b).mp q), by obtain ⟨w, k1, k2⟩ := E.own i d h1; rw [h2] at k1; cases k1; obtain ⟨u, k3, k4⟩ := k2.ld; exact E.tab.upd k3 k4⟩, S.base.updN (S.free a oa), fun b q => S.free b ((owe b).mp q)⟩
  · rw [pze]
    have c : j ≠ i := fun c => by
      subst c
      rw [List.getElem?_set_self hi] at hj
      cases hj
    rw [set_get_ne c] at hj
    obtain ⟨w, k1, k2⟩ := E.sh j x hj
    exact ⟨w, k1, Rp.mono e _ _ k2⟩
  · rw [pze]
    by_cases c : j = i
    · subst c
      rw [List.getElem?_set_self hi] at hj
      cases hj
      exact ⟨a, h2, ho⟩
    · rw [set_get_ne c] at hj
      obtain ⟨w, k1, k2⟩ := E.own j x hj
      have wa : w ≠ a := fun z => c (E.inj j i x d a hj h1 (by rw [← z]; exact k1) h2)
      exact ⟨w, k1, k2.via (fun u q _ => by rw [upd_ne wa]; exact q) e⟩
  · have key : ∀ (m : Nat) (z : D), (ρ.set i (Sl.own d'))[m]? = some (Sl.own z) → ∃ z', ρ[m]? = some (Sl.own z') := fun m z q => by
      by_cases c : m = i
      · subst c; exact ⟨d, h1⟩
      · rw [set_get_ne c] at q; exact ⟨z, q⟩
    obtain ⟨x', q1⟩ := key j x q1
    obtain ⟨y', q2⟩ := key k y q2
    exact E.inj j k x' y' b q1 q2 q3 q4
/-- one's own object is shared from here on -/
theorem StOk.freeze (S : StOk K Z B H σ ρ) (h1 : ρ[i]? = some (.own d)) : StOk K Z B H σ (ρ.set i (.sh d)) := by
  obtain ⟨a, h2, h3⟩ := S.env.own i d h1
  have hi : i < ρ.length := (List.getElem?_eq_some_iff.mp h1).1
  have es : σ.set i (some (.ref a)) = σ := by
    apply List.ext_getElem?
    intro j
    by_cases c : j = i
    · subst c
      rw [h2, List.getElem?_set_self (by rw [S.env.len]; exact hi)]
    · rw [set_get_ne c]
  have E := S.env
  have less : ∀ b, Ow σ (ρ.set i (.sh d)) b → Ow σ ρ b := fun b ⟨j, x, q1, q2⟩ => by
    have c : j ≠ i := fun c => by
      subst c
      rw [List.getElem?_set_self hi] at q1
      cases q1
    rw [set_get_ne c] at q1
    exact ⟨j, x, q1, q2⟩
  have na : ¬ Ow σ (ρ.set i (.sh d)) a := fun ⟨j, x, q1, q2⟩ => by
    have c : j ≠ i := fun c => by
      subst c
      rw [List.getElem?_set_self hi] at q1
      cases q1
    rw [set_get_ne c] at q1
    exact c (E.inj j i x d a q1 h1 q2 h2)
  have lp : ∀ b, Pz Z σ (ρ.set i (.sh d)) b → Pz Z σ ρ b := fun b q => q.imp id (less b)
  have e : Sme (hide (Pz Z σ ρ) H) (hide (Pz Z σ (ρ.set i (.sh d))) H) := hide_mono (fun b _ _ q => lp b q) fun _ _ _ q => q
  refine ⟨⟨by rw [List.length_set]; exact E.len, fun j x hj => ?_, fun j x hj => ?_, fun j k x y b q1 q2 q3 q4 => ?_, E.zok, fun b q => E.zdis b (less b q), E.tab⟩, S.base, fun b q => S.free b (less b q)⟩
  · by_cases c : j = i
    · subst c
      rw [List.getElem?_set_self hi] at hj
      cases hj
      exact ⟨.ref a, h2, h3.rpHide (fun q => q.elim (fun z => E.zdis a ⟨j, d, h1, h2⟩ z) na) lp⟩
    · rw [set_get_ne c] at hj
      obtain ⟨w, k1, k2⟩ := E.sh j x hj
      exact ⟨w, k1, Rp.mono e _ _ k2⟩
  · have c : j ≠ i := fun c => by
      subst c
      rw [List.getElem?_set_self hi] at hj
      cases hj
    rw [set_get_ne c] at hj
    obtain ⟨w, k1, k2⟩ := E.own j x hj
    exact ⟨w, k1, k2.via (fun _ q _ => q) e⟩
  · have hne : ∀ m z, (ρ.set i (.sh d))[m]? = some (.own z) → m ≠ i := fun m z q c => by
      subst c
      rw [List.getElem?_set_self hi] at q
      cases q
    rw [set_get_ne (hne j x q1)] at q1
    rw [set_get_ne (hne k y q2)] at q2
    exact E.inj j k x y b q1 q2 q3 q4
end

/-! ### small statements -/
def sNil : SF := fun ρ => some (.nx ρ)
def sSeq (f g : SF) : SF := fun ρ => match f ρ with
  | some (.nx ρ') => g ρ'
  | r => r
/-- a value goes into a slot -/
def put (i : Nat) (r : R) (ρ : En) : Option En := if i < ρ.length then (match up r with
  | .fr => some (ρ.set i (.own r.d))
  | .av => some (ρ.set i (.sh r.d))
  | _ => none) else none
def sSet (i : Nat) (fe : EF) : SF := fun ρ => (fe ρ).bind fun r => (put i r ρ).map .nx
def sIf (c : TF) (f g : SF) : SF := fun ρ => match c ρ with
  | some true => f ρ
  | some false => g ρ
  | none => none
def rtR (r : R) : Option Fl := match up r with
  | .fr => some (.rt r.d true)
  | .av => some (.rt r.d false)
  | _ => none
def sRet (fe : EF) : SF := fun ρ => (fe ρ).bind rtR
/-- return x, x one's own -/
def sRetOwn (i : Nat) : SF := fun ρ => match ρ[i]? with
  | some (.own d) => some (.rt d true)
  | _ => none
/-- return x -/
def sRetVar (i : Nat) : SF := fun ρ => match ρ[i]? with
  | some (.own d) => some (.rt d true)
  | some (.sh d) => some (.rt d false)
  | _ => none
/-- return (x, e), x a list of one's own of things without lists, e such a thing -/
def sRetPr (i : Nat) (fe : EF) : SF := fun ρ => match ρ[i]? with
  | some (.own (.lst ds)) => (fe ρ).bind fun r => if imm.immL ds && imm r.d then some (.rn (.tup [.lst ds, r.d])) else none
  | _ => none
def sRetN : SF := fun _ => some (.rt .non false)
def sDrop (fe : EF) : SF := fun ρ => (fe ρ).map fun _ => .nx ρ
/-- x op= e -/
def sAug (i : Nat) (g : VF) (fe : EF) : SF := fun ρ => match ρ[i]? with
  | some (.sh d) => (fe ρ).bind fun r => (g ⟨d, .av⟩ r).bind fun r' => (put i r' ρ).map .nx
  | _ => none
/-- an own x is shared from here on -/
def sFz (i : Nat) (f : SF) : SF := fun ρ => match ρ[i]? with
  | some (.own d) => f (ρ.set i (.sh d))
  | _ => f ρ
section
variable {K : PySem.W.Frag} {W : Str → Hp → Prop} {X : Cx} {te : TE} {fe : EF} {t u : TS} {f g : SF} {c : TF} {tc : TT}
theorem ss_nil : SemS K W tNext sNil := by
  intro Z B σ H ρ fl S e Dn w
  cases e
  exact w σ H S
theorem ss_seq (h1 : SemS K W t f) (h2 : SemS K W u g) : SemS K W (tSeq t u) (sSeq f g) := by
  intro Z B σ H ρ fl S e Dn w
  unfold sSeq at e
  split at e
  · rename_i ρ' e1
    refine h1 Z B σ H ρ _ S e1 { Dn with nx := u Dn } fun σ' H' S' => ?_
    exact h2 Z B σ' H' ρ' fl S' e Dn w
  · rename_i hn
    refine h1 Z B σ H ρ fl S e { Dn with nx := u Dn } ?_
    cases fl with
    | nx ρ' => exact absurd e (hn ρ')
    | bk ρ' => exact w
    | ct ρ' => exact w
    | rt d fr => exact w
    | ex n => exact w
    | rn d => exact w
theorem put_ok {Z : Addr → Prop} {B H H' : Hp} {σ : L2.St} {ρ ρ' : En} {v : V} {r : R} {i : Nat} (S : StOk K Z B H σ ρ) (s : Same K H H') (h : Res K (Pz Z σ ρ) H H' v r) (e : put i r ρ = some ρ') : StOk K Z B H' (σ.set i (some v)) ρ' := by
  unfold put at e
  split at e
  · rename_i hi
    have h' := Res.up ((S.mono s).env.pok) h
    split at e
    · rename_i q
      rw [q] at h'
      cases e
      obtain ⟨a, h1, h2, h3⟩ := h'
      subst h1
      exact S.setOwn s h2 h3 hi
    · rename_i q
      rw [q] at h'
      cases e
      exact (S.mono s).setSh h' hi
    · cases e
  · cases e
theorem ss_set {i : Nat} (h : SemE K te fe) : SemS K W (tAsg te (gName i)) (sSet i fe) := by
  intro Z B σ H ρ fl S e Dn w
  obtain ⟨r, e1, e⟩ := Option.bind_eq_some_iff.mp e
  obtain ⟨ρ', e2, e⟩ := Option.map_eq_some_iff.mp e
  subst e
  exact h Z σ H ρ r S.env e1 _ fun v H' s q => w _ H' (put_ok S s q e2)
theorem ss_if (hc : SemT K tc c) (h1 : SemS K W t f) (h2 : SemS K W u g) : SemS K W (tIfS tc t u) (sIf c f g) := by
  intro Z B σ H ρ fl S e Dn w
  unfold sIf at e
  split at e
  · rename_i e1
    refine hc Z σ H ρ _ S.env e1 _ fun H' s => ?_
    rw [if_pos rfl]
    exact h1 Z B σ H' ρ fl (S.mono s) e Dn w
  · rename_i e1
    refine hc Z σ H ρ _ S.env e1 _ fun H' s => ?_
    rw [if_neg Bool.false_ne_true]
    exact h2 Z B σ H' ρ fl (S.mono s) e Dn w
  · cases e
theorem pz_z {Z : Addr → Prop} {σ : L2.St} {ρ : En} {H : Hp} : Sme (hide (Pz Z σ ρ) H) (hide Z H) := hide_mono (fun _ _ _ q => .inl q) fun _ _ _ q => q
theorem ss_ret (h : SemE K te fe) : SemS K W (tRet te) (sRet fe) := by
  intro Z B σ H ρ fl S e Dn w
  obtain ⟨r, e1, e⟩ := Option.bind_eq_some_iff.mp e
  refine h Z σ H ρ r S.env e1 _ fun v H' s q => ?_
  have q' := Res.up ((S.mono s).env.pok) q
  unfold rtR at e
  split at e
  · rename_i m
    rw [m] at q'
    cases e
    obtain ⟨a, h1, h2, h3⟩ := q'
    exact w v H' ⟨S.base.trans s.toSme, (S.mono s).env.tab, a, h1, Sme.none S.base h2, h3.less fun b z => z.imp .inl id⟩
  · rename_i m
    rw [m] at q'
    cases e
    exact w v H' ⟨S.base.trans s.toSme, (S.mono s).env.tab, Rp.mono pz_z _ _ q'⟩
  · cases e
theorem ss_retOwn {i : Nat} : SemS K W (tRet (tVar i)) (sRetOwn i) := by
  intro Z B σ H ρ fl S e Dn w
  unfold sRetOwn at e
  split at e
  · rename_i d e1
    cases e
    obtain ⟨a, h1, h2⟩ := S.env.own i d e1
    have oa : Ow σ ρ a := ⟨i, d, e1, h1⟩
    exact ⟨_, h1, w _ H ⟨S.base, S.env.tab, a, rfl, S.free a oa, h2.less fun b z => z.elim .inl fun c => .inr (by rw [c]; exact oa)⟩⟩
  · cases e
theorem ss_retVar {i : Nat} : SemS K W (tRet (tVar i)) (sRetVar i) := by
  intro Z B σ H ρ fl S e Dn w
  unfold sRetVar at e
  split at e
  · rename_i d e1
    exact ss_retOwn Z B σ H ρ fl S (by unfold sRetOwn; rw [e1]; exact e) Dn w
  · rename_i d e1
    cases e
    obtain ⟨v, h1, h2⟩ := S.env.sh i d e1
    exact ⟨v, h1, w _ H ⟨S.base, S.env.tab, Rp.mono pz_z _ _ h2⟩⟩
  · cases e
theorem ss_retPr {i : Nat} (h : SemE K te fe) : SemS K W (tRet (tTup (tCons (tVar i) (tCons te tNil)))) (sRetPr i fe) := by
  intro Z B σ H ρ fl S e Dn w
  unfold sRetPr at e
  split at e
  · rename_i ds e0
    obtain ⟨r, e1, e⟩ := Option.bind_eq_some_iff.mp e
    split at e
    · rename_i hc
      rw [Bool.and_eq_true] at hc
      cases e
      obtain ⟨a, a1, vs, a2, a3⟩ := S.env.own i _ e0
      refine ⟨.ref a, a1, ?_⟩
      refine h Z σ H ρ r S.env e1 _ fun v H1 s1 rv => ?_
      have S1 := S.mono s1
      have rp := (rv.opd S.env.pok).rp
      refine ⟨(by decide : 2 ≤ sizeLine), fun p hp => ?_⟩
      have s2 : Same K H1 (L2.upd H1 p (.tup [.ref a, v])) := same_upd hp
      have S2 := S1.mono s2
      have stu : STup H1 (hide (Old B) (L2.upd H1 p (.tup [.ref a, v]))) := by
        refine ⟨fun b xs z => hide_some.mpr ⟨fun ⟨o, k1, k2, _⟩ => ?_, s2.toSme.get _ _ z trivial⟩, fun b C dx z => hide_some.mpr ⟨fun ⟨o, k1, k2, k3⟩ => ?_, s2.toSme.get _ _ z trivial⟩, fun b oe φ z => hide_some.mpr ⟨fun ⟨o, k1, k2, _⟩ => ?_, s2.toSme.get _ _ z trivial⟩⟩
        · have := S1.base.get _ _ k1 (Mut.nt k2)
          rw [z] at this
          cases this
          exact k2
        · have := S1.base.get _ _ k1 (Mut.nt k2)
          rw [z] at this
          cases this
          exact k3 C dx rfl
        · have := S1.base.get _ _ k1 (Mut.nt k2)
          rw [z] at this
          cases this
          exact k2
      have ba : B a = none := S.free a ⟨i, _, e0, a1⟩
      have bp : B p = none := S1.base.none hp
      have ha1 : H1 a = some (.lst vs) := s1.toSme.get _ _ a2 trivial
      refine w _ _ ⟨S2.base, S2.env.tab, .tup (hide_some.mpr ⟨fun ⟨o, k1, _⟩ => (by rw [bp] at k1; cases k1), upd_same⟩) (.cons (.lst (hide_some.mpr ⟨fun ⟨o, k1, _⟩ => (by rw [ba] at k1; cases k1), s2.toSme.get _ _ ha1 trivial⟩) ?_) (.cons ?_ .nil))⟩
      · exact RpL.immK stu _ _ hc.1 (RpL.mono ((hide_same H).trans s1.toSme) _ _ a3)
      · exact Rp.immK stu _ _ hc.2 rp
    · cases e
  · cases e
theorem ss_retN : SemS K W tRetN sRetN := by
  intro Z B σ H ρ fl S e Dn w
  cases e
  exact w .non H ⟨S.base, S.env.tab, .non⟩
theorem ss_drop (h : SemE K te fe) : SemS K W (tDrop te) (sDrop fe) := by
  intro Z B σ H ρ fl S e Dn w
  obtain ⟨r, e1, e⟩ := Option.map_eq_some_iff.mp e
  subst e
  exact h Z σ H ρ r S.env e1 _ fun v H' s q => w σ H' (S.mono s)
theorem ss_aug {i : Nat} {ti : TIp} {gv : VF} (hg : SemV K ti gv) (h : SemE K te fe) : SemS K W (tAug i te ti) (sAug i gv fe) := by
  intro Z B σ H ρ fl S e Dn w
  unfold sAug at e
  split at e
  · rename_i d e0
    obtain ⟨r, e1, e⟩ := Option.bind_eq_some_iff.mp e
    obtain ⟨r', e2, e⟩ := Option.bind_eq_some_iff.mp e
    obtain ⟨ρ', e3, e⟩ := Option.map_eq_some_iff.mp e
    subst e
    obtain ⟨x, h1, h2⟩ := S.env.sh i d e0
    refine ⟨x, h1, h Z σ H ρ r S.env e1 _ fun v H' s q => ?_⟩
    refine hg (Pz Z σ ρ) H' x v ⟨d, .av⟩ r r' (S.mono s).env.pok (Rp.mono (same_hide s) _ _ h2) (q.opd S.env.pok) e2 _ fun y H2 s2 q2 => ?_
    exact w _ H2 (put_ok S (s.trans s2) (q2.pre s) e3)
  · cases e
theorem ss_fz {i : Nat} (h : SemS K W t f) : SemS K W t (sFz i f) := by
  intro Z B σ H ρ fl S e Dn w
  unfold sFz at e
  split at e
  · rename_i d e0
    exact h Z B σ H _ fl (S.freeze e0) e Dn w
  · exact h Z B σ H ρ fl S e Dn w
variable {st : Stmt} {rest : List Stmt} {pos pos' : Pos} {e : Expr}
theorem gss_nil : GSs K X W [] tNext sNil := ⟨pss_nil, ss_nil⟩
theorem gss_cons (h1 : GS K X W st t f) (h2 : GSs K X W rest u g) : GSs K X W (st :: rest) (tSeq t u) (sSeq f g) := ⟨pss_cons h1.p h2.p, ss_seq h1.s h2.s⟩
theorem gss_one (h1 : GS K X W st t f) : GSs K X W [st] t f := ⟨pss_one h1.p, h1.s⟩
theorem gs_fz (i : Nat) (h1 : GS K X W st t f) : GS K X W st t (sFz i f) := ⟨h1.p, ss_fz h1.s⟩
theorem gs_pass : GS K X W (.Pass pos) tNext sNil := ⟨ps_pass, ss_nil⟩
theorem gs_doc {x j pos pos'} : GS K X W (.Expr (.Constant (.str x) j pos) pos') tNext sNil := ⟨ps_doc, ss_nil⟩
theorem gs_set {i : Nat} {x : Str} (hN : X.N.Nodup) (he : GE K X e te fe) (hi : X.N[i]? = some x := by rfl) (hx : Loc X.env.scope x := by first | exact Or.inl rfl | exact Or.inr rfl) (hs : swapsWith e (some (.Name x pos')) pos.line X.env = pure false := by rfl) (hf : X.fn x = true ∨ X.env.scope.names.lookup x = some .local := by first | exact .inl rfl | exact .inr rfl) :
    GS K X W (.Assign [.Name x pos'] e pos) (tAsg te (gName i)) (sSet i fe) := ⟨ps_set hN hi hx he.p hs hf, ss_set he.s⟩
theorem gs_if {ce : Expr} {a b : List Stmt} (hc : GT K X ce tc c) (ha : GSs K X W a t f) (hb : GSs K X W b u g) : GS K X W (.If ce a b pos) (tIfS tc t u) (sIf c f g) := ⟨ps_if hc.p ha.p hb.p, ss_if hc.s ha.s hb.s⟩
theorem gs_ret (he : GE K X e te fe) : GS K X W (.Return (some e) pos) (tRet te) (sRet fe) := ⟨ps_ret he.p, ss_ret he.s⟩
theorem gs_retOwn (i : Nat) {x : Str} (hN : X.N[i]? = some x := by rfl) (hv : Vis X.env.scope x := by first | exact Or.inl rfl | exact Or.inr (Or.inl rfl) | exact Or.inr (Or.inr rfl)) (hd : (x == ("__debug__" : Str)) = false := by decide)
    (hcd : (x == ("__classdict__" : Str)) = false := by decide) : GS K X W (.Return (some (.Name x pos')) pos) (tRet (tVar i)) (sRetOwn i) := ⟨ps_ret (pe_var hN hv hd hcd), ss_retOwn⟩
theorem gs_retVar (i : Nat) {x : Str} (hN : X.N[i]? = some x := by rfl) (hv : Vis X.env.scope x := by first | exact Or.inl rfl | exact Or.inr (Or.inl rfl) | exact Or.inr (Or.inr rfl)) (hd : (x == ("__debug__" : Str)) = false := by decide)
    (hcd : (x == ("__classdict__" : Str)) = false := by decide) : GS K X W (.Return (some (.Name x pos')) pos) (tRet (tVar i)) (sRetVar i) := ⟨ps_ret (pe_var hN hv hd hcd), ss_retVar⟩
theorem gs_retPr (i : Nat) {x : Str} {kt : Nat} {np : Pos} (he : GE K X e te fe) (hN : X.N[i]? = some x := by rfl) (hv : Vis X.env.scope x := by first | exact Or.inl rfl | exact Or.inr (Or.inl rfl) | exact Or.inr (Or.inr rfl)) (hd : (x == ("__debug__" : Str)) = false := by decide)
    (hcd : (x == ("__classdict__" : Str)) = false := by decide) (h1 : starEach [.Name x np, e] X.env = (false, eval (.Name x np) X.env) :: starEach [e] X.env := by rfl) (h2 : starEach [e] X.env = (false, eval e X.env) :: starEach [] X.env := by rfl) :
    GS K X W (.Return (some (.Tuple [.Name x np, e] kt pos')) pos) (tRet (tTup (tCons (tVar i) (tCons te tNil)))) (sRetPr i fe) := ⟨ps_ret (pe_tup (pa_cons (pe_var hN hv hd hcd) (pa_cons he.p pa_nil h2) h1)), ss_retPr he.s⟩
theorem gs_retN : GS K X W (.Return none pos) tRetN sRetN := ⟨ps_retN, ss_retN⟩
theorem gs_expr (he : GE K X e te fe) (hs : swapsWith e none pos.line X.env = pure false := by rfl) : GS K X W (.Expr e pos) (tDrop te) (sDrop fe) := ⟨ps_expr he.p hs, ss_drop he.s⟩
theorem gs_aug {i : Nat} {x : Str} {op : Operator} {ti : TIp} {gv : VF} (hN : X.N.Nodup) (hg : SemV K ti gv) (ho : PIp X op ti) (he : GE K X e te fe) (hi : X.N[i]? = some x := by rfl) (hx : Loc X.env.scope x := by first | exact Or.inl rfl | exact Or.inr rfl) (hf : X.fn x = true ∨ X.env.scope.names.lookup x = some .local := by first | exact .inl rfl | exact .inr rfl) :
    GS K X W (.AugAssign (.Name x pos') op e pos) (tAug i te ti) (sAug i gv fe) := ⟨ps_aug hN hi hx he.p ho hf, ss_aug hg he.s⟩
end
def vAddI : VF := i2 (fun _ _ => true) fun i j => .int (i + j)
theorem sv_addI {K : PySem.W.Frag} : SemV K (ipI fun i j => i + j) vAddI := by
  intro P H x y a b r hP ha hb h Q q
  obtain ⟨i, m, j, n, rfl, rfl, hcc, rfl⟩ := i2_some h
  exact ⟨i, j, ha.int, hb.int, q _ H (Same.refl H) (.int _)⟩

/-! ### targets -/
abbrev GF := R → En → Option En
def SemG (K : PySem.W.Frag) (g : TG) (f : GF) : Prop := ∀ (Z : Addr → Prop) (B : Hp) (σ : L2.St) (H : Hp) (ρ ρ' : En) (v : V) (r : R), StOk K Z B H σ ρ → Opd K (Pz Z σ ρ) H v r → f r ρ = some ρ' → ∀ Q : L2.St → Hp → Prop, (∀ σ', StOk K Z B H σ' ρ' → Q σ' H) → g v σ H Q
abbrev GsF := List R → En → Option En
def SemGs (K : PySem.W.Frag) (g : TGs) (f : List D → En → Option En) : Prop := ∀ (Z : Addr → Prop) (B : Hp) (σ : L2.St) (H : Hp) (ρ ρ' : En) (vs : List V) (ds : List D) (P : Addr → Prop), StOk K Z B H σ ρ → (∀ b, Pz Z σ ρ b → P b) → RpL K (hide P H) vs ds → f ds ρ = some ρ' → ∀ Q : L2.St → Hp → Prop, (∀ σ', StOk K Z B H σ' ρ' → (∀ b, Pz Z σ' ρ' b → P b) → Q σ' H) → g vs σ H Q
def tgName (i : Nat) : GF := fun r ρ => if okR r = true ∧ i < ρ.length then some (ρ.set i (.sh r.d)) else none
/-- names, from the left; all items kept apart -/
def tgNames : List Nat → List D → En → Option En
  | [], [], ρ => some ρ
  | i :: is, d :: ds, ρ => if i < ρ.length then tgNames is ds (ρ.set i (.sh d)) else none
  | _, _, _ => none
def tgTup (is : List Nat) : GF := fun r ρ => match r with
  | ⟨.tup ds, m⟩ => if itR ⟨.tup ds, m⟩ then tgNames is ds ρ else none
  | _ => none
def gNames : List Nat → TGs
  | [] => gNil
  | i :: is => gCons (gName i) (gNames is)
section
variable {K : PySem.W.Frag} {X : Cx}
theorem sg_name (i : Nat) : SemG K (gName i) (tgName i) := by
  intro Z B σ H ρ ρ' v r S h e Q q
  unfold tgName at e
  split at e
  · rename_i c
    cases e
    exact q _ (S.setSh (h.okR S.env.pok c.1) c.2)
  · cases e
theorem sg_names : ∀ is : List Nat, SemGs K (gNames is) (tgNames is)
  | [] => by
    intro Z B σ H ρ ρ' vs ds P S hP h e Q q
    cases ds with
    | nil =>
      cases h
      cases e
      exact ⟨rfl, q σ S hP⟩
    | cons d r => cases e
  | i :: is => by
    intro Z B σ H ρ ρ' vs ds P S hP h e Q q
    cases ds with
    | nil => cases e
    | cons d r =>
      cases h with
      | cons h1 h2 =>
        unfold tgNames at e
        split at e
        · rename_i c
          have S' := S.setSh (Rp.mono (hide_mono (fun b _ _ q => hP b q) fun _ _ _ q => q) _ _ h1) c
          refine ⟨_, _, rfl, ?_⟩
          exact sg_names is Z B _ H _ ρ' _ r P S' (fun b z => hP b (z.imp id ow_setSh)) h2 e Q q
        · cases e
theorem sg_tup (is : List Nat) : SemG K (gTup K is.length (gNames is)) (tgTup is) := by
  intro Z B σ H ρ ρ' v r S h e Q q
  unfold tgTup at e
  split at e
  · rename_i ds m
    split at e
    · rename_i c
      obtain ⟨a, vs, h1, h2, h3, h4⟩ := Opd.tupR S.env.pok h
      have len : ∀ (is : List Nat) (ds : List D) (ρ : En), tgNames is ds ρ = some ρ' → is.length = ds.length := by
        intro is
        induction is with
        | nil => intro ds ρ e; cases ds with
          | nil => rfl
          | cons d r => cases e
        | cons i is ih => intro ds ρ e; cases ds with
          | nil => cases e
          | cons d r =>
            unfold tgNames at e
            split at e
            · exact congrArg (· + 1) (ih r _ e)
            · cases e
      refine ⟨a, vs, h1, h2, by rw [h3.length, len is ds ρ e], ?_⟩
      exact sg_names is Z B σ H ρ ρ' vs ds (Pz Z σ ρ) S (fun _ z => z) (h4 c) e Q fun σ' S' _ => q σ' S'
    · cases e
  · cases e
structure GG (K : PySem.W.Frag) (X : Cx) (e : Expr) (g : TG) (f : GF) : Prop where
  p : PG X e g
  s : SemG K g f
theorem gg_name {i : Nat} {x : Str} {pos : Pos} (hN : X.N.Nodup) (hi : X.N[i]? = some x := by rfl) (hx : Loc X.env.scope x := by first | exact Or.inl rfl | exact Or.inr rfl) (hf : X.fn x = true ∨ X.env.scope.names.lookup x = some .local := by first | exact .inl rfl | exact .inr rfl) : GG K X (.Name x pos) (gName i) (tgName i) := ⟨pg_name hN hi hx hf, sg_name i⟩
structure GGs (X : Cx) (es : List Expr) (is : List Nat) : Prop where
  p : PGs X es (gNames is)
theorem ggs_nil : GGs X [] [] := ⟨pgs_nil⟩
theorem ggs_cons {i : Nat} {is : List Nat} {x : Str} {pos : Pos} {es : List Expr} (hN : X.N.Nodup) (h2 : GGs X es is) (hi : X.N[i]? = some x := by rfl) (hx : Loc X.env.scope x := by first | exact Or.inl rfl | exact Or.inr rfl) (hf : X.fn x = true ∨ X.env.scope.names.lookup x = some .local := by first | exact .inl rfl | exact .inr rfl)
    (hs : (assignEach (.Name x pos :: es) X.env).map (·.2) = assign (.Name x pos) X.env :: (assignEach es X.env).map (·.2) := by rfl) : GGs X (.Name x pos :: es) (i :: is) := ⟨pgs_cons (pg_name hN hi hx hf) h2.p hs⟩
theorem gg_tup {es : List Expr} {k : Nat} {pos : Pos} {is : List Nat} (hc : X.calm = true) (h : GGs X es is)
    (hn : (assignEach es X.env).length = is.length := by rfl) (hst : (assignEach es X.env).findIdx? (·.1) = none := by rfl) (hk : X.K = K := by rfl) : GG K X (.Tuple es k pos) (gTup K is.length (gNames is)) (tgTup is) := by
  subst hk
  exact ⟨pg_tup hc h.p hn hst, sg_tup is⟩
/-- a, b = e -/
def sUnp (f : GF) (fe : EF) : SF := fun ρ => (fe ρ).bind fun r => (f r ρ).map .nx
theorem ss_unp {W : Str → Hp → Prop} {te : TE} {fe : EF} {g : TG} {f : GF} (h : SemE K te fe) (hg : SemG K g f) : SemS K W (tAsg te g) (sUnp f fe) := by
  intro Z B σ H ρ fl S e Dn w
  obtain ⟨r, e1, e⟩ := Option.bind_eq_some_iff.mp e
  obtain ⟨ρ', e2, e⟩ := Option.map_eq_some_iff.mp e
  subst e
  refine h Z σ H ρ r S.env e1 _ fun v H' s q => ?_
  exact hg Z B σ H' ρ ρ' v r (S.mono s) (q.opd S.env.pok) e2 _ fun σ' S' => w σ' H' S'
theorem gs_unp {W : Str → Hp → Prop} {te : TE} {fe : EF} {g : TG} {f : GF} {tg e : Expr} {pos : Pos} (he : GE K X e te fe) (hg : GG K X tg g f) (hs : swapsWithSole [tg] e pos.line X.env = pure false := by rfl) (hw : swappedStores [tg] e X.env = pure none := by rfl)
    (h1 : (assignEach [tg] X.env).map (·.2) = [assign tg X.env] := by rfl) : GS K X W (.Assign [tg] e pos) (tAsg te g) (sUnp f fe) := ⟨ps_asg he.p hg.p hs hw h1, ss_unp he.s hg.s⟩
/-- a, b = x, y -/
def sPar (i j : Nat) (fa : AF) : SF := fun ρ => (fa ρ).bind fun rs => match rs with
  | [x, y] => if okR x = true ∧ okR y = true ∧ i < ρ.length ∧ j < ρ.length then some (.nx ((ρ.set i (.sh x.d)).set j (.sh y.d))) else none
  | _ => none
theorem ss_par {W : Str → Hp → Prop} {ta : TA} {fa : AF} {i j : Nat} (h : SemA K ta fa) : SemS K W (tPar i j ta) (sPar i j fa) := by
  intro Z B σ H ρ fl S e Dn w
  obtain ⟨rs, e1, e⟩ := Option.bind_eq_some_iff.mp e
  refine h Z σ H ρ rs S.env e1 _ fun vs H' s q => ?_
  split at e
  · rename_i x y
    split at e
    · rename_i c
      cases e
      obtain ⟨v1, v2, rfl, q1, q2⟩ := q.two
      refine ⟨v1, v2, rfl, w _ H' ?_⟩
      have S1 := (S.mono s).setSh (i := i) (q1.okR (S.mono s).env.pok c.1) c.2.2.1
      refine S1.setSh (Rp.mono (hide_mono (fun b _ _ z => z.imp id ow_setSh) fun _ _ _ z => z) _ _ (q2.okR (S.mono s).env.pok c.2.1)) (by rw [List.length_set]; exact c.2.2.2)
    · cases e
  · cases e
theorem gs_par {W : Str → Hp → Prop} {i j : Nat} {x y : Str} {a b : Expr} {ta : TA} {fa : AF} {px py pt pos : Pos} {kt k2 pt2} (hc : X.calm = true) (hN : X.N.Nodup) (ha : GA K X [a, b] ta fa) (hw : swappedStores [.Tuple [.Name x px, .Name y py] kt pt] (.Tuple [a, b] k2 pt2) X.env = pure (some [x, y]))
    (hi : X.N[i]? = some x := by rfl) (hj : X.N[j]? = some y := by rfl) (hij : i ≠ j := by decide)
    (hx : X.env.scope.names.lookup x = some .local := by rfl) (hy : X.env.scope.names.lookup y = some .local := by rfl)
    (hs : swapsWithSole [.Tuple [.Name x px, .Name y py] kt pt] (.Tuple [a, b] k2 pt2) pos.line X.env = pure false := by rfl) :
    GS K X W (.Assign [.Tuple [.Name x px, .Name y py] kt pt] (.Tuple [a, b] k2 pt2) pos) (tPar i j ta) (sPar i j fa) := ⟨ps_par hc hN hi hj hij hx hy ha.p hw hs, ss_par ha.s⟩
end
end Fb
set_option maxHeartbeats 2000000
/-! Fb4: loops, comprehensions, calls of defs, a def's promise. -/
namespace Fb
open PySem PySem.Spec L2 RZ
variable [γ : GSt]

/-! ### what is walked -/
/-- G: where what is walked stands; G2: what its items lean on -/
structure JOk2 (K : PySem.W.Frag) (G G2 : Hp) (J : It) (ds : List D) : Prop where
  go : ∀ (i : Nat) (H : Hp), i < ds.length → Sme G H → J.go i H
  stop : ∀ (i : Nat) (H : Hp), ds.length ≤ i → Sme G H → J.stop i H
  yld : ∀ (i : Nat) (d : D) (H : Hp) (x : V) (H' : Hp), ds[i]? = some d → Sme G H → J.yld i H x H' → Same K H H' ∧ ∀ P, POk P H → Sme G2 (hide P H) → Rp K (hide P H') x d
abbrev JOk (K : PySem.W.Frag) (G : Hp) (J : It) (ds : List D) : Prop := JOk2 K G G J ds
theorem JOk2.less {K : PySem.W.Frag} {G G' G2 : Hp} {J : It} {ds : List D} (h : JOk2 K G G2 J ds) (s : Sme G G') : JOk2 K G' G2 J ds :=
  ⟨fun i H hi q => h.go i H hi (s.trans q), fun i H hi q => h.stop i H hi (s.trans q), fun i d H x H' hd q y => h.yld i d H x H' hd (s.trans q) y⟩
abbrev IF := En → Option (List D)
def SemI (K : PySem.W.Frag) (wi : TI) (fi : IF) : Prop := ∀ (Z : Addr → Prop) (σ : L2.St) (H : Hp) (ρ : En) (ds : List D), EnvOk K Z H σ ρ → fi ρ = some ds → ∀ R : It → Hp → Prop, (∀ J H', Same K H H' → JOk K (hide (Pz Z σ ρ) H') J ds → R J H') → wi σ H R
structure GI (K : PySem.W.Frag) (X : Cx) (tg iter : Expr) (wi : TI) (fi : IF) : Prop where
  p : PI X tg iter wi
  s : SemI K wi fi
def iL (fe : EF) : IF := fun ρ => match fe ρ with
  | some ⟨.lst ds, m⟩ => if m.ok then some ds else none
  | _ => none
def iT (fe : EF) : IF := fun ρ => match fe ρ with
  | some ⟨.tup ds, m⟩ => if okR ⟨.tup ds, m⟩ then some ds else none
  | _ => none
def rgD (lo : Int) (n : Nat) : List D := (List.range n).map fun (i : Nat) => D.int (lo + i)
def iR1 (fa : AF) : IF := fun ρ => match fa ρ with
  | some [⟨.int j, _⟩] => if -(2 ^ 62) ≤ j ∧ j < 2 ^ 62 then some (rgD 0 j.toNat) else none
  | _ => none
def iR2 (fa : AF) : IF := fun ρ => match fa ρ with
  | some [⟨.int i, _⟩, ⟨.int j, _⟩] => if -(2 ^ 62) ≤ i ∧ i < 2 ^ 62 ∧ -(2 ^ 62) ≤ j ∧ j < 2 ^ 62 then some (rgD i (j - i).toNat) else none
  | _ => none
def zipD (a b : List D) : List D := List.zipWith (fun x y => D.tup [x, y]) a b
def iZ (fa : AF) : IF := fun ρ => match fa ρ with
  | some [⟨.lst xs, m⟩, ⟨.lst ys, n⟩] => if m.ok && n.ok then some (zipD xs ys) else none
  | some [⟨.tup xs, m⟩, ⟨.tup ys, n⟩] => if okR ⟨.tup xs, m⟩ && okR ⟨.tup ys, n⟩ then some (zipD xs ys) else none
  | _ => none
def enD (ds : List D) : List D := zipD (rgD 0 ds.length) ds
def iE (fa : AF) : IF := fun ρ => match fa ρ with
  | some [⟨.lst xs, m⟩] => if m.ok then some (enD xs) else none
  | _ => none
theorem ok_cases {m : Md} (h : m.ok = true) : m = .av ∨ m = .fr := by
  cases m with
  | av => exact .inl rfl
  | fr => exact .inr rfl
  | bor => cases h
  | top => cases h
section
variable {K : PySem.W.Frag} {X : Cx} {te : TE} {fe : EF} {ta : TA} {fa : AF}
theorem jok_list {G G2 : Hp} {a : Addr} {vs : List V} {ds : List D} (h1 : G a = some (.lst vs)) (h2 : RpL K G2 vs ds) : JOk2 K G G2 (Itl K a) ds where
  go := fun i H hi s => by
    obtain ⟨v, k1, k2⟩ := h2.get (List.getElem?_eq_getElem hi)
    exact ⟨vs, v, SqL.of (s _ _ h1), k1⟩
  stop := fun i H hi s => ⟨vs, SqL.of (s _ _ h1), by rw [h2.length]; exact hi⟩
  yld := fun i d H x H' hd s y => by
    obtain ⟨e, y⟩ := y
    subst e
    obtain ⟨v, k1, k2⟩ := h2.get hd
    have := y vs (SqL.of (s _ _ h1))
    rw [k1] at this
    cases this
    exact ⟨Same.refl _, fun P hP sg => Rp.mono sg _ _ k2⟩
theorem jok_tup {G : Hp} {a : Addr} {vs : List V} {ds : List D} (h1 : SqT K G a vs) (h2 : RpL K G vs ds) : JOk K G (Itt K a) ds where
  go := fun i H hi s => by
    obtain ⟨v, k1, k2⟩ := h2.get (List.getElem?_eq_getElem hi)
    exact ⟨vs, v, Sme.sqT s h1, k1⟩
  stop := fun i H hi s => ⟨vs, Sme.sqT s h1, by rw [h2.length]; exact hi⟩
  yld := fun i d H x H' hd s y => by
    obtain ⟨e, y⟩ := y
    subst e
    obtain ⟨v, k1, k2⟩ := h2.get hd
    have := y vs (Sme.sqT s h1)
    rw [k1] at this
    cases this
    exact ⟨Same.refl _, fun P hP sg => Rp.mono sg _ _ k2⟩
theorem rgD_get {lo : Int} {n i : Nat} {d : D} (h : (rgD lo n)[i]? = some d) : i < n ∧ d = .int (lo + i) := by
  unfold rgD at h
  rw [List.getElem?_map] at h
  obtain ⟨j, h1, h2⟩ := Option.map_eq_some_iff.mp h
  obtain ⟨h3, h4⟩ := List.getElem?_eq_some_iff.mp h1
  rw [List.getElem_range] at h4
  rw [List.length_range] at h3
  subst h4
  exact ⟨h3, h2.symm⟩
@[simp] theorem rgD_length (lo : Int) (n : Nat) : (rgD lo n).length = n := by
  unfold rgD
  rw [List.length_map, List.length_range]
theorem jok_range {G : Hp} {lo : Int} {n : Nat} : JOk K G (Itr lo n) (rgD lo n) where
  go := fun i H hi s => by rw [rgD_length] at hi; exact hi
  stop := fun i H hi s => by rw [rgD_length] at hi; exact hi
  yld := fun i d H x H' hd s y => by
    obtain ⟨e, y⟩ := y
    subst e y
    obtain ⟨_, rfl⟩ := rgD_get hd
    exact ⟨Same.refl _, fun P hP sg => .int _⟩
theorem zipD_get {xs ys : List D} {i : Nat} {d : D} (h : (zipD xs ys)[i]? = some d) : ∃ x y, xs[i]? = some x ∧ ys[i]? = some y ∧ d = .tup [x, y] := by
  unfold zipD at h
  rw [List.getElem?_zipWith] at h
  split at h
  · rename_i x y h1 h2
    cases h
    exact ⟨x, y, h1, h2, rfl⟩
  · cases h
theorem new_pair {G H : Hp} {T : Addr} {v w : V} {x y : D} (hT : H T = none) (h1 : Rp K G v x) (h2 : Rp K G w y) : Same K H (L2.upd H T (.tup [v, w])) ∧ ∀ P, POk P H → Sme G (hide P H) → Rp K (hide P (L2.upd H T (.tup [v, w]))) (.ref T) (.tup [x, y]) := by
  refine ⟨same_upd hT, fun P hP sg => ?_⟩
  have s2 := Sme.trans sg (same_hide (P := P) (same_upd (K := K) (o := .tup [v, w]) hT).toSme)
  refine .tup (hide_some.mpr ⟨fun z => ?_, upd_same⟩) (.cons (Rp.mono s2 _ _ h1) (.cons (Rp.mono s2 _ _ h2) .nil))
  obtain ⟨o, q⟩ := hP.there z
  rw [hT] at q; cases q
theorem zipD_length (xs ys : List D) : (zipD xs ys).length = min xs.length ys.length := by
  unfold zipD
  rw [List.length_zipWith]
theorem jok_zipL {G G2 : Hp} {a b : Addr} {vs ws : List V} {xs ys : List D} (h1 : G a = some (.lst vs)) (h2 : RpL K G2 vs xs) (k1 : G b = some (.lst ws)) (k2 : RpL K G2 ws ys) : JOk2 K G G2 (Itz K a b) (zipD xs ys) where
  go := fun i H hi s => by
    obtain ⟨x, y, e1, e2, _⟩ := zipD_get (List.getElem?_eq_getElem hi)
    obtain ⟨v, q1, _⟩ := h2.get e1
    obtain ⟨w, q2, _⟩ := k2.get e2
    exact ⟨vs, ws, v, w, SqL.of (s _ _ h1), SqL.of (s _ _ k1), q1, q2⟩
  stop := fun i H hi s => by
    rw [zipD_length] at hi
    refine ⟨vs, ws, SqL.of (s _ _ h1), SqL.of (s _ _ k1), ?_⟩
    rw [h2.length, k2.length]
    omega
  yld := fun i d H x H' hd s y => by
    obtain ⟨x1, y1, e1, e2, rfl⟩ := zipD_get hd
    obtain ⟨T, v, w, rfl, hT, rfl, f1, f2⟩ := y
    obtain ⟨v', q1, r1⟩ := h2.get e1
    obtain ⟨w', q2, r2⟩ := k2.get e2
    have := f1 vs (SqL.of (s _ _ h1))
    rw [q1] at this
    cases this
    have := f2 ws (SqL.of (s _ _ k1))
    rw [q2] at this
    cases this
    exact new_pair hT r1 r2
theorem jok_zipT {G : Hp} {a b : Addr} {vs ws : List V} {xs ys : List D} (h1 : SqT K G a vs) (h2 : RpL K G vs xs) (k1 : SqT K G b ws) (k2 : RpL K G ws ys) : JOk K G (ItzT K a b) (zipD xs ys) where
  go := fun i H hi s => by
    obtain ⟨x, y, e1, e2, _⟩ := zipD_get (List.getElem?_eq_getElem hi)
    obtain ⟨v, q1, _⟩ := h2.get e1
    obtain ⟨w, q2, _⟩ := k2.get e2
    exact ⟨vs, ws, v, w, Sme.sqT s h1, Sme.sqT s k1, q1, q2⟩
  stop := fun i H hi s => by
    rw [zipD_length] at hi
    refine ⟨vs, ws, Sme.sqT s h1, Sme.sqT s k1, ?_⟩
    rw [h2.length, k2.length]
    omega
  yld := fun i d H x H' hd s y => by
    obtain ⟨x1, y1, e1, e2, rfl⟩ := zipD_get hd
    obtain ⟨T, v, w, rfl, hT, rfl, f1, f2⟩ := y
    obtain ⟨v', q1, r1⟩ := h2.get e1
    obtain ⟨w', q2, r2⟩ := k2.get e2
    have := f1 vs (Sme.sqT s h1)
    rw [q1] at this
    cases this
    have := f2 ws (Sme.sqT s k1)
    rw [q2] at this
    cases this
    exact new_pair hT r1 r2
theorem enD_get {xs : List D} {i : Nat} {d : D} (h : (enD xs)[i]? = some d) : ∃ x, xs[i]? = some x ∧ d = .tup [.int (i : Nat), x] := by
  obtain ⟨x, y, h1, h2, rfl⟩ := zipD_get h
  obtain ⟨_, rfl⟩ := rgD_get h1
  exact ⟨y, h2, by rw [Int.zero_add]⟩
theorem enD_length (xs : List D) : (enD xs).length = xs.length := by
  unfold enD
  rw [zipD_length, rgD_length, Nat.min_self]
theorem jok_enum {G G2 : Hp} {a : Addr} {vs : List V} {xs : List D} (h1 : G a = some (.lst vs)) (h2 : RpL K G2 vs xs) : JOk2 K G G2 (Ite K a) (enD xs) where
  go := fun i H hi s => by
    rw [enD_length] at hi
    obtain ⟨v, q1, _⟩ := h2.get (List.getElem?_eq_getElem hi)
    exact ⟨vs, v, SqL.of (s _ _ h1), q1⟩
  stop := fun i H hi s => by
    rw [enD_length] at hi
    exact ⟨vs, SqL.of (s _ _ h1), by rw [h2.length]; exact hi⟩
  yld := fun i d H x H' hd s y => by
    obtain ⟨x1, e1, rfl⟩ := enD_get hd
    obtain ⟨T, v, rfl, hT, rfl, f1⟩ := y
    obtain ⟨v', q1, r1⟩ := h2.get e1
    have := f1 vs (SqL.of (s _ _ h1))
    rw [q1] at this
    cases this
    exact new_pair hT (.int _) r1
theorem rp_lst {G : Hp} {v : V} {ds : List D} (h : Rp K G v (.lst ds)) : ∃ a vs, v = .ref a ∧ G a = some (.lst vs) ∧ RpL K G vs ds := by
  cases h with
  | lst s r => exact ⟨_, _, rfl, s, r⟩
theorem rp_tup {G : Hp} {v : V} {ds : List D} (h : Rp K G v (.tup ds)) : ∃ a vs, v = .ref a ∧ SqT K G a vs ∧ RpL K G vs ds := by
  cases h with
  | tup s r => exact ⟨_, _, rfl, .of s, r⟩
theorem si_list (h : SemE K te fe) : SemI K (iList K te) (iL fe) := by
  intro Z σ H ρ ds E e R q
  unfold iL at e
  split at e
  · rename_i ds' m e1
    split at e
    · rename_i hm
      cases e
      refine h Z σ H ρ _ E e1 _ fun v H' s r => ?_
      obtain ⟨a, vs, rfl, h1, h2⟩ := rp_lst ((r.opd E.pok).av (ok_cases hm))
      exact ⟨a, rfl, ⟨vs, SqL.of (hide_same H' _ _ h1)⟩, q _ H' s (jok_list h1 h2)⟩
    · cases e
  · cases e
theorem si_tup (h : SemE K te fe) : SemI K (iTup K te) (iT fe) := by
  intro Z σ H ρ ds E e R q
  unfold iT at e
  split at e
  · rename_i ds' m e1
    split at e
    · rename_i hm
      cases e
      refine h Z σ H ρ _ E e1 _ fun v H' s r => ?_
      obtain ⟨a, vs, rfl, h1, h2⟩ := rp_tup ((r.opd E.pok).okR (E.mono s).pok hm)
      exact ⟨a, rfl, ⟨vs, Sme.sqT (hide_same H') h1⟩, q _ H' s (jok_tup h1 h2)⟩
    · cases e
  · cases e
theorem si_r1 (h : SemA K ta fa) : SemI K (iRng1 ta) (iR1 fa) := by
  intro Z σ H ρ ds E e R q
  unfold iR1 at e
  split at e
  · rename_i j m e1
    split at e
    · rename_i hj
      cases e
      refine h Z σ H ρ _ E e1 _ fun vs H' s r => ?_
      obtain ⟨x, rfl, hx⟩ := r.one
      cases hx.int
      exact ⟨j, rfl, hj.1, hj.2, q _ H' s jok_range⟩
    · cases e
  · cases e
theorem si_r2 (h : SemA K ta fa) : SemI K (iRng2 ta) (iR2 fa) := by
  intro Z σ H ρ ds E e R q
  unfold iR2 at e
  split at e
  · rename_i i m j n e1
    split at e
    · rename_i hj
      cases e
      refine h Z σ H ρ _ E e1 _ fun vs H' s r => ?_
      obtain ⟨x, y, rfl, hx, hy⟩ := r.two
      cases hx.int
      cases hy.int
      exact ⟨i, j, rfl, hj, q _ H' s jok_range⟩
    · cases e
  · cases e
theorem si_zip (h : SemA K ta fa) : SemI K (iZipA K ta) (iZ fa) := by
  intro Z σ H ρ ds E e R q
  unfold iZ at e
  split at e
  · rename_i xs m ys n e1
    split at e
    · rename_i hm
      cases e
      rw [Bool.and_eq_true] at hm
      refine h Z σ H ρ _ E e1 _ fun vs H' s r => ?_
      obtain ⟨x, y, rfl, hx, hy⟩ := r.two
      obtain ⟨a, as, rfl, h1, h2⟩ := rp_lst (hx.av (ok_cases hm.1))
      obtain ⟨b, bs, rfl, k1, k2⟩ := rp_lst (hy.av (ok_cases hm.2))
      exact ⟨a, b, as, bs, rfl, .inl ⟨SqL.of (hide_same H' _ _ h1), SqL.of (hide_same H' _ _ k1), q _ H' s (jok_zipL h1 h2 k1 k2)⟩⟩
    · cases e
  · rename_i xs m ys n e1
    split at e
    · rename_i hm
      cases e
      rw [Bool.and_eq_true] at hm
      refine h Z σ H ρ _ E e1 _ fun vs H' s r => ?_
      obtain ⟨x, y, rfl, hx, hy⟩ := r.two
      obtain ⟨a, as, rfl, h1, h2⟩ := rp_tup (hx.okR (E.mono s).pok hm.1)
      obtain ⟨b, bs, rfl, k1, k2⟩ := rp_tup (hy.okR (E.mono s).pok hm.2)
      exact ⟨a, b, as, bs, rfl, .inr ⟨Sme.sqT (hide_same H') h1, Sme.sqT (hide_same H') k1, q _ H' s (jok_zipT h1 h2 k1 k2)⟩⟩
    · cases e
  · cases e
theorem si_enum (h : SemA K ta fa) : SemI K (iEnum K ta) (iE fa) := by
  intro Z σ H ρ ds E e R q
  unfold iE at e
  split at e
  · rename_i xs m e1
    split at e
    · rename_i hm
      cases e
      refine h Z σ H ρ _ E e1 _ fun vs H' s r => ?_
      obtain ⟨x, rfl, hx⟩ := r.one
      obtain ⟨a, as, rfl, h1, h2⟩ := rp_lst (hx.av (ok_cases hm))
      exact ⟨a, as, rfl, SqL.of (hide_same H' _ _ h1), q _ H' s (jok_enum h1 h2)⟩
    · cases e
  · cases e
variable {tg l a b : Expr} {p pos : Pos}
theorem gi_list (h : GE K X l te fe) (hk : X.K = K := by rfl) : GI K X tg l (iList K te) (iL fe) := by
  subst hk
  exact ⟨pi_list h.p, si_list h.s⟩
theorem gi_tup (h : GE K X l te fe) (hk : X.K = K := by rfl) : GI K X tg l (iTup K te) (iT fe) := by
  subst hk
  exact ⟨pi_tup h.p, si_tup h.s⟩
theorem gi_r1 (hm : X.mg "range" = none) (h : GA K X [a] ta fa) (hg : Gl X "range" := by rfl) (hs : starEach [a] X.env = [(false, eval a X.env)] := by rfl) : GI K X tg (.Call (.Name "range" p) [a] [] pos) (iRng1 ta) (iR1 fa) := ⟨pi_range1 hg hm h.p hs, si_r1 h.s⟩
theorem gi_r2 (hm : X.mg "range" = none) (h : GA K X [a, b] ta fa) (hg : Gl X "range" := by rfl) (hs : starEach [a, b] X.env = [(false, eval a X.env), (false, eval b X.env)] := by rfl) (hs2 : starEach [b] X.env = [(false, eval b X.env)] := by rfl) : GI K X tg (.Call (.Name "range" p) [a, b] [] pos) (iRng2 ta) (iR2 fa) := ⟨pi_range2 hg hm h.p hs hs2, si_r2 h.s⟩
theorem gi_zip {tpos : Pos} {elts : List Expr} {kk : Nat} (hm : X.mg "zip" = none) (h : GA K X [a, b] ta fa) (hg : Gl X "zip" := by rfl)
    (hs : starEach [a, b] X.env = (false, eval a X.env) :: starEach [b] X.env := by rfl) (hpl : (backTo pos (starEach [b] X.env)).any (·.1) = false := by rfl) (hk : X.K = K := by rfl) : GI K X (.Tuple elts kk tpos) (.Call (.Name "zip" p) [a, b] [] pos) (iZipA K ta) (iZ fa) := by
  subst hk
  exact ⟨pi_zipA hg hm h.p hs hpl, si_zip h.s⟩
theorem gi_enum {tpos : Pos} {elts : List Expr} {kk : Nat} (hm : X.mg "enumerate" = none) (h : GA K X [a] ta fa) (hg : Gl X "enumerate" := by rfl) (hs : starEach [a] X.env = [(false, eval a X.env)] := by rfl) (hk : X.K = K := by rfl) : GI K X (.Tuple elts kk tpos) (.Call (.Name "enumerate" p) [a] [] pos) (iEnum K ta) (iE fa) := by
  subst hk
  exact ⟨pi_enum hg hm h.p hs, si_enum h.s⟩
end

/-! ### what a comprehension walks: one's own, too -/
def SemIc (K : PySem.W.Frag) (wi : TI) (fi : IF) : Prop := ∀ (Z : Addr → Prop) (σ : L2.St) (H : Hp) (ρ : En) (ds : List D), EnvOk K Z H σ ρ → fi ρ = some ds → ∀ R : It → Hp → Prop, (∀ J H', Same K H H' → JOk2 K H' (hide (Pz Z σ ρ) H') J ds → R J H') → wi σ H R
structure GIc (K : PySem.W.Frag) (X : Cx) (tg iter : Expr) (wi : TI) (fi : IF) : Prop where
  p : PI X tg iter wi
  s : SemIc K wi fi
def iLc (fe : EF) : IF := fun ρ => match fe ρ with
  | some ⟨.lst ds, m⟩ => if itR ⟨.lst ds, m⟩ then some ds else none
  | _ => none
def iEc (fa : AF) : IF := fun ρ => match fa ρ with
  | some [⟨.lst xs, m⟩] => if itR ⟨.lst xs, m⟩ then some (enD xs) else none
  | _ => none
def iZc (fa : AF) : IF := fun ρ => match fa ρ with
  | some [⟨.lst xs, m⟩, ⟨.lst ys, n⟩] => if itR ⟨.lst xs, m⟩ && itR ⟨.lst ys, n⟩ then some (zipD xs ys) else none
  | _ => none
section
variable {K : PySem.W.Frag} {X : Cx} {te : TE} {fe : EF} {ta : TA} {fa : AF} {wi : TI} {fi : IF}
theorem SemI.c (h : SemI K wi fi) : SemIc K wi fi := fun Z σ H ρ ds E e R q => h Z σ H ρ ds E e R fun J H' s j => q J H' s (JOk2.less j (hide_same H'))
theorem sic_list (h : SemE K te fe) : SemIc K (iList K te) (iLc fe) := by
  intro Z σ H ρ ds E e R q
  unfold iLc at e
  split at e
  · rename_i ds' m e1
    split at e
    · rename_i hm
      cases e
      refine h Z σ H ρ _ E e1 _ fun v H' s r => ?_
      obtain ⟨a, vs, rfl, h1, h2, h3⟩ := Opd.lstR (E.mono s).pok (r.opd E.pok)
      exact ⟨a, rfl, ⟨vs, SqL.of h1⟩, q _ H' s (jok_list h1 (h3 hm))⟩
    · cases e
  · cases e
theorem sic_enum (h : SemA K ta fa) : SemIc K (iEnum K ta) (iEc fa) := by
  intro Z σ H ρ ds E e R q
  unfold iEc at e
  split at e
  · rename_i xs m e1
    split at e
    · rename_i hm
      cases e
      refine h Z σ H ρ _ E e1 _ fun vs H' s r => ?_
      obtain ⟨x, rfl, hx⟩ := r.one
      obtain ⟨a, as, rfl, h1, h2, h3⟩ := Opd.lstR (E.mono s).pok hx
      exact ⟨a, as, rfl, SqL.of h1, q _ H' s (jok_enum h1 (h3 hm))⟩
    · cases e
  · cases e
theorem sic_zip (h : SemA K ta fa) : SemIc K (iZipA K ta) (iZc fa) := by
  intro Z σ H ρ ds E e R q
  unfold iZc at e
  split at e
  · rename_i xs m ys n e1
    split at e
    · rename_i hm
      cases e
      rw [Bool.and_eq_true] at hm
      refine h Z σ H ρ _ E e1 _ fun vs H' s r => ?_
      obtain ⟨x, y, rfl, hx, hy⟩ := r.two
      obtain ⟨a, as, rfl, h1, h2, h3⟩ := Opd.lstR (E.mono s).pok hx
      obtain ⟨b, bs, rfl, k1, k2, k3⟩ := Opd.lstR (E.mono s).pok hy
      exact ⟨a, b, as, bs, rfl, .inl ⟨SqL.of h1, SqL.of k1, q _ H' s (jok_zipL h1 (h3 hm.1) k1 (k3 hm.2))⟩⟩
    · cases e
  · cases e
variable {tg l a b : Expr} {p pos : Pos}
theorem GI.c {iter : Expr} (h : GI K X tg iter wi fi) : GIc K X tg iter wi fi := ⟨h.p, h.s.c⟩
theorem gic_list (h : GE K X l te fe) (hk : X.K = K := by rfl) : GIc K X tg l (iList K te) (iLc fe) := by
  subst hk
  exact ⟨pi_list h.p, sic_list h.s⟩
theorem gic_enum {tpos : Pos} {elts : List Expr} {kk : Nat} (hm : X.mg "enumerate" = none) (h : GA K X [a] ta fa) (hg : Gl X "enumerate" := by rfl) (hs : starEach [a] X.env = [(false, eval a X.env)] := by rfl) (hk : X.K = K := by rfl) : GIc K X (.Tuple elts kk tpos) (.Call (.Name "enumerate" p) [a] [] pos) (iEnum K ta) (iEc fa) := by
  subst hk
  exact ⟨pi_enum hg hm h.p hs, sic_enum h.s⟩
theorem gic_zip {tpos : Pos} {elts : List Expr} {kk : Nat} (hm : X.mg "zip" = none) (h : GA K X [a, b] ta fa) (hg : Gl X "zip" := by rfl)
    (hs : starEach [a, b] X.env = (false, eval a X.env) :: starEach [b] X.env := by rfl) (hpl : (backTo pos (starEach [b] X.env)).any (·.1) = false := by rfl) (hk : X.K = K := by rfl) : GIc K X (.Tuple elts kk tpos) (.Call (.Name "zip" p) [a, b] [] pos) (iZipA K ta) (iZc fa) := by
  subst hk
  exact ⟨pi_zipA hg hm h.p hs hpl, sic_zip h.s⟩
end

/-! ### for -/
def loopF (tgt : GF) (body : SF) : List D → En → Option Fl
  | [], ρ => some (.nx ρ)
  | d :: r, ρ => (tgt ⟨d, .av⟩ ρ).bind fun ρ1 => match body ρ1 with
    | some (.nx ρ2) => loopF tgt body r ρ2
    | some (.ct ρ2) => loopF tgt body r ρ2
    | some (.bk ρ2) => some (.nx ρ2)
    | some (.rt d fr) => some (.rt d fr)
    | some (.ex n) => some (.ex n)
    | some (.rn d) => some (.rn d)
    | none => none
def sFor (fi : IF) (tgt : GF) (body : SF) : SF := fun ρ => (fi ρ).bind fun ds => loopF tgt body ds ρ
def sBrk : SF := fun ρ => some (.bk ρ)
def sCont : SF := fun ρ => some (.ct ρ)
def loopW (c : TF) (body : SF) : Nat → En → Option Fl
  | 0, _ => none
  | n + 1, ρ => match c ρ with
    | some false => some (.nx ρ)
    | some true => (match body ρ with
      | some (.nx ρ2) => loopW c body n ρ2
      | some (.ct ρ2) => loopW c body n ρ2
      | some (.bk ρ2) => some (.nx ρ2)
      | some (.rt d fr) => some (.rt d fr)
      | some (.ex n) => some (.ex n)
      | some (.rn d) => some (.rn d)
      | none => none)
    | none => none
def sWhile (fuel : En → Nat) (c : TF) (body : SF) : SF := fun ρ => loopW c body (fuel ρ) ρ
section
variable {K : PySem.W.Frag} {W : Str → Hp → Prop} {X : Cx} {wi : TI} {fi : IF} {g : TG} {tgt : GF} {tb : TS} {body : SF} {tc : TT} {c : TF}
theorem RetOk.base {Z : Addr → Prop} {B B' H : Hp} {v : V} {d : D} {fr : Bool} (s : Sme B B') (h : RetOk K Z B' H v d fr) : RetOk K Z B H v d fr := by
  obtain ⟨h1, hT, h2⟩ := h
  refine ⟨s.trans h1, hT, ?_⟩
  cases fr with
  | false => exact h2
  | true => obtain ⟨a, k1, k2, k3⟩ := h2; exact ⟨a, k1, Sme.none s k2, k3⟩
theorem StOk.rebase {Z : Addr → Prop} {B B' H : Hp} {σ : L2.St} {ρ : En} (s : Sme B B') (h : StOk K Z B' H σ ρ) : StOk K Z B H σ ρ := ⟨h.env, s.trans h.base, fun a q => Sme.none s (h.free a q)⟩
theorem Want.base {Z : Addr → Prop} {B B' : Hp} {Dn : Ends} {fl : Fl} (s : Sme B B') (w : Want K W Z B Dn fl) : Want K W Z B' Dn fl := by
  cases fl with
  | nx ρ => exact fun σ H S => w σ H (S.rebase s)
  | bk ρ => exact fun σ H S => w σ H (S.rebase s)
  | ct ρ => exact fun σ H S => w σ H (S.rebase s)
  | rt d fr => exact fun v H q => w v H (q.base s)
  | ex n => exact fun H q => w H (s.trans q)
  | rn d => exact fun v H q => w v H (q.base s)
theorem ss_brk : SemS K W tBreak sBrk := by
  intro Z B σ H ρ fl S e Dn w
  cases e
  exact w σ H S
theorem ss_cont : SemS K W tCont sCont := by
  intro Z B σ H ρ fl S e Dn w
  cases e
  exact w σ H S
theorem ss_for (hi : SemI K wi fi) (hg : SemG K g tgt) (hb : SemS K W tb body) : SemS K W (tFor wi g tb) (sFor fi tgt body) := by
  intro Z B σ H ρ fl S e Dn w
  obtain ⟨ds, e1, e⟩ := Option.bind_eq_some_iff.mp e
  refine hi Z σ H ρ ds S.env e1 _ fun J H1 s1 jok => ?_
  have S1 := S.mono s1
  -- what the loop must leave as it is
  let B' : Hp := hide (Ow σ ρ) H1
  have sB : Sme B B' := S1.base.hideN fun a z => S.free a z
  have sG : Sme (hide (Pz Z σ ρ) H1) B' := hide_mono (fun b _ _ q => .inr q) fun _ _ _ q => q
  have S2 : StOk K Z B' H1 σ ρ := ⟨S1.env, hide_same H1, fun a q => by
    have : ¬ ∃ o, B' a = some o := fun ⟨o, z⟩ => (hide_some.mp z).1 q
    cases h : B' a with
    | none => rfl
    | some o => exact absurd ⟨o, h⟩ this⟩
  have w' : Want K W Z B' Dn fl := w.base sB
  have gst : ∀ {σ' : L2.St} {H' : Hp} {ρ' : En}, StOk K Z B' H' σ' ρ' → Sme (hide (Pz Z σ ρ) H1) (hide (Pz Z σ' ρ') H') := fun {σ' H' ρ'} S' => (Sme.trans sG S'.base).hideN fun b z => by
    rcases z with z | z
    · unfold hide
      exact if_pos (.inl z)
    · exact sG.none (S'.free b z)
  refine ⟨fun i m σ' H' => m = ds.length - i ∧ i ≤ ds.length ∧ ∃ ρ', StOk K Z B' H' σ' ρ' ∧ loopF tgt body (ds.drop i) ρ' = some fl, ⟨ds.length, by simp, Nat.zero_le _, ρ, S2, e⟩, ?_⟩
  rintro i m σ' H' ⟨rfl, hi, ρ', S', e'⟩
  have sGH : Sme (hide (Pz Z σ ρ) H1) H' := Sme.trans sG S'.base
  by_cases hlt : i < ds.length
  · rw [List.drop_eq_getElem_cons hlt] at e'
    unfold loopF at e'
    obtain ⟨ρ1, e2, e'⟩ := Option.bind_eq_some_iff.mp e'
    refine .inr ⟨jok.go i H' hlt sGH, fun σ2 H2 => ∃ ρ2, StOk K Z B' H2 σ2 ρ2 ∧ loopF tgt body (ds.drop (i + 1)) ρ2 = some fl, fun σ2 H2 ⟨ρ2, k1, k2⟩ => ⟨ds.length - (i + 1), by omega, rfl, hlt, ρ2, k1, k2⟩, fun x H2 y => ?_⟩
    obtain ⟨s2, r2⟩ := jok.yld i ds[i] H' x H2 (List.getElem?_eq_getElem hlt) sGH y
    have r3 := r2 (Pz Z σ' ρ') S'.env.pok (gst S')
    refine hg Z B' σ' H2 ρ' ρ1 x ⟨ds[i], .av⟩ (S'.mono s2) r3 e2 _ fun σ3 S3 => ?_
    refine hb Z B' σ3 H2 ρ1 (match body ρ1 with | some f => f | none => fl) S3 ?_ _ ?_
    · cases q : body ρ1 with
      | none => rw [q] at e'; cases e'
      | some f => rfl
    · cases q : body ρ1 with
      | none => rw [q] at e'; cases e'
      | some f =>
        rw [q] at e'
        cases f with
        | nx ρ2 => exact fun σ4 H4 S4 => ⟨ρ2, S4, e'⟩
        | ct ρ2 => exact fun σ4 H4 S4 => ⟨ρ2, S4, e'⟩
        | bk ρ2 => cases e'; exact w'
        | rt d fr => cases e'; exact w'
        | ex n => cases e'; exact w'
        | rn d => cases e'; exact w'
  · have : i = ds.length := by omega
    subst this
    rw [List.drop_length] at e'
    cases e'
    exact .inl ⟨jok.stop _ H' (Nat.le_refl _) sGH, w' σ' H' S'⟩
theorem ss_while {fuel : En → Nat} (hc : SemT K tc c) (hb : SemS K W tb body) : SemS K W (tWhile tc tb) (sWhile fuel c body) := by
  intro Z B σ H ρ fl S e Dn w
  refine ⟨fun m σ' H' => ∃ ρ', StOk K Z B H' σ' ρ' ∧ loopW c body m ρ' = some fl, ⟨fuel ρ, ρ, S, e⟩, ?_⟩
  rintro m σ' H' ⟨ρ', S', e'⟩
  cases m with
  | zero => cases e'
  | succ m =>
    unfold loopW at e'
    split at e'
    · rename_i e1
      cases e'
      refine hc Z σ' H' ρ' _ S'.env e1 _ fun H2 s2 => ?_
      rw [if_neg Bool.false_ne_true]
      exact w σ' H2 (S'.mono s2)
    · rename_i e1
      refine hc Z σ' H' ρ' _ S'.env e1 _ fun H2 s2 => ?_
      rw [if_pos rfl]
      refine ⟨fun σ2 H2 => ∃ ρ2, StOk K Z B H2 σ2 ρ2 ∧ loopW c body m ρ2 = some fl, fun σ2 H2 q => ⟨m, Nat.lt_succ_self m, q⟩, ?_⟩
      refine hb Z B σ' H2 ρ' (match body ρ' with | some f => f | none => fl) (S'.mono s2) ?_ _ ?_
      · cases q : body ρ' with
        | none => rw [q] at e'; cases e'
        | some f => rfl
      · cases q : body ρ' with
        | none => rw [q] at e'; cases e'
        | some f =>
          rw [q] at e'
          cases f with
          | nx ρ2 => exact fun σ4 H4 S4 => ⟨ρ2, S4, e'⟩
          | ct ρ2 => exact fun σ4 H4 S4 => ⟨ρ2, S4, e'⟩
          | bk ρ2 => cases e'; exact w
          | rt d fr => cases e'; exact w
          | ex n => cases e'; exact w
          | rn d => cases e'; exact w
    · cases e'
theorem gs_brk {pos : Pos} : GS K X W (.Break pos) tBreak sBrk := ⟨ps_break, ss_brk⟩
theorem gs_cont {pos : Pos} : GS K X W (.Continue pos) tCont sCont := ⟨ps_continue, ss_cont⟩
theorem gs_for {tg iter : Expr} {bd : List Stmt} {pos : Pos} (hp : PassesOwn (model X.prog X.w) X.A X.env X.xe) (hc : X.calm = true) (hi : GI K X tg iter wi fi) (hg : GG K X tg g tgt) (hb : GSs K X W bd tb body)
    (hs : ∀ x, foldedSetIterable iter X.env x = pure x := by intro _; rfl) : GS K X W (.For tg iter bd [] pos) (tFor wi g tb) (sFor fi tgt body) := ⟨ps_for hp hc hi.p hg.p hb.p hs, ss_for hi.s hg.s hb.s⟩
theorem gs_while {ce : Expr} {bd : List Stmt} {pos : Pos} (fuel : En → Nat) (hp : PassesOwn (model X.prog X.w) X.A X.env X.xe) (hc : GT K X ce tc c) (hb : GSs K X W bd tb body) : GS K X W (.While ce bd [] pos) (tWhile tc tb) (sWhile fuel c body) := ⟨ps_while hp hc.p hb.p, ss_while hc.s hb.s⟩
end
end Fb
set_option maxHeartbeats 2000000
/-! Fb5: comprehensions, calls of defs, a def's promise. -/
namespace Fb
open PySem PySem.Spec L2
variable [γ : GSt]

/-! ### comprehensions -/
def notOwn : En → Nat → Bool := fun ρ i => match ρ[i]? with
  | some (.own _) => false
  | _ => true
def wipeE : List Nat → En → En
  | [], ρ => ρ
  | i :: is, ρ => (wipeE is ρ).set i .emp
def compF (tgt : GF) (ft : TF) (fe : EF) (ρ : En) : List D → Option (List D)
  | [] => some []
  | d :: r => (tgt ⟨d, .av⟩ ρ).bind fun ρ1 => match ft ρ1 with
    | some true => (fe ρ1).bind fun e => if okR e then (compF tgt ft fe ρ r).map (e.d :: ·) else none
    | some false => compF tgt ft fe ρ r
    | none => none
def eLc (vs : List Nat) (fi : IF) (tgt : GF) (ft : TF) (fe : EF) : EF := fun ρ => (fi ρ).bind fun ds => if vs.all (notOwn ρ) && decide (ds.length ≤ 100000) then (compF tgt ft fe (wipeE vs ρ) ds).map fun es => ⟨.lst es, .fr⟩ else none
def tYes' : TF := fun _ => some true
/-- a target that stores within the block's own names -/
def TgW (g : TG) (vs : List Nat) : Prop := ∀ (v : V) (σ : L2.St) (H : Hp) (Q : L2.St → Hp → Prop), (g v (wipe σ vs) H fun σ' H' => wipe σ' vs = wipe σ vs → Q σ' H') → g v (wipe σ vs) H fun σ' H' => wipe σ' vs = wipe σ vs ∧ Q σ' H'
/-- .. and so its meaning -/
def TgK (tgt : GF) (vs : List Nat) : Prop := ∀ (r : R) (ρ ρ' : En), tgt r ρ = some ρ' → ∀ i, i ∉ vs → ρ'[i]? = ρ[i]?
theorem wipe_set {σ : L2.St} {i : Nat} {x : Option V} : ∀ {vs : List Nat}, i ∈ vs → wipe (σ.set i x) vs = wipe σ vs
  | v :: vs, h => by
    unfold wipe
    by_cases c : i = v
    · subst c
      by_cases c2 : i ∈ vs
      · rw [wipe_set c2]
      · have key : ∀ ws : List Nat, i ∉ ws → wipe (σ.set i x) ws = (wipe σ ws).set i x := by
          intro ws
          induction ws with
          | nil => intro _; rfl
          | cons w ws ih =>
            intro hn
            rw [List.mem_cons, not_or] at hn
            unfold wipe
            rw [ih hn.2, List.set_comm _ _ hn.1]
        rw [key vs c2, List.set_set]
    · have h' : i ∈ vs := by
        rcases List.mem_cons.mp h with z | z
        · exact absurd z c
        · exact z
      rw [wipe_set h']
theorem wipe_wipe (σ : L2.St) (vs : List Nat) : wipe (wipe σ vs) vs = wipe σ vs := by
  have key : ∀ ws : List Nat, (∀ i ∈ ws, i ∈ vs) → wipe (wipe σ ws) vs = wipe σ vs := by
    intro ws
    induction ws with
    | nil => intro _; rfl
    | cons w ws ih =>
      intro h
      show wipe ((wipe σ ws).set w none) vs = wipe σ vs
      rw [wipe_set (h w List.mem_cons_self), ih fun i q => h i (List.mem_cons_of_mem _ q)]
  exact key vs fun _ q => q
theorem tgw_name {i : Nat} {vs : List Nat} (h : i ∈ vs) : TgW (gName i) vs := fun v σ H Q q => ⟨(wipe_set h).trans (wipe_wipe σ vs), q ((wipe_set h).trans (wipe_wipe σ vs))⟩
theorem tgw_names {vs : List Nat} : ∀ (is : List Nat), (∀ i ∈ is, i ∈ vs) → ∀ (ws : List V) (σ : L2.St) (H : Hp) (Q : L2.St → Hp → Prop), (gNames is ws σ H fun σ' H' => wipe σ' vs = wipe σ vs → Q σ' H') → gNames is ws σ H fun σ' H' => wipe σ' vs = wipe σ vs ∧ Q σ' H'
  | [], _, ws, σ, H, Q, ⟨e, q⟩ => ⟨e, rfl, q rfl⟩
  | i :: is, h, ws, σ, H, Q, ⟨v, r, e, q⟩ => by
    refine ⟨v, r, e, ?_⟩
    have w := wipe_set (σ := σ) (x := some v) (h i List.mem_cons_self)
    have := tgw_names is (fun j hj => h j (List.mem_cons_of_mem _ hj)) r (σ.set i (some v)) H Q (by rw [w]; exact q)
    rw [w] at this
    exact this
theorem tgw_tup {K : PySem.W.Frag} {n : Nat} {is vs : List Nat} (h : ∀ i ∈ is, i ∈ vs) : TgW (gTup K n (gNames is)) vs := fun v σ H Q ⟨a, xs, e, s, l, q⟩ => by
  have z := tgw_names is h xs (wipe σ vs) H Q (by rw [wipe_wipe]; exact q)
  rw [wipe_wipe] at z
  exact ⟨a, xs, e, s, l, z⟩
theorem tgk_name {i : Nat} {vs : List Nat} (h : i ∈ vs) : TgK (tgName i) vs := fun r ρ ρ' e j hj => by
  unfold tgName at e
  split at e
  · cases e
    exact set_get_ne fun c => hj (by rw [c]; exact h)
  · cases e
theorem tgk_names {vs : List Nat} : ∀ (is : List Nat), (∀ i ∈ is, i ∈ vs) → ∀ (ds : List D) (ρ ρ' : En), tgNames is ds ρ = some ρ' → ∀ j, j ∉ vs → ρ'[j]? = ρ[j]?
  | [], _, [], ρ, ρ', e, j, hj => by cases e; rfl
  | [], _, d :: ds, ρ, ρ', e, j, hj => by cases e
  | i :: is, h, [], ρ, ρ', e, j, hj => by cases e
  | i :: is, h, d :: ds, ρ, ρ', e, j, hj => by
    unfold tgNames at e
    split at e
    · rw [tgk_names is (fun k hk => h k (List.mem_cons_of_mem _ hk)) ds _ ρ' e j hj]
      exact set_get_ne fun c => hj (by rw [c]; exact h i List.mem_cons_self)
    · cases e
theorem tgk_tup {is vs : List Nat} (h : ∀ i ∈ is, i ∈ vs) : TgK (tgTup is) vs := fun r ρ ρ' e j hj => by
  unfold tgTup at e
  split at e
  · split at e
    · exact tgk_names is h _ ρ ρ' e j hj
    · cases e
  · cases e
section
variable {K : PySem.W.Frag} {Z : Addr → Prop} {H H1 H' : Hp} {σ : L2.St} {ρ : En} {vs : List Nat}
theorem wipeE_length : ∀ (vs : List Nat) (ρ : En), (wipeE vs ρ).length = ρ.length
  | [], _ => rfl
  | v :: vs, ρ => by unfold wipeE; rw [List.length_set, wipeE_length vs ρ]
theorem wipeE_get : ∀ {vs : List Nat} {i : Nat} {s : Sl}, (wipeE vs ρ)[i]? = some s → s = .emp ∨ (i ∉ vs ∧ ρ[i]? = some s)
  | [], i, s, h => .inr ⟨by simp, h⟩
  | v :: vs, i, s, h => by
    unfold wipeE at h
    by_cases c : i = v
    · subst c
      by_cases hv : i < (wipeE vs ρ).length
      · rw [List.getElem?_set_self hv] at h
        cases h
        exact .inl rfl
      · rw [List.getElem?_eq_none (by simpa using hv)] at h
        cases h
    · rw [set_get_ne c] at h
      rcases wipeE_get h with q | ⟨q1, q2⟩
      · exact .inl q
      · exact .inr ⟨by rw [List.mem_cons, not_or]; exact ⟨c, q1⟩, q2⟩
theorem wipe_get {i : Nat} : ∀ {vs : List Nat}, i ∉ vs → (wipe σ vs)[i]? = σ[i]?
  | [], _ => rfl
  | v :: vs, h => by
    rw [List.mem_cons, not_or] at h
    unfold wipe
    rw [set_get_ne h.1, wipe_get h.2]
/-- the environment within a block, the new list at Dl kept apart -/
theorem EnvOk.block {Dl : Addr} (E : EnvOk K Z H1 σ ρ) (hno : vs.all (notOwn ρ) = true) (hD : H1 Dl = none) (s : Same K H1 H) (hl : ∃ xs, H Dl = some (.lst xs)) : EnvOk K (fun a => Z a ∨ a = Dl) H (wipe σ vs) (wipeE vs ρ) := by
  have get : ∀ {i : Nat} {d : D}, (wipeE vs ρ)[i]? = some (.own d) → i ∉ vs ∧ ρ[i]? = some (.own d) := fun {i d} h => by
    rcases wipeE_get h with q | q
    · cases q
    · exact q
  have ow : ∀ a, Ow (wipe σ vs) (wipeE vs ρ) a → Ow σ ρ a := fun a ⟨i, d, h1, h2⟩ => by
    obtain ⟨k1, k2⟩ := get h1
    rw [wipe_get k1] at h2
    exact ⟨i, d, k2, h2⟩
  have pz : ∀ b, Pz (fun a => Z a ∨ a = Dl) (wipe σ vs) (wipeE vs ρ) b → Pz Z σ ρ b ∨ b = Dl := fun b q => by
    rcases q with (q | q) | q
    · exact .inl (.inl q)
    · exact .inr q
    · exact .inl (.inr (ow b q))
  have e : Sme (hide (Pz Z σ ρ) H1) (hide (Pz (fun a => Z a ∨ a = Dl) (wipe σ vs) (wipeE vs ρ)) H) := hide_via (fun b o q z => (pz b z).elim id fun c => by rw [c, hD] at q; cases q) s.toSme
  have nD : ∀ a, Ow σ ρ a → a ≠ Dl := fun a q c => by
    obtain ⟨o, h1, _⟩ := E.pok a (.inr q)
    rw [c, hD] at h1
    cases h1
  refine ⟨by rw [wipe_length, wipeE_length]; exact E.len, fun i d h => ?_, fun i d h => ?_, fun i j d e' a h1 h2 h3 h4 => ?_, ⟨fun a q => ?_, (E.zok.gh.mono s.toSme).more fun _ => .inl⟩, fun a q z => ?_, E.tab.mono s⟩
  · rcases wipeE_get h with q | ⟨q1, q2⟩
    · cases q
    · rw [wipe_get q1]
      obtain ⟨v, h1, h2⟩ := E.sh i d q2
      exact ⟨v, h1, Rp.mono e _ _ h2⟩
  · obtain ⟨q1, q2⟩ := get h
    rw [wipe_get q1]
    obtain ⟨a, h1, h2⟩ := E.own i d q2
    exact ⟨a, h1, h2.via (s.get a) e⟩
  · obtain ⟨q1, q2⟩ := get h1
    obtain ⟨q3, q4⟩ := get h2
    rw [wipe_get q1] at h3
    rw [wipe_get q3] at h4
    exact E.inj i j d e' a q2 q4 h3 h4
  · rcases q with q | q
    · exact E.zok.mono s.toSme a q
    · obtain ⟨xs, h⟩ := hl
      rw [q]
      exact ⟨_, h, trivial, fun _ _ z => by cases z⟩
  · rcases z with z | z
    · exact E.zdis a (ow a q) z
    · exact nD a (ow a q) z
theorem se_lcAt {wi : TI} {g : TG} {tgt : GF} {tt : TT} {ft : TF} {te : TE} {fe : EF} (hg : SemG K g tgt) (hw : TgW g vs) (hk : TgK tgt vs) (ht : SemT K tt ft) (he : SemE K te fe) {ds : List D} {r : R} (E : EnvOk K Z H σ ρ)
    (hi : ∀ R : It → Hp → Prop, (∀ J H', Same K H H' → JOk2 K H' (hide (Pz Z σ ρ) H') J ds → R J H') → wi σ H R)
    (e : (if vs.all (notOwn ρ) && decide (ds.length ≤ 100000) then (compF tgt ft fe (wipeE vs ρ) ds).map fun es => (⟨.lst es, .fr⟩ : R) else none) = some r) (Q : VK) (q : ∀ v H', Same K H H' → Res K (Pz Z σ ρ) H H' v r → Q v H') : tLc wi g tt te vs σ H Q := by
  split at e
  · rename_i hc
    rw [Bool.and_eq_true, decide_eq_true_eq] at hc
    obtain ⟨es, e2, e⟩ := Option.map_eq_some_iff.mp e
    subst e
    refine hi _ fun J H1 s1 jok => ?_
    have E1 := E.mono s1
    intro Dl hD
    have s0 : Same K H1 (upd H1 Dl (.lst [])) := same_upd hD
    refine ⟨fun i m H2 => m = ds.length - i ∧ i ≤ ds.length ∧ Same K H1 H2 ∧ ∃ acc outs rest, H2 Dl = some (.lst acc) ∧ acc.length ≤ i ∧ RpL K (hide (fun b => Pz Z σ ρ b ∨ b = Dl) H2) acc outs ∧ compF tgt ft fe (wipeE vs ρ) (ds.drop i) = some rest ∧ es = outs ++ rest,
      ⟨ds.length, by simp, Nat.zero_le _, s0, [], [], es, upd_same, Nat.le_refl _, .nil, e2, rfl⟩, ?_⟩
    rintro i m H2 ⟨rfl, hi', s2, acc, outs, rest, hA, hlen, hR, hC, hE⟩
    have sG : Same K H1 H2 := s2
    by_cases hlt : i < ds.length
    · rw [List.drop_eq_getElem_cons hlt] at hC
      unfold compF at hC
      obtain ⟨ρ1, e3, hC⟩ := Option.bind_eq_some_iff.mp hC
      refine .inr ⟨jok.go i H2 hlt sG, fun H' => Same K H1 H' ∧ ∃ acc outs rest, H' Dl = some (.lst acc) ∧ acc.length ≤ i + 1 ∧ RpL K (hide (fun b => Pz Z σ ρ b ∨ b = Dl) H') acc outs ∧ compF tgt ft fe (wipeE vs ρ) (ds.drop (i + 1)) = some rest ∧ es = outs ++ rest,
        fun H' ⟨k1, k2⟩ => ⟨ds.length - (i + 1), by omega, rfl, hlt, k1, k2⟩, fun x H3 y => ?_⟩
      obtain ⟨s3, r3⟩ := jok.yld i ds[i] H2 x H3 (List.getElem?_eq_getElem hlt) sG y
      have s13 := s2.trans s3
      have E2 : EnvOk K (fun a => Z a ∨ a = Dl) H2 (wipe σ vs) (wipeE vs ρ) := E1.block hc.1 hD s2 ⟨acc, hA⟩
      have E3 : EnvOk K (fun a => Z a ∨ a = Dl) H3 (wipe σ vs) (wipeE vs ρ) := E2.mono s3
      have lp : ∀ b, Pz (fun a => Z a ∨ a = Dl) (wipe σ vs) (wipeE vs ρ) b → Pz Z σ ρ b ∨ b = Dl := fun b z => by
        rcases z with (z | z) | ⟨j, d, z1, z2⟩
        · exact .inl (.inl z)
        · exact .inr z
        · rcases wipeE_get z1 with w | ⟨w1, w2⟩
          · cases w
          · rw [wipe_get w1] at z2
            exact .inl (.inr ⟨j, d, w2, z2⟩)
      have sg2 : Sme (hide (Pz Z σ ρ) H1) (hide (Pz (fun a => Z a ∨ a = Dl) (wipe σ vs) (wipeE vs ρ)) H2) := hide_via (fun b o q z => (lp b z).elim id fun c => by rw [c, hD] at q; cases q) s2.toSme
      have rx := r3 _ E2.pok sg2
      have S3 : StOk K (fun a => Z a ∨ a = Dl) (fun _ => none) H3 (wipe σ vs) (wipeE vs ρ) := ⟨E3, ⟨fun _ _ z => (by cases z), fun _ _ z => (by cases z)⟩, fun _ _ => rfl⟩
      refine hw x σ H3 _ (hg _ _ _ H3 (wipeE vs ρ) ρ1 x ⟨ds[i], .av⟩ S3 rx e3 _ fun σ2 S4 hwp => ?_)
      split at hC
      · rename_i e4
        obtain ⟨r, e5, hC⟩ := Option.bind_eq_some_iff.mp hC
        split at hC
        · rename_i hok
          obtain ⟨rest', e6, e7⟩ := Option.map_eq_some_iff.mp hC
          refine ht _ σ2 H3 ρ1 true S4.env e4 _ fun H4 s4 => ?_
          rw [if_pos rfl]
          refine he _ σ2 H4 ρ1 r (S4.env.mono s4) e5 _ fun y H5 s5 ry => ?_
          have s25 := s3.trans (s4.trans s5)
          have hA5 := s25 _ _ hA
          refine ⟨acc, hA5, Nat.lt_of_le_of_lt (Nat.le_trans hlen (Nat.le_of_lt hlt)) (Nat.lt_of_le_of_lt hc.2 (by decide)), ?_⟩
          have hy := (ry.opd (S4.env.mono s4).pok).okR (S4.env.mono (s4.trans s5)).pok hok
          have owk : ∀ b, Ow σ ρ b → Ow σ2 ρ1 b := fun b ⟨k, d, z1, z2⟩ => by
            have nk : k ∉ vs := fun c => by
              have := List.all_eq_true.mp hc.1 k c
              unfold notOwn at this
              rw [z1] at this
              cases this
            have q1 : (wipeE vs ρ)[k]? = ρ[k]? := by
              have key : ∀ ws : List Nat, k ∉ ws → (wipeE ws ρ)[k]? = ρ[k]? := by
                intro ws
                induction ws with
                | nil => intro _; rfl
                | cons w ws ih =>
                  intro hn
                  rw [List.mem_cons, not_or] at hn
                  unfold wipeE
                  rw [set_get_ne hn.1, ih hn.2]
              exact key vs nk
            refine ⟨k, d, by rw [hk _ _ _ e3 k nk, q1]; exact z1, ?_⟩
            have q2 := congrArg (fun l => l[k]?) hwp
            simp only [wipe_get nk] at q2
            rw [q2]
            exact z2
          have lq : ∀ b, (Pz Z σ ρ b ∨ b = Dl) → Pz (fun a => Z a ∨ a = Dl) σ2 ρ1 b := fun b z => by
            rcases z with (z | z) | z
            · exact .inl (.inl z)
            · exact .inr (owk b z)
            · exact .inl (.inr z)
          have sU : Sme (hide (Pz (fun a => Z a ∨ a = Dl) σ2 ρ1) H5) (hide (fun b => Pz Z σ ρ b ∨ b = Dl) (upd H5 Dl (.lst (acc ++ [y])))) := hide_mono (fun b _ _ z => lq b z) fun b o z k => by
            rw [upd_ne fun c => z (.inl (.inr c))]
            exact k
          have sV : Sme (hide (fun b => Pz Z σ ρ b ∨ b = Dl) H2) (hide (fun b => Pz Z σ ρ b ∨ b = Dl) (upd H5 Dl (.lst (acc ++ [y])))) := Sme.trans (same_hide s25.toSme) (hide_mono (fun _ _ _ z => z) fun b o z k => by
            rw [upd_ne fun c => z (.inr c)]
            exact k)
          refine ⟨(s2.trans s25).updN hD hA5 trivial, acc ++ [y], outs ++ [r.d], rest', upd_same, ?_, (RpL.mono sV _ _ hR).append (.cons (Rp.mono sU _ _ hy) .nil), e6, ?_⟩
          · rw [List.length_append, List.length_singleton]
            omega
          · rw [hE, ← e7, List.append_assoc]
            rfl
        · cases hC
      · rename_i e4
        refine ht _ σ2 H3 ρ1 false S4.env e4 _ fun H4 s4 => ?_
        rw [if_neg Bool.false_ne_true]
        have s24 := s3.trans s4
        exact ⟨s2.trans s24, acc, outs, rest, s24 _ _ hA, Nat.le_succ_of_le hlen, RpL.mono (same_hide s24) _ _ hR, hC, hE⟩
      · cases hC
    · have : i = ds.length := by omega
      subst this
      rw [List.drop_length] at hC
      cases hC
      rw [List.append_nil] at hE
      subst hE
      exact .inl ⟨jok.stop _ H2 (Nat.le_refl _) sG, q _ H2 (s1.trans s2) ⟨Dl, rfl, Sme.none s1 hD, acc, hA, hR⟩⟩
  · cases e
theorem se_lc {wi : TI} {fi : IF} {g : TG} {tgt : GF} {tt : TT} {ft : TF} {te : TE} {fe : EF} (hi : SemIc K wi fi) (hg : SemG K g tgt) (hw : TgW g vs) (hk : TgK tgt vs) (ht : SemT K tt ft) (he : SemE K te fe) : SemE K (tLc wi g tt te vs) (eLc vs fi tgt ft fe) := by
  intro Z σ H ρ r E e Q q
  obtain ⟨ds, e1, e⟩ := Option.bind_eq_some_iff.mp e
  exact se_lcAt hg hw hk ht he E (hi Z σ H ρ ds E e1) e Q q
end

/-! ### comprehensions, as rules -/
abbrev XB (X : Cx) (scope : Scope) (s : Shared) (H : Hp) (C : Addr) (cl : List (Str × Addr)) (fp : List Addr) : Cx := X.blk s H scope (compEnvC scope cl C X.env) fp
section
variable {K : PySem.W.Frag} {X : Cx} {W : Str → Hp → Prop} {elt tg iter : Expr} {ifs : List Expr} {scope : Scope} {own : List (Str × Nat)} {pos spos py : Pos} {wi : TI} {fi : IF} {g : TG} {tgt : GF} {tt : TT} {ft : TF} {te : TE} {fe : EF}
/-- the tests of a comprehension -/
structure GTs (K : PySem.W.Frag) (X : Cx) (ifs : List Expr) (t : TT) (f : TF) : Prop where
  p : PTs X ifs t
  s : SemT K t f
theorem st_yes : SemT K tYes tYes' := by
  intro Z σ H ρ b E e Q q
  cases e
  exact q H (Same.refl H)
theorem gts_nil : GTs K X [] tYes tYes' := ⟨pts_nil, st_yes⟩
theorem gts_one {c : Expr} {t : TT} {f : TF} (h : GT K X c t f) : GTs K X [c] t f := ⟨pts_one h.p, h.s⟩
/-- a block's target: within the names vs -/
structure GGb (K : PySem.W.Frag) (X : Cx) (e : Expr) (g : TG) (f : GF) (vs : List Nat) : Prop where
  gg : GG K X e g f
  w : TgW g vs
  k : TgK f vs
theorem ggb_name {i : Nat} {x : Str} {pos : Pos} {vs : List Nat} (hN : X.N.Nodup) (hi : X.N[i]? = some x := by rfl) (hx : Loc X.env.scope x := by first | exact Or.inl rfl | exact Or.inr rfl) (hf : X.fn x = true ∨ X.env.scope.names.lookup x = some .local := by first | exact .inl rfl | exact .inr rfl) (h : i ∈ vs := by decide) : GGb K X (.Name x pos) (gName i) (tgName i) vs := ⟨gg_name hN hi hx hf, tgw_name h, tgk_name h⟩
theorem ggb_tup {es : List Expr} {k : Nat} {pos : Pos} {is vs : List Nat} (hc : X.calm = true) (h : GGs X es is)
    (hn : (assignEach es X.env).length = is.length := by rfl) (hst : (assignEach es X.env).findIdx? (·.1) = none := by rfl) (hv : ∀ i ∈ is, i ∈ vs := by decide) (hk : X.K = K := by rfl) : GGb K X (.Tuple es k pos) (gTup K is.length (gNames is)) (tgTup is) vs := ⟨gg_tup hc h hn hst hk, tgw_tup hv, tgk_tup hv⟩
theorem ge_lc (own : List (Str × Nat)) (hc : X.calm = true) (hN : X.N.Nodup) (hi : GIc K X tg iter wi fi) (N : List Str) (sc : Scope) (ok : blkC N sc scope own = true)
    (hg : ∀ s H C cl fp, GGb K (XB X scope s H C cl fp) tg g tgt (own.map (·.2))) (ht : ∀ s H C cl fp, GTs K (XB X scope s H C cl fp) ifs tt ft) (he : ∀ s H C cl fp, GE K (XB X scope s H C cl fp) elt te fe)
    (hs : ∀ x, foldedSetIterable iter X.env x = pure x := by intro _; rfl) (eN : X.N = N := by rfl) (eS : X.env.scope = sc := by rfl) : GE K X (.ListComp elt [⟨tg, iter, ifs, 0⟩] scope pos) (tLc wi g tt te (own.map (·.2))) (eLc (own.map (·.2)) fi tgt ft fe) := by
  have sh : Shared := (PySem.start X.prog).1
  subst eN eS
  refine ⟨pe_lc hc hN hi.p (blkOk_by ok) (fun s H C cl fp => (hg s H C cl fp).gg.p) (fun s H C cl fp => (ht s H C cl fp).p) (fun s H C cl fp => (he s H C cl fp).p) hs, ?_⟩
  have h1 := hg sh (fun _ => none) 0 [] []
  exact se_lc hi.s h1.gg.s h1.w h1.k (ht sh (fun _ => none) 0 [] []).s (he sh (fun _ => none) 0 [] []).s
theorem gs_setLc {i : Nat} {y : Str} (own : List (Str × Nat)) (hc : X.calm = true) (hN : X.N.Nodup) (hsw : swapsWith (.ListComp elt [⟨tg, iter, ifs, 0⟩] scope pos) (some (.Name y py)) spos.line X.env = pure true) (hi : GIc K X tg iter wi fi) (N : List Str) (sc : Scope) (ok : blkC N sc scope own = true)
    (hg : ∀ s H C cl fp, GGb K (XB X scope s H C cl fp) tg g tgt (own.map (·.2))) (ht : ∀ s H C cl fp, GTs K (XB X scope s H C cl fp) ifs tt ft) (he : ∀ s H C cl fp, GE K (XB X scope s H C cl fp) elt te fe)
    (hy : X.N[i]? = some y := by rfl) (hyl : X.env.scope.names.lookup y = some .local := by rfl) (hs : ∀ x, foldedSetIterable iter X.env x = pure x := by intro _; rfl) (eN : X.N = N := by rfl) (eS : X.env.scope = sc := by rfl) :
    GS K X W (.Assign [.Name y py] (.ListComp elt [⟨tg, iter, ifs, 0⟩] scope pos) spos) (tAsg (tLc wi g tt te (own.map (·.2))) (gName i)) (sSet i (eLc (own.map (·.2)) fi tgt ft fe)) := by
  have sh : Shared := (PySem.start X.prog).1
  subst eN eS
  refine ⟨ps_setLc hc hN hy hyl hsw hi.p (blkOk_by ok) (fun s H C cl fp => (hg s H C cl fp).gg.p) (fun s H C cl fp => (ht s H C cl fp).p) (fun s H C cl fp => (he s H C cl fp).p) hs, ?_⟩
  have h1 := hg sh (fun _ => none) 0 [] []
  exact ss_set (se_lc hi.s h1.gg.s h1.w h1.k (ht sh (fun _ => none) 0 [] []).s (he sh (fun _ => none) 0 [] []).s)
end

/-! ### a def's promise -/
inductive Out where
  | val (d : D) (fr : Bool) | exc (n : Str) | nw (d : D)
abbrev FF := List D → Option Out
def OutOk (K : PySem.W.Frag) (mg : Str → Option Value) (Z : Addr → Prop) (H : Hp) (Q : VK) (E : XK) : Out → Prop
  | .val d fr => ∀ v H', RetOk K Z H H' v d fr → Q v H'
  | .exc n => ∀ C, mg n = some (.ref C) → ∀ H', Sme H H' → TabsK K H' → E (.ref C) none H'
  | .nw d => ∀ v H', RnOk K H H' v d → Q v H'
def spDg (g : GSt) (K : PySem.W.Frag) (mg : Str → Option Value) (n : Nat) (F : FF) : Sp := fun vs H Q E => vs.length = n ∧ TabsK K H ∧ ∃ (Z : Addr → Prop) (ds : List D) (o : Out), @POk g Z H ∧ RpL K (hide Z H) vs ds ∧ F ds = some o ∧ OutOk K mg Z H Q E o
/-- without dicts that stand for themselves -/
abbrev spD := spDg gTriv
def WN (mg : Str → Option Value) (E : XK) : Str → Hp → Prop := fun n H => ∀ C, mg n = some (.ref C) → E (.ref C) none H
/-- a body as a function of the arguments: m slots beside them -/
def fnF (m : Nat) (body : SF) : FF := fun ds => match body (ds.map .sh ++ List.replicate m .emp) with
  | some (.rt d fr) => some (.val d fr)
  | some (.nx _) => some (.val .non false)
  | some (.ex n) => some (.exc n)
  | some (.rn d) => some (.nw d)
  | _ => none
section
variable {K : PySem.W.Frag} {mg : Str → Option Value} {P : Program} {w : World} {base : Heap}
theorem start_ok {Z : Addr → Prop} {H : Hp} {N : List Str} {vs : List V} {ds : List D} {m : Nat} (hm : N.length = vs.length + m) (hZ : POk Z H) (hT : TabsK K H) (h : RpL K (hide Z H) vs ds) : StOk K Z H H (L2.start N vs) (ds.map .sh ++ List.replicate m .emp) := by
  have hl := h.length
  have sl : (L2.start N vs).length = vs.length + m := by
    unfold L2.start
    rw [List.length_append, List.length_map, List.length_replicate]
    omega
  have noown : ∀ {i : Nat} {d : D}, (ds.map Sl.sh ++ List.replicate m Sl.emp)[i]? = some (.own d) → False := fun {i d} q => by
    have hm := List.mem_of_getElem? q
    rcases List.mem_append.mp hm with z | z
    · obtain ⟨x, _, e⟩ := List.mem_map.mp z
      cases e
    · cases (List.mem_replicate.mp z).2
  have now : ∀ a, ¬ Ow (L2.start N vs) (ds.map .sh ++ List.replicate m .emp) a := fun a ⟨i, d, h1, _⟩ => noown h1
  have pz : Sme (hide Z H) (hide (Pz Z (L2.start N vs) (ds.map .sh ++ List.replicate m .emp)) H) := hide_mono (fun b _ _ q => q.elim id fun z => absurd z (now b)) fun _ _ _ q => q
  refine ⟨⟨?_, fun i d q => ?_, fun i d q => (noown q).elim, fun i j d e a q _ _ _ => (noown q).elim, hZ, fun a q => absurd q (now a), hT⟩, Sme.refl H, fun a q => absurd q (now a)⟩
  · rw [sl, List.length_append, List.length_map, List.length_replicate, hl]
  · by_cases hi : i < ds.length
    · rw [List.getElem?_append_left (by rw [List.length_map]; exact hi), List.getElem?_map] at q
      obtain ⟨x, q1, q2⟩ := Option.map_eq_some_iff.mp q
      cases q2
      obtain ⟨v, k1, k2⟩ := h.get q1
      refine ⟨v, ?_, Rp.mono pz _ _ k2⟩
      unfold L2.start
      rw [List.getElem?_append_left (by rw [List.length_map, hl]; exact hi), List.getElem?_map, k1]
      rfl
    · rw [List.getElem?_append_right (by rw [List.length_map]; omega)] at q
      have := (List.mem_replicate.mp (List.mem_of_getElem? q)).2
      cases this
theorem fn_want {Z : Addr → Prop} {H : Hp} {Q : VK} {E : XK} {body : SF} {m : Nat} {ds : List D} {o : Out} (e : fnF m body ds = some o) (q : OutOk K mg Z H Q E o) :
    ∃ fl, body (ds.map .sh ++ List.replicate m .emp) = some fl ∧ Want K (WN mg E) Z H { nx := fun _ H' => Q .non H', rt := Q } fl := by
  unfold fnF at e
  split at e
  · rename_i d fr h
    cases e
    exact ⟨_, h, fun v H' r => q v H' r⟩
  · rename_i ρ h
    cases e
    exact ⟨_, h, fun σ H' S => q .non H' ⟨S.base, S.env.tab, .non⟩⟩
  · rename_i n h
    cases e
    exact ⟨_, h, fun H' s t C hC => q C hC H' s t⟩
  · rename_i d h
    cases e
    exact ⟨_, h, fun v H' r => q v H' r⟩
  · cases e
/-- a def that lets nothing out -/
theorem fn_ok {x qual : Str} {st : Stmt} {f : Addr} {fd : FuncData} {N ps : List Str} {k m : Nat} {body : SF} (F : Fun K x qual st f fd) (S : FnScope N ps (defScope st)) (hm : N.length = ps.length + m)
    (hb : ∀ (cdv : Value) (A : Around) (outer : List Env) (s : Shared) (H : Hp) (E : XK), Room k (A.deeper (PyProof.Rows.envOfC qual (defScope st) s.heap.objs.size f cdv)) → ∃ t, GSs K (cxOf CX0 P w K mg base N qual (defScope st) f cdv A outer s H E).nox (WN mg E) (defBody st) t body) :
    FnOk P w K mg base CX0 (k + 1) f fd ps (spDg γ K mg ps.length (fnF m body)) := by
  refine F.ok S (fun vs H Q E h => h.1) (fun cdv A outer s H vs Q E hr h => ?_)
  obtain ⟨hl, hT, Z, ds, o, hZ, hv, ho, q⟩ := h
  obtain ⟨t, g⟩ := hb cdv A outer s H E hr
  obtain ⟨fl, e1, w1⟩ := fn_want ho q
  exact ⟨t, g.p, g.s Z H _ H _ fl (start_ok (by rw [hl]; exact hm) hZ hT hv) e1 _ w1⟩
/-- a def that may raise -/
theorem fn_okX {x qual : Str} {st : Stmt} {f : Addr} {fd : FuncData} {N ps : List Str} {k m : Nat} {body : SF} (F : Fun K x qual st f fd) (S : FnScope N ps (defScope st)) (hm : N.length = ps.length + m)
    (hb : ∀ (cdv : Value) (A : Around) (outer : List Env) (s : Shared) (H : Hp) (E : XK), Room k (A.deeper (PyProof.Rows.envOfC qual (defScope st) s.heap.objs.size f cdv)) → ∃ t, GSs K (cxOf (L2.CX P w) P w K mg base N qual (defScope st) f cdv A outer s H E) (WN mg E) (defBody st) t body) :
    FnOk P w K mg base (L2.CX P w) (k + 1) f fd ps (spDg γ K mg ps.length (fnF m body)) := by
  refine F.okX S (fun vs H Q E h => h.1) (fun cdv A outer s H vs Q E hr h => ?_)
  obtain ⟨hl, hT, Z, ds, o, hZ, hv, ho, q⟩ := h
  obtain ⟨t, g⟩ := hb cdv A outer s H E hr
  obtain ⟨fl, e1, w1⟩ := fn_want ho q
  exact ⟨t, g.p, g.s Z H _ H _ fl (start_ok (by rw [hl]; exact hm) hZ hT hv) e1 _ w1⟩
/-- another function of the arguments that is told as much -/
theorem fn_imp {CX : CXT} {k n : Nat} {f : Addr} {fd : FuncData} {ps : List Str} {F G : FF} (h : FnOk P w K mg base CX k f fd ps (spD K mg n F)) (e : ∀ ds o, G ds = some o → F ds = some o) : FnOk P w K mg base CX k f fd ps (spD K mg n G) :=
  h.imp fun vs H Q E ⟨hl, hT, Z, ds, o, hZ, hv, ho, q⟩ => ⟨hl, hT, Z, ds, o, hZ, hv, e ds o ho, q⟩
end

/-! ### calls of defs -/
/-- a list of things without lists -/
def immI : D → Bool
  | .lst ds => imm.immL ds
  | _ => false
/-- the mode of what a call gives back -/
def cMd (b fr : Bool) (d : D) : Md := if b then (if fr then .fr else .av) else if fr && immI d then .fr else .bor
def eCall (G : FF) (dd : List D) (fa : AF) : EF := fun ρ => (fa ρ).bind fun rs => match G (rs.map R.d ++ dd) with
  | some (.val d fr) => some ⟨d, cMd (okL rs) fr d⟩
  | some (.nw d) => some ⟨d, .av⟩
  | _ => none
section
variable {X : Cx} {K : PySem.W.Frag} {mg : Str → Option Value} {G : FF} {n : Nat} {ta : TA} {fa : AF} {dvs : List V} {dd : List D} {E0 : XK}
def OutMet (K : PySem.W.Frag) (mg : Str → Option Value) (P : Addr → Prop) (H : Hp) (Q : VK) (E0 : XK) (b : Bool) : Out → Prop
  | .val d fr => ∀ v H2, Same K H H2 → Res K P H H2 v ⟨d, cMd b fr d⟩ → Q v H2
  | .exc n => ∀ C, mg n = some (.ref C) → ∀ H2, Same K H H2 → E0 (.ref C) none H2
  | .nw d => ∀ v H2, Same K H H2 → Res K P H H2 v ⟨d, .av⟩ → Q v H2
theorem hide_no (H : Hp) : Sme H (hide (fun _ => False) H) := Sme.of fun b o z => hide_some.mpr ⟨fun z => z, z⟩
/-- what a call asks, met by its arguments -/
theorem spD_met {Z : Addr → Prop} {σ : L2.St} {ρ : En} {H H1 : Hp} {vs : List V} {rs : List R} {o : Out} {Q : VK} (E1 : EnvOk K Z H1 σ ρ) (s1 : Same K H H1) (r1 : ResL K (Pz Z σ ρ) H1 vs rs) (hd : ∀ H, RpL K H dvs dd) (hn : rs.length + dd.length = n) (e2 : G (rs.map R.d ++ dd) = some o)
    (q : OutMet K mg (Pz Z σ ρ) H Q E0 (okL rs) o) : spD K mg n G (vs ++ dvs) H1 Q E0 := by
  refine ⟨by rw [List.length_append, r1.length, (hd H).length]; exact hn, E1.tab, ?_⟩
  cases o with
  | exc n =>
    refine ⟨fun _ => False, rs.map R.d ++ dd, _, pok_no H1, RpL.mono (hide_no H1) _ _ (r1.rp.append (hd _)), e2, fun C hC H2 s2 t2 => q C hC H2 (s1.trans ⟨s2, fun _ => t2⟩)⟩
  | nw d =>
    refine ⟨fun _ => False, rs.map R.d ++ dd, _, pok_no H1, RpL.mono (hide_no H1) _ _ (r1.rp.append (hd _)), e2, fun v H2 ⟨s2, t2, r2⟩ => ?_⟩
    refine q v H2 (s1.trans ⟨s2, fun _ => t2⟩) (Rp.mono (hide_mono (fun b _ _ z => ?_) fun _ _ _ z => z) _ _ r2)
    exact E1.pok b z
  | val d fr =>
    by_cases c : okL rs = true
    · refine ⟨Pz Z σ ρ, rs.map R.d ++ dd, _, E1.pok.triv, (r1.okL E1.pok c).append (hd _), e2, fun v H2 ⟨s2', t2, r2⟩ => ?_⟩
      have s2 : Same K H1 H2 := ⟨s2', fun _ => t2⟩
      refine q v H2 (s1.trans s2) ?_
      unfold cMd
      rw [if_pos c]
      cases fr with
      | false => exact r2
      | true =>
        obtain ⟨a, k1, k2, k3⟩ := r2
        exact ⟨a, k1, Sme.none s1 k2, k3⟩
    · refine ⟨fun _ => False, rs.map R.d ++ dd, _, pok_no H1, RpL.mono (hide_no H1) _ _ (r1.rp.append (hd _)), e2, fun v H2 ⟨s2', t2, r2⟩ => ?_⟩
      have s2 : Same K H1 H2 := ⟨s2', fun _ => t2⟩
      refine q v H2 (s1.trans s2) ?_
      unfold cMd
      rw [if_neg c]
      cases fr with
      | false => exact Rp.mono (hide_same H2) _ _ r2
      | true =>
        obtain ⟨a, k1, k2, k3⟩ := r2
        subst k1
        by_cases ci : immI d = true
        · rw [if_pos (by simpa using ci)]
          cases d with
          | lst ds =>
            obtain ⟨vs, g1, g2⟩ := k3
            have P2 := (E1.mono s2).pok
            refine ⟨a, rfl, Sme.none s1 k2, vs, g1, RpL.immK ⟨fun b xs q => ?_, fun b C dx q => ?_, fun b oe φ q => ?_⟩ _ _ ci g2⟩
            · have q2 := (hide_some.mp q).2
              refine hide_some.mpr ⟨fun z => ?_, q2⟩
              rcases z with z | z
              · exact (hide_some.mp (P2.stup.1 _ _ q2)).1 z
              · rw [z, g1] at q2
                cases q2
            · have q2 := (hide_some.mp q).2
              refine hide_some.mpr ⟨fun z => ?_, q2⟩
              rcases z with z | z
              · exact (hide_some.mp (P2.stup.2.1 _ _ _ q2)).1 z
              · rw [z, g1] at q2
                cases q2
            · have q2 := (hide_some.mp q).2
              refine hide_some.mpr ⟨fun z => ?_, q2⟩
              rcases z with z | z
              · exact (hide_some.mp (P2.stup.2.2 _ _ _ q2)).1 z
              · rw [z, g1] at q2
                cases q2
          | _ => cases ci
        · rw [if_neg (by simpa using ci)]
          exact k3.rp
theorem se_call (hd : ∀ H, RpL K H dvs dd) (h : SemA K ta fa) (hn : ∀ ρ rs, fa ρ = some rs → rs.length + dd.length = n) : SemE K (tCall (spD K mg n G) dvs E0 ta) (eCall G dd fa) := by
  intro Z σ H ρ r E e Q q
  obtain ⟨rs, e1, e⟩ := Option.bind_eq_some_iff.mp e
  split at e
  · rename_i d fr e2
    cases e
    exact h Z σ H ρ rs E e1 _ fun vs H1 s1 r1 => spD_met (E.mono s1) s1 r1 hd (hn ρ rs e1) e2 q
  · rename_i d e2
    cases e
    exact h Z σ H ρ rs E e1 _ fun vs H1 s1 r1 => spD_met (E.mono s1) s1 r1 hd (hn ρ rs e1) e2 q
  · cases e
variable {CX : CXT} {k : Nat} {f : Addr} {fd : FuncData} {ps : List Str} {ds : List Value} {x : Str} {p pos : Pos} {e : Expr} {es : List Expr}
theorem ge_call (F : FnOk X.prog X.w K mg X.base CX k f fd ps (spD K mg n G)) (hr : Room k X.A) (hm : mg x = some (.ref f)) (hk : PySem.W.keepIn K (.ref f) = true) (hb : Binds K fd ps ds) (hdv : Vals dvs ds) (hd : ∀ H, RpL K H dvs dd) (hx : Passes CX X E0) (ha : GA K X (e :: es) ta fa)
    (hn : ∀ ρ rs, fa ρ = some rs → rs.length + dd.length = n) (hg : Gl X x := by rfl) (hdb : (x == ("__debug__" : Str)) = false := by decide) (he : starEach (e :: es) X.env = (false, eval e X.env) :: starEach es X.env := by rfl) (hpl : (backTo pos (starEach es X.env)).any (·.1) = false := by rfl) (eK : X.K = K := by rfl) (eM : X.mg = mg := by rfl) :
    GE K X (.Call (.Name x p) (e :: es) [] pos) (tCall (spD K mg n G) dvs E0 ta) (eCall G dd fa) := by
  subst eK eM
  exact ⟨pe_call F hr hg hm hk hb hdv hx ha.p hdb he hpl, se_call hd ha.s hn⟩
end
/-- how many arguments -/
def ArgN (fa : AF) (n : Nat) : Prop := ∀ ρ rs, fa ρ = some rs → rs.length = n
theorem argN_nil : ArgN aNil 0 := fun ρ rs e => by cases e; rfl
theorem argN_cons {f : EF} {g : AF} {n : Nat} (h : ArgN g n) : ArgN (aCons f g) (n + 1) := fun ρ rs e => by
  obtain ⟨a, e1, e⟩ := Option.bind_eq_some_iff.mp e
  obtain ⟨as, e2, e⟩ := Option.bind_eq_some_iff.mp e
  cases e
  rw [List.length_cons, h ρ as e2]

/-! ### the law -/
def spLaw (K : PySem.W.Frag) : Sp := fun vs H Q _ => ∃ (a : Addr) (ns : List Int), vs = [.ref a] ∧ SqL K H a (ns.map V.int) ∧ ns.length ≤ 63 ∧ ∀ H', Q (.bl true) H'
theorem law_ok {P : Program} {w : World} {K : PySem.W.Frag} {mg : Str → Option Value} {base : Heap} {CX : CXT} {k : Nat} {f : Addr} {fd : FuncData} {ps : List Str} {F : FF} (ht : PySem.W.tabIn K lamF = none) (h : FnOk P w K mg base CX k f fd ps (spD K mg 1 F)) (e : ∀ ns : List Int, ns.length ≤ 63 → F [.ro ns] = some (.val (.bl true) false)) : FnOk P w K mg base CX k f fd ps (spLaw K) :=
  h.imp fun vs H Q E ⟨a, ns, hv, hs, hl, q⟩ => by
    subst hv
    refine ⟨rfl, fun c P z => (by rw [ht] at z; cases z), fun _ => False, [.ro ns], _, pok_no _, .cons (.ro (Sme.sqL (Sme.of fun b o z => hide_some.mpr ⟨fun z => z, z⟩) hs)) .nil, e ns hl, fun v H' ⟨_, _, r⟩ => ?_⟩
    cases r
    exact q H'
end Fb
set_option maxHeartbeats 2000000
/-! Fb6: what a law's text says of its defs; dicts with tuples of ints and texts for keys; sorted. -/
namespace Fb
open PySem PySem.Spec L2
variable [γ : GSt]

abbrev DefTxt (K : PySem.W.Frag) (mg : Str → Option Value) (x : Str) (f : Addr) (fd : FuncData) (ps : List Str) : Prop := mg x = some (.ref f) ∧ PySem.W.keepIn K (.ref f) = true ∧ Binds K fd ps []

/-! ### keys -/
def keyD : D → Option Key
  | .int i => some (.inl i)
  | .str x => some (.inr x)
  | _ => none
def keysD : List D → Option (List Key)
  | [] => some []
  | d :: r => (keyD d).bind fun k => (keysD r).map (k :: ·)
def unKey : Key → D
  | .inl i => .int i
  | .inr x => .str x
section
variable {K : PySem.W.Frag} {P P' Z : Addr → Prop} {H H' : Hp} {σ : L2.St} {ρ : En}
theorem keyD_rp {v : V} {d : D} {k : Key} (h : Rp K H v d) (e : keyD d = some k) : v = kV k := by
  cases h <;> cases e <;> rfl
theorem keysD_rp : ∀ {vs : List V} {ds : List D} {ks : List Key}, RpL K H vs ds → keysD ds = some ks → vs = ks.map kV
  | _, _, ks, .nil, e => by cases e; rfl
  | _, _, ks, .cons h t, e => by
    obtain ⟨k, e1, e⟩ := Option.bind_eq_some_iff.mp e
    obtain ⟨r, e2, e⟩ := Option.map_eq_some_iff.mp e
    subst e
    rw [keyD_rp h e1, keysD_rp t e2]
    rfl
theorem unKey_rp (k : Key) : Rp K H (kV k) (unKey k) := by
  cases k with
  | inl i => exact .int i
  | inr x => exact .str x
theorem unKeys_rp : ∀ ks : List Key, RpL K H (ks.map kV) (ks.map unKey)
  | [] => .nil
  | k :: r => .cons (unKey_rp k) (unKeys_rp r)
/-! ### tables -/
def valD (kvs : List (List Key × D)) (k : List Key) : Option D := (kvs.find? fun kv => decide (kv.1 = k)).map (·.2)
def putD (kvs : List (List Key × D)) (k : List Key) (v : D) : List (List Key × D) :=
  if (kvs.any fun kv => decide (kv.1 = k)) = true then kvs.map (fun kv => if kv.1 = k then (kv.1, v) else kv) else kvs ++ [(k, v)]
theorem RpT.val : ∀ {vs : List (List Key × V)} {ds : List (List Key × D)} (k : List Key), RpT K H vs ds → (∀ d, valD ds k = some d → ∃ v, valV vs k = some v ∧ Rp K H v d) ∧ (valD ds k = none → valV vs k = none)
  | _, _, k, .nil => ⟨fun d e => (by cases e), fun _ => rfl⟩
  | (k', v) :: vs, (_, d) :: ds, k, .cons h t => by
    by_cases c : k' = k
    · subst c
      refine ⟨fun d' e => ?_, fun e => ?_⟩
      · have : valD ((k', d) :: ds) k' = some d := by simp [valD, List.find?_cons]
        rw [this] at e
        cases e
        exact ⟨v, valV_pos rfl, h⟩
      · have : valD ((k', d) :: ds) k' = some d := by simp [valD, List.find?_cons]
        rw [this] at e
        cases e
    · have e1 : valD ((k', d) :: ds) k = valD ds k := by simp [valD, List.find?_cons, c]
      have e2 : valV ((k', v) :: vs) k = valV vs k := valV_neg c
      rw [e1, e2]
      exact RpT.val k t
theorem RpT.any {k : List Key} : ∀ {vs : List (List Key × V)} {ds : List (List Key × D)}, RpT K H vs ds → (vs.any fun kv => decide (kv.1 = k)) = ds.any fun kv => decide (kv.1 = k)
  | _, _, .nil => rfl
  | _, _, .cons h t => by rw [List.any_cons, List.any_cons, RpT.any t]
theorem RpT.snoc {k : List Key} {v : V} {d : D} (h : Rp K H v d) : ∀ {vs : List (List Key × V)} {ds : List (List Key × D)}, RpT K H vs ds → RpT K H (vs ++ [(k, v)]) (ds ++ [(k, d)])
  | _, _, .nil => .cons h .nil
  | _, _, .cons h1 t => .cons h1 (RpT.snoc h t)
theorem RpT.repl {k : List Key} {v : V} {d : D} (h : Rp K H v d) : ∀ {vs : List (List Key × V)} {ds : List (List Key × D)}, RpT K H vs ds → RpT K H (vs.map fun kv => if kv.1 = k then (kv.1, v) else kv) (ds.map fun kv => if kv.1 = k then (kv.1, d) else kv)
  | _, _, .nil => .nil
  | (k', v') :: vs, (_, d') :: ds, .cons h1 t => by
    rw [List.map_cons, List.map_cons]
    by_cases c : k' = k
    · simp only [c, if_true]
      exact .cons h (RpT.repl h t)
    · simp only [c, if_false]
      exact .cons h1 (RpT.repl h t)
theorem RpT.put {k : List Key} {v : V} {d : D} (h : Rp K H v d) {vs : List (List Key × V)} {ds : List (List Key × D)} (t : RpT K H vs ds) : RpT K H (putK vs k v) (putD ds k d) := by
  unfold putK putD
  rw [RpT.any t]
  split
  · exact RpT.repl h t
  · exact RpT.snoc h t
theorem RpT.length : ∀ {vs : List (List Key × V)} {ds : List (List Key × D)}, RpT K H vs ds → vs.length = ds.length
  | _, _, .nil => rfl
  | _, _, .cons _ t => congrArg (· + 1) (RpT.length t)
theorem RpT.get : ∀ {vs : List (List Key × V)} {ds : List (List Key × D)} {i : Nat} {k : List Key} {v : V}, RpT K H vs ds → vs[i]? = some (k, v) → ∃ d, ds[i]? = some (k, d) ∧ Rp K H v d
  | _, _, i, k, v, .nil, e => by simp at e
  | _, _, 0, k, v, .cons h t, e => by
    cases Option.some.inj e
    exact ⟨_, rfl, h⟩
  | _, _, i + 1, k, v, .cons h t, e => RpT.get (i := i) t e
theorem Opd.dT {ds : List (List Key × D)} {m : Md} {v : V} (h : Opd K P H v ⟨.dT ds, m⟩) : ∃ a vs, v = .ref a ∧ Rd H a (.dT vs) ∧ RpT K H vs ds := by
  cases m with
  | top => obtain ⟨a, h1, vs, h2, h3⟩ := h; exact ⟨a, vs, h1, .inl h2, RpT.mono (hide_same H) _ _ h3⟩
  | bor =>
    cases h with
    | dT s r => exact ⟨_, _, rfl, s, r⟩
  | av =>
    cases h with
    | dT s r => exact ⟨_, _, rfl, (hide_same H).rdT s, RpT.mono (hide_same H) _ _ r⟩
  | fr =>
    cases h with
    | dT s r => exact ⟨_, _, rfl, (hide_same H).rdT s, RpT.mono (hide_same H) _ _ r⟩
theorem Opd.dTop {ds : List (List Key × D)} {v : V} (h : Opd K P H v ⟨.dT ds, .top⟩) : ∃ a vs, v = .ref a ∧ H a = some (.dT vs) ∧ RpT K H vs ds := by
  obtain ⟨a, h1, vs, h2, h3⟩ := h
  exact ⟨a, vs, h1, h2, RpT.mono (hide_same H) _ _ h3⟩
theorem Opd.tupS {ds : List D} {m : Md} {v : V} (h : Opd K P H v ⟨.tup ds, m⟩) : ∃ a vs, v = .ref a ∧ H a = some (.tup vs) ∧ RpL K H vs ds := by
  cases h.rp with
  | tup s r => exact ⟨_, _, rfl, s, r⟩
end

/-! ### {} -/
def eDictT : EF := fun _ => some ⟨.dT [], .fr⟩
/-! ### d[k], d.get(k, x), d[k] = v, len(d) -/
def dGet : R → R → Option R
  | ⟨.dT kvs, _⟩, ⟨.tup ks, _⟩ => (keysD ks).bind fun k => (valD kvs k).map fun d => ⟨d, md (imm d)⟩
  | _, _ => none
def eDGet (fa fb : EF) : EF := fun ρ => (fa ρ).bind fun a => (fb ρ).bind fun b => dGet a b
def dGet2 : R → R → R → Option R
  | ⟨.dT kvs, _⟩, ⟨.tup ks, _⟩, c => (keysD ks).bind fun k => match valD kvs k with
    | some d => some ⟨d, md (imm d)⟩
    | none => some ⟨c.d, md (okR c)⟩
  | _, _, _ => none
def eDGet2 (fa fb fc : EF) : EF := fun ρ => (fa ρ).bind fun a => (fb ρ).bind fun b => (fc ρ).bind fun c => dGet2 a b c
def sDPut (i : Nat) (fk fv : EF) : SF := fun ρ => (fv ρ).bind fun r => match ρ[i]? with
  | some (.own (.dT kvs)) => (fk ρ).bind fun k => match k.d with
    | .tup ks => (keysD ks).bind fun q => if okR r && decide (kvs.length < 100000) then some (.nx (ρ.set i (.own (.dT (putD kvs q r.d))))) else none
    | _ => none
  | _ => none
def cLenD : CF := fun as => match as with
  | [⟨.dT kvs, .top⟩] => some ⟨.int kvs.length, .av⟩
  | _ => none
section
variable {X : Cx} {K : PySem.W.Frag} {W : Str → Hp → Prop} {td ty tx tv : TE} {fa fb fc : EF} {o i e f value : Expr} {pos pos' : Pos}
theorem se_dictT : SemE K tDNewT eDictT := by
  intro Z σ H ρ r E h Q q p hp
  cases h
  exact q _ _ (same_upd hp) ⟨p, rfl, hp, [], upd_same, .nil⟩
theorem ge_dictT : GE K X (.Dict [] [] pos) tDNewT eDictT := ⟨pe_dnewT, se_dictT⟩
theorem rp_md {P : Addr → Prop} {H : Hp} {v : V} {d : D} (hP : POk P H) (h : Rp K H v d) : Opd K P H v ⟨d, md (imm d)⟩ := Opd.md (fun q => Rp.immK hP.stup _ _ q h) h
theorem opd_res {P : Addr → Prop} {H0 H : Hp} {v : V} {d : D} {b : Bool} (h : Opd K P H v ⟨d, md b⟩) : Res K P H0 H v ⟨d, md b⟩ := by
  cases b with
  | true => exact h
  | false => exact h
theorem se_dget (ha : SemE K td fa) (hb : SemE K ty fb) : SemE K (tDGet td ty) (eDGet fa fb) := by
  intro Z σ H ρ c E h Q q
  obtain ⟨a, h1, h⟩ := Option.bind_eq_some_iff.mp h
  obtain ⟨b, h2, h⟩ := Option.bind_eq_some_iff.mp h
  refine ha Z σ H ρ a E h1 _ fun x H1 s1 r1 => ?_
  refine hb Z σ H1 ρ b (E.mono s1) h2 _ fun y H2 s2 r2 => ?_
  have oa := (r1.opd E.pok).mono s2.toSme
  have ob := r2.opd (E.mono s1).pok
  unfold dGet at h
  split at h
  · rename_i kvs _ ks _
    obtain ⟨k, e1, h⟩ := Option.bind_eq_some_iff.mp h
    obtain ⟨d, e2, h⟩ := Option.map_eq_some_iff.mp h
    subst h
    obtain ⟨p, vs, rfl, g1, g2⟩ := oa.dT
    obtain ⟨t, us, rfl, k1, k2⟩ := ob.tupS
    rw [keysD_rp k2 e1] at k1
    obtain ⟨v, v1, v2⟩ := (RpT.val k g2).1 d e2
    refine ⟨p, v, rfl, ?_, q v H2 (s1.trans s2) (opd_res (rp_md (E.mono (s1.trans s2)).pok v2))⟩
    have : DGet H2 p (.ref t) (valV vs k) := .inr ⟨vs, k, t, g1, rfl, k1, rfl⟩
    rw [v1] at this
    exact this
  · cases h
theorem ge_dget (hr : X.A.units + 1 < cLine) (ha : GE K X o td fa) (hb : GE K X i ty fb) (hs : NoSl i := by intro _ _; rfl) : GE K X (.Subscript o i pos) (tDGet td ty) (eDGet fa fb) := ⟨pe_dget hr ha.p hb.p hs, se_dget ha.s hb.s⟩
theorem se_dget2 (ha : SemE K td fa) (hb : SemE K ty fb) (hc : SemE K tx fc) : SemE K (tDGet2 td ty tx) (eDGet2 fa fb fc) := by
  intro Z σ H ρ r E h Q q
  obtain ⟨a, h1, h⟩ := Option.bind_eq_some_iff.mp h
  obtain ⟨b, h2, h⟩ := Option.bind_eq_some_iff.mp h
  obtain ⟨c, h3, h⟩ := Option.bind_eq_some_iff.mp h
  refine ha Z σ H ρ a E h1 _ fun x H1 s1 r1 => ?_
  unfold dGet2 at h
  split at h
  · rename_i kvs _ ks _ _ _
    obtain ⟨k, e1, h⟩ := Option.bind_eq_some_iff.mp h
    have oa := r1.opd E.pok
    obtain ⟨p, vs0, rfl, g0, _⟩ := oa.dT
    refine ⟨p, rfl, .inr ⟨_, g0⟩, ?_⟩
    refine hb Z σ H1 ρ _ (E.mono s1) h2 _ fun y H2 s2 r2 => ?_
    refine hc Z σ H2 ρ _ (E.mono (s1.trans s2)) h3 _ fun z H3 s3 r3 => ?_
    have s13 := (s1.trans s2).trans s3
    have oa3 := (oa.mono s2.toSme).mono s3.toSme
    have ob := (r2.opd (E.mono s1).pok).mono s3.toSme
    have oc := r3.opd (E.mono (s1.trans s2)).pok
    obtain ⟨p', vs, ep, g1, g2⟩ := oa3.dT
    cases ep
    obtain ⟨t, us, rfl, k1, k2⟩ := ob.tupS
    rw [keysD_rp k2 e1] at k1
    have dg : DGet H3 p (.ref t) (valV vs k) := .inr ⟨vs, k, t, g1, rfl, k1, rfl⟩
    cases ev : valD kvs k with
    | some d =>
      rw [ev] at h
      cases h
      obtain ⟨v, v1, v2⟩ := (RpT.val k g2).1 d ev
      rw [v1] at dg
      exact ⟨_, dg, q v H3 s13 (opd_res (rp_md (E.mono s13).pok v2))⟩
    | none =>
      rw [ev] at h
      cases h
      rw [(RpT.val k g2).2 ev] at dg
      exact ⟨_, dg, q z H3 s13 (opd_res (Opd.md (fun w => oc.okR (E.mono s13).pok w) oc.rp))⟩
  · cases h
theorem ge_dget2 {apos cpos : Pos} (hr : X.A.units + 1 < cLine) (ha : GE K X o td fa) (hb : GE K X e ty fb) (hc : GE K X f tx fc) (m : M2 X o "get" apos e f cpos := by exact ⟨by rfl, by rfl, by rfl, by rfl⟩) : GE K X (.Call (.Attribute o "get" apos) [e, f] [] cpos) (tDGet2 td ty tx) (eDGet2 fa fb fc) := ⟨pe_dget2 hr ha.p hb.p hc.p m, se_dget2 ha.s hb.s hc.s⟩
theorem ss_dput {j : Nat} {fk fv : EF} (hk : SemE K ty fk) (hv : SemE K tv fv) : SemS K W (L2.sDPut (tVar j) ty tv) (sDPut j fk fv) := by
  intro Z B σ H ρ fl S e Dn w
  obtain ⟨r, e1, e⟩ := Option.bind_eq_some_iff.mp e
  refine hv Z σ H ρ r S.env e1 _ fun v H1 s1 rv => ?_
  split at e
  · rename_i kvs e0
    obtain ⟨k, e2, e⟩ := Option.bind_eq_some_iff.mp e
    split at e
    · rename_i ks ek
      obtain ⟨kk, e3, e⟩ := Option.bind_eq_some_iff.mp e
      split at e
      · rename_i hc
        rw [Bool.and_eq_true, decide_eq_true_eq] at hc
        cases e
        obtain ⟨a, a1, a2⟩ := S.env.own j _ e0
        refine ⟨.ref a, a1, ?_⟩
        refine hk Z σ H1 ρ k (S.mono s1).env e2 _ fun y H2 s2 rk => ?_
        have S2 := S.mono (s1.trans s2)
        obtain ⟨kd, km⟩ := k
        cases ek
        obtain ⟨t, us, rfl, k1, k2⟩ := (rk.opd (S.mono s1).env.pok).tupS
        rw [keysD_rp k2 e3] at k1
        obtain ⟨a', b1, vs, b2, b3⟩ := S2.env.own j _ e0
        rw [a1] at b1
        cases b1
        have hd := ((rv.opd S.env.pok).mono s2).okR S2.env.pok hc.1
        have pa : Pz Z σ ρ a := .inr ⟨j, _, e0, a1⟩
        have sm : Sme (hide (Pz Z σ ρ) H2) (hide (Pz Z σ ρ) (upd H2 a (.dT (putK vs kk v)))) := hide_mono (fun _ _ _ z => z) fun b o z hb => by
          rw [upd_ne fun c => z (by rw [c]; exact pa)]
          exact hb
        refine ⟨a, _, rfl, DPut.t b2 k1 (by rw [RpT.length b3]; exact Nat.lt_trans hc.2 (by decide)), ?_⟩
        refine w σ _ (S2.upd e0 a1 ⟨_, upd_same, ?_⟩)
        exact RpT.mono sm _ _ (RpT.put hd b3)
      · cases e
    · cases e
  · cases e
theorem gs_dput (j : Nat) {x : Str} {ke : Expr} {fk fv : EF} (hr : X.A.units + 1 < cLine) (hk : GE K X ke ty fk) (hv : GE K X value tv fv) (hN : X.N[j]? = some x := by rfl) (hvi : Vis X.env.scope x := by first | exact Or.inl rfl | exact Or.inr (Or.inl rfl) | exact Or.inr (Or.inr rfl)) (hd : (x == ("__debug__" : Str)) = false := by decide)
    (hcd : (x == ("__classdict__" : Str)) = false := by decide) {np sp : Pos} (hs : swapsWith value (some (.Subscript (.Name x np) ke sp)) pos.line X.env = pure false := by rfl) :
    GS K X W (.Assign [.Subscript (.Name x np) ke sp] value pos) (L2.sDPut (tVar j) ty tv) (sDPut j fk fv) := ⟨ps_dput hr (pe_var hN hvi hd hcd) hk.p hv.p hs, ss_dput hk.s hv.s⟩
theorem sc_lenD : SemC K rLenT cLenD := by
  intro P H xs as c hP hA h Q q
  unfold cLenD at h
  split at h
  · cases h
    obtain ⟨x, rfl, ha⟩ := hA.one
    obtain ⟨p, vs, rfl, h1, h2⟩ := ha.dTop
    exact ⟨_, _, rfl, h1, q _ H (Same.refl H) (by rw [RpT.length h2]; exact .int _)⟩
  · cases h
end
/-! ### [.. for k in d], d one's own -/
def keyT (k : List Key) : D := .tup (k.map unKey)
def eLcK (i : Nat) (vs : List Nat) (tgt : GF) (ft : TF) (fe : EF) : EF := fun ρ => match ρ[i]? with
  | some (.own (.dT kvs)) => if vs.all (notOwn (ρ.set i (.sh (.dT kvs)))) && decide ((kvs.map fun kv => keyT kv.1).length ≤ 100000) then (compF tgt ft fe (wipeE vs (ρ.set i (.sh (.dT kvs)))) (kvs.map fun kv => keyT kv.1)).bind fun es => if imm.immL es then some ⟨.lst es, .fr⟩ else none else none
  | _ => none
section
variable {K : PySem.W.Frag} {P P' Z : Addr → Prop} {H H' G G2 : Hp} {σ : L2.St} {ρ : En} {X : Cx}
theorem jok_keysT {a : Addr} {o : Obj} {vs : List (List Key × V)} {kvs : List (List Key × D)} (h1 : G a = some (.frz o (.dT vs))) (h2 : RpT K H vs kvs) : JOk2 K G G2 (Itkt a o vs) (kvs.map fun kv => keyT kv.1) where
  go := fun i H hi s => ⟨s _ _ h1, by rw [RpT.length h2]; simpa using hi⟩
  stop := fun i H hi s => ⟨s _ _ h1, by rw [RpT.length h2]; simpa using hi⟩
  yld := fun i d H2 x H' hd s y => by
    obtain ⟨e, k, v, b, y1, y2, y3⟩ := y
    subst e
    obtain ⟨d', z1, z2⟩ := RpT.get h2 y1
    rw [List.getElem?_map, z1] at hd
    cases Option.some.inj hd
    subst y2
    exact ⟨Same.refl _, fun P hP _ => .tup (hP.stup.1 _ _ y3) (unKeys_rp k)⟩
theorem se_lcK {i : Nat} {vs : List Nat} {g : TG} {tgt : GF} {tt : TT} {ft : TF} {te : TE} {fe : EF} (hg : SemG K g tgt) (hw : TgW g vs) (hk : TgK tgt vs) (ht : SemT K tt ft) (he : SemE K te fe) : SemE K (tLockE (tLc (iKeys (tVar i)) g tt te vs)) (eLcK i vs tgt ft fe) := by
  intro Z σ H ρ r E e Q q
  unfold eLcK at e
  split at e
  · rename_i kvs e0
    split at e
    · rename_i hc
      obtain ⟨es, e2, e⟩ := Option.bind_eq_some_iff.mp e
      split at e
      · rename_i him
        cases e
        obtain ⟨a, a1, vs', a2, a3⟩ := E.own i _ e0
        have owa : Ow σ ρ a := ⟨i, _, e0, a1⟩
        refine ⟨a, .dT vs', a2, trivial, fun od => ?_⟩
        have gi : ∀ {j : Nat} {s : Sl}, (ρ.set i (.sh (.dT kvs)))[j]? = some s → (j = i ∧ s = .sh (.dT kvs)) ∨ (j ≠ i ∧ ρ[j]? = some s) := fun {j s} h => by
          by_cases c : j = i
          · subst c
            have hl : j < ρ.length := (List.getElem?_eq_some_iff.mp e0).1
            rw [List.getElem?_set_self hl] at h
            cases h
            exact .inl ⟨rfl, rfl⟩
          · rw [set_get_ne c] at h
            exact .inr ⟨c, h⟩
        have ow : ∀ b, Ow σ (ρ.set i (.sh (.dT kvs))) b → Ow σ ρ b ∧ b ≠ a := fun b ⟨j, d, h1, h2⟩ => by
          rcases gi h1 with ⟨_, z⟩ | ⟨z1, z2⟩
          · cases z
          · refine ⟨⟨j, d, z2, h2⟩, fun c => z1 ?_⟩
            subst c
            exact E.inj j i d _ b z2 e0 h2 a1
        have pz : ∀ b, Pz Z σ (ρ.set i (.sh (.dT kvs))) b → Pz Z σ ρ b ∧ b ≠ a := fun b z => by
          rcases z with z | z
          · exact ⟨.inl z, fun c => E.zdis a owa (by rw [← c]; exact z)⟩
          · exact ⟨.inr (ow b z).1, (ow b z).2⟩
        have sm : Sme (hide (Pz Z σ ρ) H) (hide (Pz Z σ (ρ.set i (.sh (.dT kvs)))) (upd H a (.frz od (.dT vs')))) := hide_mono (fun b _ _ z => (pz b z).1) fun b o z k => by
          rw [upd_ne fun c => z (by rw [c]; exact .inr owa)]
          exact k
        have E' : EnvOk K Z (upd H a (.frz od (.dT vs'))) σ (ρ.set i (.sh (.dT kvs))) := by
          refine ⟨by rw [List.length_set]; exact E.len, fun j d h => ?_, fun j d h => ?_, fun j k d e' b h1 h2 => ?_, E.zok.upd (E.zdis a owa), fun b z => E.zdis b (ow b z).1, E.tab.upd a2 trivial⟩
          · rcases gi h with ⟨z0, z⟩ | ⟨z1, z2⟩
            · cases z
              subst z0
              exact ⟨.ref a, a1, .dT (.inr ⟨od, hide_some.mpr ⟨fun z => (pz a z).2 rfl, upd_same⟩⟩) (RpT.mono sm _ _ a3)⟩
            · obtain ⟨v, k1, k2⟩ := E.sh j d z2
              exact ⟨v, k1, Rp.mono sm _ _ k2⟩
          · rcases gi h with ⟨_, z⟩ | ⟨z1, z2⟩
            · cases z
            · obtain ⟨b, k1, k2⟩ := E.own j d z2
              have nb : b ≠ a := fun c => z1 (E.inj j i d _ b z2 e0 k1 (by rw [c]; exact a1))
              exact ⟨b, k1, k2.via (fun o q _ => by rw [upd_ne nb]; exact q) sm⟩
          · rcases gi h1 with ⟨_, z⟩ | ⟨z1, z2⟩
            · cases z
            · rcases gi h2 with ⟨_, w⟩ | ⟨w1, w2⟩
              · cases w
              · exact E.inj j k d e' b z2 w2
        refine se_lcAt hg hw hk ht he (ds := kvs.map fun kv => keyT kv.1) (r := ⟨.lst es, .fr⟩) E' (fun R hR => ?_) (by rw [if_pos hc, e2]; rfl) _ fun v H2 s2 r2 => ?_
        · exact ⟨.ref a, a1, a, od, rfl, .inr ⟨vs', upd_same, hR _ _ (Same.refl _) (jok_keysT upd_same a3)⟩⟩
        · have h2a : H2 a = some (.frz od (.dT vs')) := s2 _ _ upd_same
          refine ⟨h2a, ?_⟩
          obtain ⟨p, rfl, p1, ws, p2, p3⟩ := r2
          have npa : p ≠ a := fun c => by
            rw [c, upd_same] at p1
            cases p1
          have hp : H p = none := by
            rw [upd_ne npa] at p1
            exact p1
          refine q _ _ { Sme.back (o := .frz od (.dT vs')) a2 s2.toSme with tab := fun t => (s2.tab (t.upd a2 trivial)).upd h2a trivial } ⟨p, rfl, hp, ws, by rw [upd_ne npa]; exact p2, RpL.immK ⟨fun b xs k => ?_, fun b C dx k => ?_, fun b oe φ k => ?_⟩ _ _ him p3⟩
          · obtain ⟨k1, k2⟩ := hide_some.mp k
            have nb : b ≠ a := fun c => by
              rw [c, h2a] at k2
              cases k2
            refine hide_some.mpr ⟨fun z => ?_, by rw [upd_ne nb]; exact k2⟩
            rcases z with (z | ⟨j, d, z1, z2⟩) | z
            · exact k1 (.inl (.inl z))
            · by_cases c : j = i
              · subst c
                rw [a1] at z2
                cases z2
                exact nb rfl
              · exact k1 (.inl (.inr ⟨j, d, by rw [set_get_ne c]; exact z1, z2⟩))
            · exact k1 (.inr z)
          · obtain ⟨k1, k2⟩ := hide_some.mp k
            have nb : b ≠ a := fun c => by
              rw [c, h2a] at k2
              cases k2
            refine hide_some.mpr ⟨fun z => ?_, by rw [upd_ne nb]; exact k2⟩
            rcases z with (z | ⟨j, d, z1, z2⟩) | z
            · exact k1 (.inl (.inl z))
            · by_cases c : j = i
              · subst c
                rw [a1] at z2
                cases z2
                exact nb rfl
              · exact k1 (.inl (.inr ⟨j, d, by rw [set_get_ne c]; exact z1, z2⟩))
            · exact k1 (.inr z)
          · obtain ⟨k1, k2⟩ := hide_some.mp k
            have nb : b ≠ a := fun c => by
              rw [c, h2a] at k2
              cases k2
            refine hide_some.mpr ⟨fun z => ?_, by rw [upd_ne nb]; exact k2⟩
            rcases z with (z | ⟨j, d, z1, z2⟩) | z
            · exact k1 (.inl (.inl z))
            · by_cases c : j = i
              · subst c
                rw [a1] at z2
                cases z2
                exact nb rfl
              · exact k1 (.inl (.inr ⟨j, d, by rw [set_get_ne c]; exact z1, z2⟩))
            · exact k1 (.inr z)
      · cases e
    · cases e
  · cases e
theorem ge_lcK {elt tg : Expr} {ifs : List Expr} {scope : Scope} {pos : Pos} {g : TG} {tgt : GF} {tt : TT} {ft : TF} {te : TE} {fe : EF} {x : Str} {np : Pos} (i : Nat) (own : List (Str × Nat)) (hc : X.calm = true) (hN : X.N.Nodup) (N : List Str) (sc : Scope) (ok : blkC N sc scope own = true)
    (hg : ∀ s H C cl fp, GGb K (XB X scope s H C cl fp) tg g tgt (own.map (·.2))) (ht : ∀ s H C cl fp, GTs K (XB X scope s H C cl fp) ifs tt ft) (he : ∀ s H C cl fp, GE K (XB X scope s H C cl fp) elt te fe)
    (hi : X.N[i]? = some x := by rfl) (hvi : Vis X.env.scope x := by first | exact Or.inl rfl | exact Or.inr (Or.inl rfl) | exact Or.inr (Or.inr rfl)) (hd : (x == ("__debug__" : Str)) = false := by decide) (hcd : (x == ("__classdict__" : Str)) = false := by decide)
    (hs : ∀ z, foldedSetIterable (.Name x np) X.env z = pure z := by intro _; rfl) (eN : X.N = N := by rfl) (eS : X.env.scope = sc := by rfl) : GE K X (.ListComp elt [⟨tg, .Name x np, ifs, 0⟩] scope pos) (tLockE (tLc (iKeys (tVar i)) g tt te (own.map (·.2)))) (eLcK i (own.map (·.2)) tgt ft fe) := by
  have sh : Shared := (PySem.start X.prog).1
  subst eN eS
  refine ⟨pe_lock (pe_lc hc hN (pi_keys (pe_var hi hvi hd hcd)) (blkOk_by ok) (fun s H C cl fp => (hg s H C cl fp).gg.p) (fun s H C cl fp => (ht s H C cl fp).p) (fun s H C cl fp => (he s H C cl fp).p) hs), ?_⟩
  have h1 := hg sh (fun _ => none) 0 [] []
  exact se_lcK h1.gg.s h1.w h1.k (ht sh (fun _ => none) 0 [] []).s (he sh (fun _ => none) 0 [] []).s
end
/-! ### sorted -/
def sLe (a b : D) : Bool := !ltD b a
def sortD (ds : List D) : List D := ds.mergeSort sLe
def srtT : D → Bool
  | .tup (_ :: _) => true
  | _ => false
def srtO : D → Bool
  | .int _ => true
  | .str _ => true
  | .bl _ => true
  | .lst _ => true
  | _ => false
def srtOk (ds : List D) : Bool := decide (ds.length ≤ 100000) && ds.all (fit 6) && ds.all (fun d => ds.all fun e => PySem.W.alike (toP d) (toP e)) && (ds.all srtT || ds.all srtO)
def cSort : CF := fun as => match as with
  | [⟨.lst ds, m⟩] => if srtOk ds then some ⟨.lst (sortD ds), nw (itR ⟨.lst ds, m⟩)⟩ else none
  | _ => none
def rSortD (K : PySem.W.Frag) : List V → Hp → VK → Prop := fun vs H Q => ∃ (a : Addr) (xs : List V) (ds : List D), vs = [.ref a] ∧ SqL K H a xs ∧ RpL K H xs ds ∧ srtOk ds = true ∧
  ∀ (ws : List V) (p : Addr), (∀ H2, RpL K H2 xs ds → RpL K H2 ws (sortD ds)) → H p = none → Q (.ref p) (upd H p (.lst ws))
section
variable {K : PySem.W.Frag} {H : Hp} {X : Cx} {P : Addr → Prop}
theorem each_vals : ∀ {xs : List V} {us : List Value} {ds : List D}, Vals xs us → xs.length = ds.length → PySem.W.EachIs (fun u (b : V × D) => RelV b.1 u) us (xs.zip ds)
  | _, _, [], .nil, _ => .nil
  | _, _, d :: ds, .cons r t, h => .cons r (each_vals t (by simpa using h))
theorem each_back : ∀ {us : List Value} {bs : List (V × D)}, PySem.W.EachIs (fun u (b : V × D) => RelV b.1 u) us bs → Vals (bs.map (·.1)) us
  | _, _, .nil => .nil
  | _, _, .cons r t => .cons r (each_back t)
theorem rpl_zip : ∀ {xs : List V} {ds : List D}, RpL K H xs ds → ∀ b ∈ xs.zip ds, Rp K H b.1 b.2
  | _, _, .nil, b, hb => by simp at hb
  | _, _, .cons h t, b, hb => by
    rw [List.zip_cons_cons, List.mem_cons] at hb
    rcases hb with rfl | hb
    · exact h
    · exact rpl_zip t b hb
theorem rpl_unzip : ∀ {bs : List (V × D)}, (∀ b ∈ bs, Rp K H b.1 b.2) → RpL K H (bs.map (·.1)) (bs.map (·.2))
  | [], _ => .nil
  | b :: r, h => .cons (h b List.mem_cons_self) (rpl_unzip fun c hc => h c (List.mem_cons_of_mem _ hc))
theorem each_reads {pins : List (Addr × Obj)} {σ : L2.St} {s : Shared} (I : Inv X pins σ H s) : ∀ {xs : List V} {us : List Value} {ds : List D}, Vals xs us → RpL X.K H xs ds → ds.all (fit 6) = true → PySem.W.EachIs (fun u (b : V × D) => ∃ as, Reads s.heap u (toP b.2) as) us (xs.zip ds)
  | _, _, _, .nil, .nil, _ => .nil
  | _, _, _, .cons r t, .cons h t2, hf => by
    rw [List.all_cons, Bool.and_eq_true] at hf
    exact .cons (Dp.reads I _ _ _ (dp_of 6 _ _ hf.1 h) r) (each_reads I t t2 hf.2)
theorem sort_zip {xs : List V} {ds : List D} (hl : xs.length = ds.length) : ((xs.zip ds).mergeSort (PySem.W.dataLe false fun b : V × D => toP b.2)).map (·.2) = sortD ds := by
  unfold sortD
  rw [List.map_mergeSort (f := fun b : V × D => b.2) (r := PySem.W.dataLe false fun b : V × D => toP b.2) (s := sLe) (fun a _ b _ => by rw [PySem.W.dataLe_eq]; rfl)]
  rw [List.map_snd_zip (by omega)]
theorem cr_sortD (hu : X.A.units + 64 < cLine) : CallR X (.builtin "sorted") (rSortD X.K) := by
  intro pins s σ H vs us Q I r h
  obtain ⟨a, xs, ds, rfl, hs, hr, hok, q⟩ := h
  obtain ⟨its, rv, hl, _⟩ := I.list hs
  rw [Vals.ref1 r]
  have hlen : xs.length = ds.length := hr.length
  unfold srtOk at hok
  simp only [Bool.and_eq_true, Bool.or_eq_true, decide_eq_true_eq] at hok
  obtain ⟨⟨⟨h1, h2⟩, h3⟩, h4⟩ := hok
  have z2 : ∀ b : V × D, b ∈ xs.zip ds → b.2 ∈ ds := fun b hb => (List.of_mem_zip hb).2
  have fits : ∀ d ∈ ds, fit 6 d = true := List.all_eq_true.mp h2
  refine PySem.W.sorted_data (R := fun u (b : V × D) => RelV b.1 u) (enc := fun b : V × D => toP b.2) hl.isList (each_vals rv hlen) (each_reads I rv hr h2) (fun x hx y hy => ?_) ?_ ?_ (fun b hb => ?_) fun out ho1 ho2 => ?_
  · obtain ⟨b, hb, rfl⟩ := List.mem_map.mp hx
    obtain ⟨c, hc, rfl⟩ := List.mem_map.mp hy
    exact List.all_eq_true.mp (List.all_eq_true.mp h3 _ (z2 b hb)) _ (z2 c hc)
  · rcases h4 with h4 | h4
    · refine .inl fun x hx => ?_
      obtain ⟨b, hb, rfl⟩ := List.mem_map.mp hx
      have := List.all_eq_true.mp h4 _ (z2 b hb)
      revert this
      cases b.2 with
      | tup l => cases l with
        | nil => intro z; cases z
        | cons d l => intro _; exact ⟨_, _, rfl⟩
      | _ => intro z; cases z
    · refine .inr fun x hx => ?_
      obtain ⟨b, hb, rfl⟩ := List.mem_map.mp hx
      have := List.all_eq_true.mp h4 _ (z2 b hb)
      revert this
      cases b.2 with
      | int i => intro _; exact ⟨(by intro z; cases z), fun xs z => by cases z⟩
      | str i => intro _; exact ⟨(by intro z; cases z), fun xs z => by cases z⟩
      | bl i => intro _; exact ⟨(by intro z; cases z), fun xs z => by cases z⟩
      | lst i => intro _; exact ⟨(by intro z; cases z), fun xs z => by cases z⟩
      | _ => intro z; cases z
  · rw [List.length_zip, sizeLine_eq]
    omega
  · have := (fit_lay 6 _ (fits _ (z2 b hb))).2
    omega
  · obtain ⟨ep, he'⟩ := PyProof.Rows.sortedAll_at s.heap its (List.toArray out)
    have hlen' : (((xs.zip ds).mergeSort (PySem.W.dataLe false fun b : V × D => toP b.2)).map (·.1)).length ≤ sizeLine := by
      rw [List.length_map, List.length_mergeSort, List.length_zip, sizeLine_eq]
      omega
    refine ⟨.ref _, upd H (s.heap.objs.size + 1) (.lst _), I.laid (t' := s.toks) (fun _ _ => PyProof.Rows.sortedAll_old) (Nat.le_succ _) ⟨hlen', (List.toArray out).toList, ep, each_back ho2, he'⟩, rfl, q _ _ (fun H2 hr2 => ?_) (I.hok.fresh (Nat.le_succ _))⟩
    rw [← sort_zip hlen]
    exact rpl_unzip fun b hb => rpl_zip hr2 b (List.mem_mergeSort.mp hb)
theorem sc_sort : SemC K (rSortD K) cSort := by
  intro P H xs as c hP hA h Q q
  unfold cSort at h
  split at h
  · split at h
    · rename_i ds m hok
      cases h
      obtain ⟨x, rfl, ha⟩ := hA.one
      obtain ⟨a, vs, rfl, h1, h2, h3⟩ := Opd.lstR hP ha
      refine ⟨a, vs, ds, rfl, SqL.of h1, h2, hok, fun ws p hw hp => ?_⟩
      exact q _ _ (same_upd hp) (Res.newL (Sme.refl H) hp (hw _ h2) fun z => hw _ (h3 z))
    · cases h
  · cases h
end
/-! ### a module's ints, and its tuples of ints -/
abbrev IntTxt (mg : Str → Option Value) (x : Str) (n : Int) : Prop := ∃ t, mg x = some (.int n t)
def TupTxt (K : PySem.W.Frag) (mg : Str → Option Value) (x : Str) (a : Addr) (ns : List Int) : Prop := ∃ (o : Obj) (its : Array Value) (n : Nat), mg x = some (.ref a) ∧ K.lookup a = some o ∧ o.cls = .type "tuple" ∧ o.data = .seq its n ∧ its.size ≤ sizeLine ∧ Vals (ns.map V.int) its.toList
def eCIx (ns : List Int) (fb : EF) : EF := fun ρ => (fb ρ).bind fun b => match b.d with
  | .int i => (atI ns i).map fun n => ⟨.int n, .av⟩
  | _ => none
section
variable {K : PySem.W.Frag} {X : Cx} {x : Str} {ns : List Int} {n : Int} {p pos : Pos} {i : Expr} {ty : TE} {fb : EF}
theorem ge_cint {mg : Str → Option Value} (m : IntTxt mg x n) (hg : Gl X x := by rfl) (hd : (x == ("__debug__" : Str)) = false := by decide) (eM : X.mg = mg := by rfl) : GE K X (.Name x pos) (tC (.int n)) (eC (.int n)) := by
  subst eM
  obtain ⟨t, m⟩ := m
  exact ge_glob hg m ⟨t, rfl⟩ (fun _ => .int n) hd
theorem ge_cix {a : Addr} {mg : Str → Option Value} (m : TupTxt K mg x a ns) (hb : GE K X i ty fb) (hg : Gl X x := by rfl) (hd : (x == ("__debug__" : Str)) = false := by decide) (hs : PlainIx i := by intro _ _; rfl) (eK : X.K = K := by rfl) (eM : X.mg = mg := by rfl) : GE K X (.Subscript (.Name x p) i pos) (tOp (rIx K) (tC (.ref a)) ty) (eCIx ns fb) := by
  subst eK eM
  obtain ⟨o, its, n, m1, m2, m3, m4, m5, m6⟩ := m
  refine ⟨pe_ix ix_seq (pe_glob (v := .ref a) hg m1 rfl hd) hb.p hs, ?_⟩
  intro Z σ H ρ c E h Q q
  obtain ⟨b, h1, h⟩ := Option.bind_eq_some_iff.mp h
  split at h
  · rename_i j ej
    obtain ⟨v, e, rfl⟩ := Option.map_eq_some_iff.mp h
    refine hb.s Z σ H ρ b E h1 _ fun y H1 s1 r1 => ?_
    obtain ⟨bd, bm⟩ := b
    cases ej
    have oy := (r1.opd E.pok).int
    obtain ⟨k, k1, k2⟩ := atI_ix e
    refine .inr (.inl ⟨a, ns.map V.int, _, .int v, rfl, oy, .inr ⟨o, its, n, m2, m3, m4, m5, m6⟩, ?_, q _ H1 s1 (.int v)⟩)
    unfold atI
    rw [List.length_map, k1, Option.bind_some, List.getElem?_map, k2]
    rfl
  · cases h
end
end Fb
set_option maxHeartbeats 2000000
/-! Fb7: plain laws for what the combinators answer. -/
namespace Fb
open PySem PySem.Spec L2
@[simp] theorem rgD_zero (n : Nat) : rgD 0 n = (List.range n).map fun (i : Nat) => D.int i := by
  unfold rgD
  simp
@[simp] theorem fit_int (n : Nat) (i : Int) : fit n (.int i) = true := by cases n <;> rfl
@[simp] theorem fit_bl (n : Nat) (i : Bool) : fit n (.bl i) = true := by cases n <;> rfl
@[simp] theorem fit_non (n : Nat) : fit n .non = true := by cases n <;> rfl
@[simp] theorem fit_tup6 (ds : List D) : fit 6 (.tup ds) = ds.all (fit 5) := (rfl)
@[simp] theorem fit_lst6 (ds : List D) : fit 6 (.lst ds) = ds.all (fit 5) := (rfl)
@[simp] theorem fit_tup5 (ds : List D) : fit 5 (.tup ds) = ds.all (fit 4) := (rfl)
@[simp] theorem fit_lst5 (ds : List D) : fit 5 (.lst ds) = ds.all (fit 4) := (rfl)
@[simp] theorem fit_tup4 (ds : List D) : fit 4 (.tup ds) = ds.all (fit 3) := (rfl)
@[simp] theorem fit_lst4 (ds : List D) : fit 4 (.lst ds) = ds.all (fit 3) := (rfl)
@[simp] theorem fit_tup3 (ds : List D) : fit 3 (.tup ds) = ds.all (fit 2) := (rfl)
@[simp] theorem fit_lst3 (ds : List D) : fit 3 (.lst ds) = ds.all (fit 2) := (rfl)
@[simp] theorem fit_tup2 (ds : List D) : fit 2 (.tup ds) = ds.all (fit 1) := (rfl)
@[simp] theorem fit_lst2 (ds : List D) : fit 2 (.lst ds) = ds.all (fit 1) := (rfl)
@[simp] theorem fit_tup1 (ds : List D) : fit 1 (.tup ds) = ds.all (fit 0) := (rfl)
@[simp] theorem fit_lst1 (ds : List D) : fit 1 (.lst ds) = ds.all (fit 0) := (rfl)
theorem fit_ints (n : Nat) (xs : List Int) : fit (n + 1) (.tup (xs.map .int)) = true := by simp [fit]
theorem fit_intsL (n : Nat) (xs : List Int) : fit (n + 1) (.lst (xs.map .int)) = true := by simp [fit]
theorem toPL_ints (xs : List Int) : toPL (xs.map .int) = xs.map .int := by
  rw [toPL_map, List.map_map]
  rfl
theorem eqvAll_ints : ∀ xs ys : List Int, PyData.eqvAll (xs.map .int) (ys.map .int) = decide (xs = ys)
  | [], [] => by simp [PyData.eqvAll]
  | [], _ :: _ => by simp [PyData.eqvAll]
  | _ :: _, [] => by simp [PyData.eqvAll]
  | x :: xs, y :: ys => by
    rw [List.map_cons, List.map_cons, PyData.eqvAll, eqvAll_ints xs ys]
    by_cases h : x = y <;> simp [PyData.eqv, h]
@[simp] theorem eqD_int (x y : Int) : eqD (.int x) (.int y) = decide (x = y) := by
  show PyData.eqv (.int x) (.int y) = _
  simp only [PyData.eqv]
  by_cases h : x = y <;> simp [h]
@[simp] theorem eqD_bl (x y : Bool) : eqD (.bl x) (.bl y) = decide (x = y) := by cases x <;> cases y <;> rfl
theorem eqD_ints (xs ys : List Int) : eqD (.tup (xs.map .int)) (.tup (ys.map .int)) = decide (xs = ys) := by
  show PyData.eqv (.tuple (toPL _)) (.tuple (toPL _)) = _
  rw [toPL_ints, toPL_ints, PyData.eqv, eqvAll_ints]
/-- (int, tuple of ints): first the int, then the tuples -/
theorem alike_rank (a b : Int) (xs ys : List Int) : PySem.W.alike (toP (.tup [.int a, .tup (xs.map .int)])) (toP (.tup [.int b, .tup (ys.map .int)])) = true := by
  show PySem.W.alike (.tuple [.int a, .tuple (toPL _)]) (.tuple [.int b, .tuple (toPL _)]) = true
  rw [toPL_ints, toPL_ints]
  simp [PySem.W.alike, PySem.W.alikeAll, PySem.W.alike_ints]
theorem ltD_rank (a b : Int) (xs ys : List Int) : ltD (.tup [.int a, .tup (xs.map .int)]) (.tup [.int b, .tup (ys.map .int)]) = if a = b then decide (xs < ys) else decide (a < b) := by
  show PySem.W.dataLt (.tuple [.int a, .tuple (toPL _)]) (.tuple [.int b, .tuple (toPL _)]) = _
  rw [toPL_ints, toPL_ints, PySem.W.dataLt_pair (by simp [PySem.W.alike]) (by simp [PySem.W.alike, PySem.W.alike_ints]), PySem.W.dataLt_int, PySem.W.dataLt_tuple]
  have e1 : PyData.eqv (.int a) (.int b) = decide (a = b) := by simp only [PyData.eqv]; by_cases h : a = b <;> simp [h]
  have e2 : PyData.eqv (.tuple (xs.map .int)) (.tuple (ys.map .int)) = decide (xs = ys) := by rw [PyData.eqv, eqvAll_ints]
  have e3 := PySem.W.dataLt_ints xs ys
  unfold PySem.W.rowLt at e3
  rw [e1, e2, e3]
  by_cases h1 : a = b
  · simp only [h1, decide_true, if_true]
    by_cases h2 : xs = ys
    · subst h2
      simp
    · simp [h2]
  · simp [h1]
/-- a comprehension -/
theorem compF_map {α : Type} {tgt : GF} {ft : TF} {fe : EF} {ρ : En} (e : α → D) (c : α → Bool) (g : α → D) : ∀ {l : List α}, (∀ a ∈ l, ∃ ρ1, tgt ⟨e a, .av⟩ ρ = some ρ1 ∧ ft ρ1 = some (c a) ∧ (c a = true → ∃ m, fe ρ1 = some ⟨g a, m⟩ ∧ okR ⟨g a, m⟩ = true)) → compF tgt ft fe ρ (l.map e) = some ((l.filter c).map g)
  | [], _ => rfl
  | a :: l, h => by
    obtain ⟨ρ1, h1, h2, h3⟩ := h a (List.mem_cons_self ..)
    have ih := compF_map (l := l) e c g fun b hb => h b (List.mem_cons_of_mem _ hb)
    rw [List.map_cons, compF, h1, Option.bind_some, h2]
    cases hc : c a with
    | false =>
      simp only [List.filter_cons, hc]
      exact ih
    | true =>
      obtain ⟨m, h4, h5⟩ := h3 hc
      simp only [h4, Option.bind_some, h5, if_true, ih, List.filter_cons, hc, Option.map_some, List.map_cons]
def nxO : Option Fl → Option En
  | some (.nx ρ) => some ρ
  | some (.ct ρ) => some ρ
  | _ => none
@[simp] theorem nxO_nx {ρ : En} : nxO (some (.nx ρ)) = some ρ := (rfl)
@[simp] theorem nxO_ct {ρ : En} : nxO (some (.ct ρ)) = some ρ := (rfl)
def stB (o : Option En) (body : SF) : Option En := o.bind fun ρ => nxO (body ρ)
@[simp] theorem stB_some {ρ : En} {body : SF} : stB (some ρ) body = nxO (body ρ) := (rfl)
/-- one turn -/
def step (tgt : GF) (body : SF) (d : D) (ρ : En) : Option En := stB (tgt ⟨d, .av⟩ ρ) body
theorem loopF_step {tgt : GF} {body : SF} {d : D} {ρ ρ2 : En} {r : List D} (h : step tgt body d ρ = some ρ2) : loopF tgt body (d :: r) ρ = loopF tgt body r ρ2 := by
  unfold step stB at h
  obtain ⟨ρ1, h1, h2⟩ := Option.bind_eq_some_iff.mp h
  rw [loopF, h1, Option.bind_some]
  unfold nxO at h2
  split at h2
  · rename_i e
    cases h2
    rw [e]
  · rename_i e
    cases h2
    rw [e]
  · cases h2
/-- a loop that keeps its promise and goes on -/
theorem loopF_all {α : Type} {tgt : GF} {body : SF} (e : α → D) (P : Nat → En → Prop) : ∀ {l : List α} {i : Nat} {ρ : En}, P i ρ → (∀ (k : Nat) (a : α) (ρ : En), l[k]? = some a → P (i + k) ρ → ∃ ρ2, step tgt body (e a) ρ = some ρ2 ∧ P (i + k + 1) ρ2) → ∃ ρ', loopF tgt body (l.map e) ρ = some (.nx ρ') ∧ P (i + l.length) ρ'
  | [], i, ρ, h0, _ => ⟨ρ, rfl, h0⟩
  | a :: l, i, ρ, h0, h => by
    obtain ⟨ρ2, h2, h3⟩ := h 0 a ρ rfl h0
    obtain ⟨ρ', h4, h5⟩ := loopF_all (l := l) (i := i + 1) e P h3 fun k b ρ hb hp => by
      have := h (k + 1) b ρ hb (by rwa [show i + (k + 1) = i + 1 + k by omega])
      rwa [show i + (k + 1) + 1 = i + 1 + k + 1 by omega] at this
    refine ⟨ρ', ?_, by rw [List.length_cons, show i + (l.length + 1) = i + 1 + l.length by omega]; exact h5⟩
    rw [List.map_cons, loopF_step h2]
    exact h4
/-- a fold: what is told of the slots after each turn -/
theorem loopF_fold {α β : Type} {tgt : GF} {body : SF} (e : α → D) (f : β → α → β) (P : β → En → Prop) : ∀ {l : List α} {b : β} {ρ : En}, P b ρ → (∀ (a : α) (b : β) (ρ : En), a ∈ l → P b ρ → ∃ ρ2, step tgt body (e a) ρ = some ρ2 ∧ P (f b a) ρ2) → ∃ ρ', loopF tgt body (l.map e) ρ = some (.nx ρ') ∧ P (l.foldl f b) ρ'
  | [], b, ρ, h0, _ => ⟨ρ, rfl, h0⟩
  | a :: l, b, ρ, h0, h => by
    obtain ⟨ρ2, h2, h3⟩ := h a b ρ (List.mem_cons_self ..) h0
    obtain ⟨ρ', h4, h5⟩ := loopF_fold (l := l) e f P h3 fun a b ρ ha hp => h a b ρ (List.mem_cons_of_mem _ ha) hp
    refine ⟨ρ', ?_, h5⟩
    rw [List.map_cons, loopF_step h2]
    exact h4
theorem zipD_ints : ∀ xs ys : List Int, zipD (xs.map .int) (ys.map .int) = (List.zip xs ys).map fun p => D.tup [.int p.1, .int p.2]
  | [], _ => by simp [zipD]
  | _ :: _, [] => by simp [zipD]
  | x :: xs, y :: ys => by
    have := zipD_ints xs ys
    unfold zipD at this ⊢
    rw [List.map_cons, List.map_cons, List.zipWith_cons_cons, this]
    rfl
end Fb
set_option maxHeartbeats 2000000
/-! Fb8: how the combinators answer, as equations for simp: each only where it stands over its slots. -/
namespace Fb
open PySem PySem.Spec L2
variable {f g : SF} {c c' : TF} {fa fb fe : EF} {as : AF} {ρ : En} {d e : D} {m n : Md} {i j : Int} {k : Nat} {xs ys : List D} {a b : R} {rs : List R} {fi : IF} {tg : GF} {ft : TF} {vs : List Nat} {G : FF} {dd : List D}
/-! statements -/
def nxB (o : Option Fl) (g : SF) : Option Fl := match o with
  | some (.nx ρ') => g ρ'
  | r => r
@[simp] theorem ev_seq : sSeq f g ρ = nxB (f ρ) g := (rfl)
@[simp] theorem nxB_nx : nxB (some (.nx ρ)) g = g ρ := (rfl)
@[simp] theorem nxB_rt {b : Bool} : nxB (some (.rt d b)) g = some (.rt d b) := (rfl)
@[simp] theorem nxB_bk : nxB (some (.bk ρ)) g = some (.bk ρ) := (rfl)
@[simp] theorem nxB_ct : nxB (some (.ct ρ)) g = some (.ct ρ) := (rfl)
@[simp] theorem nxB_rn : nxB (some (.rn d)) g = some (.rn d) := (rfl)
@[simp] theorem ev_retPr {k : Nat} : sRetPr k fe ρ = match ρ[k]? with
  | some (.own (.lst ds)) => (fe ρ).bind fun r => if imm.immL ds && imm r.d then some (.rn (.tup [.lst ds, r.d])) else none
  | _ => none := (rfl)
@[simp] theorem nxB_ex {x : Str} : nxB (some (.ex x)) g = some (.ex x) := (rfl)
@[simp] theorem ev_nil : sNil ρ = some (.nx ρ) := (rfl)
@[simp] theorem ev_brk : sBrk ρ = some (.bk ρ) := (rfl)
@[simp] theorem ev_cont : sCont ρ = some (.ct ρ) := (rfl)
@[simp] theorem ev_retN : sRetN ρ = some (.rt .non false) := (rfl)
@[simp] theorem ev_set : sSet k fe ρ = (fe ρ).bind fun r => (put k r ρ).map .nx := (rfl)
@[simp] theorem ev_ret : sRet fe ρ = (fe ρ).bind rtR := (rfl)
@[simp] theorem ev_drop : sDrop fe ρ = (fe ρ).map fun _ => .nx ρ := (rfl)
@[simp] theorem ev_retVar : sRetVar k ρ = match ρ[k]? with
  | some (.own d) => some (.rt d true)
  | some (.sh d) => some (.rt d false)
  | _ => none := (rfl)
@[simp] theorem rtR_av : rtR ⟨d, .av⟩ = some (.rt d false) := (rfl)
@[simp] theorem rtR_fr : rtR ⟨d, .fr⟩ = some (.rt d true) := (rfl)
@[simp] theorem rtR_bor (h : imm d = true) : rtR ⟨d, .bor⟩ = some (.rt d false) := by simp [rtR, up, h]
@[simp] theorem rtR_top (h : imm d = true) : rtR ⟨d, .top⟩ = some (.rt d false) := by simp [rtR, up, h]
@[simp] theorem put_av : put k ⟨d, .av⟩ ρ = if k < ρ.length then some (ρ.set k (.sh d)) else none := (rfl)
@[simp] theorem put_fr : put k ⟨d, .fr⟩ ρ = if k < ρ.length then some (ρ.set k (.own d)) else none := (rfl)
@[simp] theorem put_bor (h : imm d = true) : put k ⟨d, .bor⟩ ρ = if k < ρ.length then some (ρ.set k (.sh d)) else none := by simp [put, up, h]
@[simp] theorem put_top (h : imm d = true) : put k ⟨d, .top⟩ ρ = if k < ρ.length then some (ρ.set k (.sh d)) else none := by simp [put, up, h]
def ifB (b : Option Bool) (f g : SF) (ρ : En) : Option Fl := match b with
  | some true => f ρ
  | some false => g ρ
  | none => none
@[simp] theorem ev_if : sIf c f g ρ = ifB (c ρ) f g ρ := (rfl)
@[simp] theorem ifB_t : ifB (some true) f g ρ = f ρ := (rfl)
@[simp] theorem ifB_f : ifB (some false) f g ρ = g ρ := (rfl)
@[simp] theorem ev_aug {v : VF} : sAug k v fe ρ = match ρ[k]? with
  | some (.sh d) => (fe ρ).bind fun r => (v ⟨d, .av⟩ r).bind fun r' => (put k r' ρ).map .nx
  | _ => none := (rfl)
@[simp] theorem ev_fz : sFz k f ρ = match ρ[k]? with
  | some (.own d) => f (ρ.set k (.sh d))
  | _ => f ρ := (rfl)
def forB (o : Option (List D)) (tg : GF) (f : SF) (ρ : En) : Option Fl := o.bind fun ds => loopF tg f ds ρ
@[simp] theorem ev_for : sFor fi tg f ρ = forB (fi ρ) tg f ρ := (rfl)
@[simp] theorem forB_some : forB (some xs) tg f ρ = loopF tg f xs ρ := (rfl)
@[simp] theorem ev_while {fu : En → Nat} : sWhile fu c f ρ = loopW c f (fu ρ) ρ := (rfl)
@[simp] theorem ev_unp : sUnp tg fe ρ = (fe ρ).bind fun r => (tg r ρ).map .nx := (rfl)
/-! targets -/
@[simp] theorem tgName_av : tgName k ⟨d, .av⟩ ρ = if k < ρ.length then some (ρ.set k (.sh d)) else none := by simp [tgName, okR, Md.ok]
@[simp] theorem tgName_fr : tgName k ⟨d, .fr⟩ ρ = if k < ρ.length then some (ρ.set k (.sh d)) else none := by simp [tgName, okR, Md.ok]
@[simp] theorem tgNames_nil : tgNames [] [] ρ = some ρ := (rfl)
@[simp] theorem tgNames_cons : tgNames (k :: vs) (d :: xs) ρ = if k < ρ.length then tgNames vs xs (ρ.set k (.sh d)) else none := (rfl)
/-! a def -/
def outB : Option Fl → Option Out
  | some (.rt d fr) => some (.val d fr)
  | some (.nx _) => some (.val .non false)
  | some (.ex n) => some (.exc n)
  | some (.rn d) => some (.nw d)
  | _ => none
@[simp] theorem ev_fn {q : Nat} {ds : List D} : fnF q f ds = outB (f (ds.map .sh ++ List.replicate q .emp)) := (rfl)
@[simp] theorem outB_rt {b : Bool} : outB (some (.rt d b)) = some (.val d b) := (rfl)
@[simp] theorem outB_nx : outB (some (.nx ρ)) = some (.val .non false) := (rfl)
@[simp] theorem outB_rn : outB (some (.rn d)) = some (.nw d) := (rfl)
@[simp] theorem outB_ex {x : Str} : outB (some (.ex x)) = some (.exc x) := (rfl)
@[simp] theorem rep0 : List.replicate 0 Sl.emp = [] := (rfl)
@[simp] theorem rep1 : List.replicate (k + 1) Sl.emp = .emp :: List.replicate k .emp := (rfl)
/-! expressions -/
@[simp] theorem ev_var : eVar k ρ = match ρ[k]? with
  | some (.sh d) => some ⟨d, .av⟩
  | some (.own d) => some ⟨d, .top⟩
  | _ => none := (rfl)
@[simp] theorem ev_c : eC d ρ = some ⟨d, .av⟩ := (rfl)
@[simp] theorem ev_op {v : VF} : eOp v fa fb ρ = (fa ρ).bind fun a => (fb ρ).bind fun b => v a b := (rfl)
@[simp] theorem ev_un {v : UF} : eUn v fa ρ = (fa ρ).bind v := (rfl)
@[simp] theorem ev_and2 : eAnd fa fb ρ = match fa ρ with
  | some ⟨.bl true, _⟩ => fb ρ
  | some ⟨.bl false, _⟩ => some ⟨.bl false, .av⟩
  | _ => none := (rfl)
@[simp] theorem ev_or2 : eOr fa fb ρ = match fa ρ with
  | some ⟨.bl true, _⟩ => some ⟨.bl true, .av⟩
  | some ⟨.bl false, _⟩ => fb ρ
  | _ => none := (rfl)
@[simp] theorem ev_not2 : eNot fa ρ = match fa ρ with
  | some ⟨.bl b, _⟩ => some ⟨.bl (!b), .av⟩
  | _ => none := (rfl)
def ieB (o : Option Bool) (fa fb : EF) (ρ : En) : Option R := match o with
  | some true => fa ρ
  | some false => fb ρ
  | none => none
@[simp] theorem ev_ie : eIf c fa fb ρ = ieB (c ρ) fa fb ρ := (rfl)
@[simp] theorem ieB_t : ieB (some true) fa fb ρ = fa ρ := (rfl)
@[simp] theorem ieB_f : ieB (some false) fa fb ρ = fb ρ := (rfl)
def boB : Option R → Option Bool
  | some ⟨.bl b, _⟩ => some b
  | _ => none
@[simp] theorem ev_toB : toB fe ρ = boB (fe ρ) := (rfl)
@[simp] theorem boB_some {b : Bool} : boB (some ⟨.bl b, m⟩) = some b := (rfl)
@[simp] theorem ev_aNil : aNil ρ = some [] := (rfl)
@[simp] theorem ev_aCons : aCons fe as ρ = (fe ρ).bind fun a => (as ρ).bind fun l => some (a :: l) := (rfl)
@[simp] theorem ev_tup : eTup as ρ = (as ρ).bind fun l => if l.length ≤ 1000 then some ⟨.tup (l.map R.d), md (okL l)⟩ else none := (rfl)
@[simp] theorem ev_lst : eLst as ρ = (as ρ).bind fun l => if l.length ≤ 1000 then some ⟨.lst (l.map R.d), nw (okL l)⟩ else none := (rfl)
@[simp] theorem ev_cb {g : CF} : eCB g as ρ = (as ρ).bind g := (rfl)
@[simp] theorem okR_av : okR ⟨d, .av⟩ = true := (rfl)
@[simp] theorem okR_fr : okR ⟨d, .fr⟩ = true := (rfl)
@[simp] theorem okR_bor : okR ⟨d, .bor⟩ = imm d := by simp [okR, Md.ok]
@[simp] theorem okR_top : okR ⟨d, .top⟩ = imm d := by simp [okR, Md.ok]
@[simp] theorem md_t : md true = .av := (rfl)
@[simp] theorem md_f : md false = .bor := (rfl)
@[simp] theorem nw_t : nw true = .fr := (rfl)
@[simp] theorem nw_f : nw false = .bor := (rfl)
@[simp] theorem itR_lst8 : itR ⟨.lst xs, m⟩ = (m.it || imm.immL xs) := (rfl)
@[simp] theorem itR_tup8 : itR ⟨.tup xs, m⟩ = (m.it || imm.immL xs) := (rfl)
@[simp] theorem it_av : Md.it .av = true := (rfl)
@[simp] theorem it_fr : Md.it .fr = true := (rfl)
@[simp] theorem it_top : Md.it .top = true := (rfl)
@[simp] theorem it_bor : Md.it .bor = false := (rfl)
/-! tests -/
def andB (b : Option Bool) (c : TF) (ρ : En) : Option Bool := match b with
  | some true => c ρ
  | some false => some false
  | none => none
def orB (b : Option Bool) (c : TF) (ρ : En) : Option Bool := match b with
  | some false => c ρ
  | some true => some true
  | none => none
@[simp] theorem ev_and : tAnd' c c' ρ = andB (c ρ) c' ρ := by
  unfold tAnd' andB
  cases c ρ with
  | none => rfl
  | some b => cases b <;> rfl
@[simp] theorem ev_or : tOr' c c' ρ = orB (c ρ) c' ρ := by
  unfold tOr' orB
  cases c ρ with
  | none => rfl
  | some b => cases b <;> rfl
@[simp] theorem andB_t : andB (some true) c ρ = c ρ := (rfl)
@[simp] theorem andB_f : andB (some false) c ρ = some false := (rfl)
@[simp] theorem orB_f : orB (some false) c ρ = c ρ := (rfl)
@[simp] theorem orB_t : orB (some true) c ρ = some true := (rfl)
@[simp] theorem ev_not : tNot' c ρ = (c ρ).map (!·) := (rfl)
/-! values -/
@[simp] theorem sv1 : vSub ⟨.int i, m⟩ ⟨.int j, n⟩ = some ⟨.int (i - j), .av⟩ := (rfl)
@[simp] theorem sv2 : vAdd ⟨.int i, m⟩ ⟨.int j, n⟩ = some ⟨.int (i + j), .av⟩ := (rfl)
@[simp] theorem sv2' : vAddI ⟨.int i, m⟩ ⟨.int j, n⟩ = some ⟨.int (i + j), .av⟩ := (rfl)
def Sm (i : Int) : Prop := i.natAbs < bigN
@[simp] theorem sv3 (h : Sm i) (h' : Sm j) : vMul ⟨.int i, m⟩ ⟨.int j, n⟩ = some ⟨.int (i * j), .av⟩ := by
  unfold Sm at h h'
  simp [vMul, i2, h, h']
theorem sv4' (h : 0 < j) (h' : j.natAbs < bigQ) : vDiv ⟨.int i, m⟩ ⟨.int j, n⟩ = some ⟨.int (i / j), .av⟩ := by simp [vDiv, i2, h, h']
@[simp] theorem sv4 (h : 0 < j) (h' : j < 9223372036854775808) : vDiv ⟨.int i, m⟩ ⟨.int j, n⟩ = some ⟨.int (i / j), .av⟩ := sv4' h (lt_bigQ (k := 63) (by omega) (by decide))
@[simp] theorem sv5 (h : 0 < j) : vMod ⟨.int i, m⟩ ⟨.int j, n⟩ = some ⟨.int (i % j), .av⟩ := by simp [vMod, i2, h]
@[simp] theorem sv6 (h : 0 ≤ j) (h1 : j ≤ 1000000) (h2 : i.natAbs < 18446744073709551616) : vShl ⟨.int i, m⟩ ⟨.int j, n⟩ = some ⟨.int (i * 2 ^ j.toNat), .av⟩ := by simp [vShl, i2, h, h1, h2]
@[simp] theorem sv7 (h : 0 ≤ j) : vShr ⟨.int i, m⟩ ⟨.int j, n⟩ = some ⟨.int (i / 2 ^ j.toNat), .av⟩ := by simp [vShr, i2, h]
@[simp] theorem sv6b (h : 0 ≤ j) (h1 : j ≤ 1000000) (h2 : i.natAbs < 18446744073709551616) : vPow ⟨.int i, m⟩ ⟨.int j, n⟩ = some ⟨.int (i ^ j.toNat), .av⟩ := by simp [vPow, i2, h, h1, h2]
@[simp] theorem sv8 : vBitAnd ⟨.int i, m⟩ ⟨.int j, n⟩ = some ⟨.int (Builtin.bitAnd i j), .av⟩ := (rfl)
@[simp] theorem sv9 : vGt ⟨.int i, m⟩ ⟨.int j, n⟩ = some ⟨.bl (decide (j < i)), .av⟩ := (rfl)
@[simp] theorem sv10 : vGe ⟨.int i, m⟩ ⟨.int j, n⟩ = some ⟨.bl (decide (j ≤ i)), .av⟩ := (rfl)
@[simp] theorem sv11 : vLe ⟨.int i, m⟩ ⟨.int j, n⟩ = some ⟨.bl (decide (i ≤ j)), .av⟩ := (rfl)
@[simp] theorem sv12 : vLt ⟨.int i, m⟩ ⟨.int j, n⟩ = some ⟨.bl (decide (i < j)), .av⟩ := (rfl)
@[simp] theorem sv13 (h : fit 6 d = true) (h' : fit 6 e = true) : vEq ⟨d, m⟩ ⟨e, n⟩ = some ⟨.bl (eqD d e), .av⟩ := by simp [vEq, h, h', ofB]
@[simp] theorem sv14 (h : fit 6 d = true) (h' : fit 6 e = true) : vNe ⟨d, m⟩ ⟨e, n⟩ = some ⟨.bl (!eqD d e), .av⟩ := by simp [vNe, h, h', ofB]
@[simp] theorem sv15 (h : fit 6 (.tup xs) = true) (h' : fit 6 (.tup ys) = true) (h2 : PySem.W.alike (toP (.tup xs)) (toP (.tup ys)) = true) : vLt ⟨.tup xs, m⟩ ⟨.tup ys, n⟩ = some ⟨.bl (ltD (.tup xs) (.tup ys)), .av⟩ := by
  unfold vLt
  simp only [h, h', h2]
  rfl
@[simp] theorem sv16 : vIs ⟨d, m⟩ ⟨.non, n⟩ = some ⟨.bl (nonD d), .av⟩ := (rfl)
@[simp] theorem sv17 : vIsNot ⟨d, m⟩ ⟨.non, n⟩ = some ⟨.bl (!nonD d), .av⟩ := (rfl)
@[simp] theorem nonD1 : nonD .non = true := (rfl)
@[simp] theorem nonD2 : nonD (.tup xs) = false := (rfl)
@[simp] theorem nonD3 : nonD (.int i) = false := (rfl)
@[simp] theorem nonD4 : nonD (.lst xs) = false := (rfl)
@[simp] theorem sv18 : uNeg ⟨.int i, m⟩ = some ⟨.int (-i), .av⟩ := (rfl)
@[simp] theorem sv19 : cLen [⟨.lst xs, m⟩] = some ⟨.int xs.length, .av⟩ := (rfl)
@[simp] theorem sv20 : cLen [⟨.tup xs, m⟩] = some ⟨.int xs.length, .av⟩ := (rfl)
@[simp] theorem sv21 {ns : List Int} : cLen [⟨.ro ns, m⟩] = some ⟨.int ns.length, .av⟩ := (rfl)
@[simp] theorem sv22 : cTup [⟨.lst xs, m⟩] = some ⟨.tup xs, md (m.it || imm.immL xs)⟩ := (rfl)
@[simp] theorem sv23 : cTup [⟨.tup xs, m⟩] = some ⟨.tup xs, md (okR ⟨.tup xs, m⟩)⟩ := (rfl)
@[simp] theorem sv24 : cLst [⟨.lst xs, m⟩] = some ⟨.lst xs, nw (m.it || imm.immL xs)⟩ := (rfl)
@[simp] theorem sv25 : cLst [⟨.tup xs, m⟩] = some ⟨.lst xs, nw (m.it || imm.immL xs)⟩ := (rfl)
@[simp] theorem sv26 : cSum [⟨.lst xs, m⟩] = (intsD xs).map fun ns => ⟨.int ns.sum, .av⟩ := (rfl)
@[simp] theorem sv27 {ns : List Int} : vIx ⟨.ro ns, m⟩ ⟨.int i, n⟩ = (atI ns i).map fun n => ⟨.int n, .av⟩ := (rfl)
@[simp] theorem sv28 : vIx ⟨.lst xs, m⟩ ⟨.int i, n⟩ = (atI xs i).map fun d => ⟨d, md (m.it || imm.immL xs || imm d)⟩ := (rfl)
@[simp] theorem sv29 : vIx ⟨.tup xs, m⟩ ⟨.int i, n⟩ = (atI xs i).map fun d => ⟨d, md (m.it || imm.immL xs || imm d)⟩ := (rfl)
@[simp] theorem sv30 (h : xs.length + ys.length ≤ 100000) : vAdd ⟨.lst xs, m⟩ ⟨.lst ys, n⟩ = some ⟨.lst (xs ++ ys), nw ((m.it || imm.immL xs) && (n.it || imm.immL ys))⟩ := by
  unfold vAdd
  simp [h, itR]
@[simp] theorem sv31 (h : xs.length + ys.length ≤ 100000) : vAdd ⟨.tup xs, m⟩ ⟨.tup ys, n⟩ = some ⟨.tup (xs ++ ys), md (okR ⟨.tup xs, m⟩ && okR ⟨.tup ys, n⟩)⟩ := by
  unfold vAdd
  simp [h]
@[simp] theorem sv32 {neg : Bool} (h : atom d = true) (h' : xs.all atom = true) : vInG neg ⟨d, m⟩ ⟨.lst xs, n⟩ = some ⟨.bl (if neg then !inD d xs else inD d xs), .av⟩ := by
  unfold vInG
  simp only [h, h', Bool.and_self, if_true]
  rfl
@[simp] theorem sv33 {neg : Bool} (h : atom d = true) (h' : xs.all atom = true) : vInG neg ⟨d, m⟩ ⟨.tup xs, n⟩ = some ⟨.bl (if neg then !inD d xs else inD d xs), .av⟩ := by
  unfold vInG
  simp only [h, h', Bool.and_self, if_true]
  rfl
@[simp] theorem atom_int : atom (.int i) = true := (rfl)
theorem atom_ints (ns : List Int) : (ns.map D.int).all atom = true := by simp
theorem inD_ints (i : Int) (ns : List Int) : inD (.int i) (ns.map .int) = decide (i ∈ ns) := by
  induction ns with
  | nil => rfl
  | cons x r ih =>
    unfold inD at ih ⊢
    rw [List.map_cons, List.any_cons, ih]
    by_cases h : x = i
    · subst h; simp [eqA]
    · have h2 : ¬ i = x := fun z => h z.symm
      simp [eqA, h, h2]
/-! walks -/
@[simp] theorem ev_iL : iL fe ρ = match fe ρ with
  | some ⟨.lst ds, m⟩ => if m.ok then some ds else none
  | _ => none := (rfl)
@[simp] theorem ev_iT : iT fe ρ = match fe ρ with
  | some ⟨.tup ds, m⟩ => if okR ⟨.tup ds, m⟩ then some ds else none
  | _ => none := (rfl)
@[simp] theorem ok_av : Md.ok .av = true := (rfl)
@[simp] theorem ok_fr : Md.ok .fr = true := (rfl)
@[simp] theorem ev_iLc : iLc fe ρ = match fe ρ with
  | some ⟨.lst ds, m⟩ => if itR ⟨.lst ds, m⟩ then some ds else none
  | _ => none := (rfl)
def r1B : Option (List R) → Option (List D)
  | some [⟨.int j, _⟩] => if -(2 ^ 62) ≤ j ∧ j < 2 ^ 62 then some (rgD 0 j.toNat) else none
  | _ => none
@[simp] theorem ev_iR1 : iR1 as ρ = r1B (as ρ) := (rfl)
@[simp] theorem r1B_int (h : -4611686018427387904 ≤ i) (h' : i < 4611686018427387904) : r1B (some [⟨.int i, m⟩]) = some (rgD 0 i.toNat) := by
  unfold r1B
  exact if_pos ⟨by omega, by omega⟩
@[simp] theorem r1B_len {q : Nat} (h : q ≤ 1000000) : r1B (some [⟨.int (q : Int), m⟩]) = some ((List.range q).map fun (i : Nat) => D.int i) := by
  rw [r1B_int (by omega) (by omega), Int.toNat_natCast, rgD_zero]
def r2B : Option (List R) → Option (List D)
  | some [⟨.int i, _⟩, ⟨.int j, _⟩] => if -(2 ^ 62) ≤ i ∧ i < 2 ^ 62 ∧ -(2 ^ 62) ≤ j ∧ j < 2 ^ 62 then some (rgD i (j - i).toNat) else none
  | _ => none
@[simp] theorem ev_iR2 : iR2 as ρ = r2B (as ρ) := (rfl)
@[simp] theorem r2B_int (h : -4611686018427387904 ≤ i) (h' : i < 4611686018427387904) (h2 : -4611686018427387904 ≤ j) (h2' : j < 4611686018427387904) : r2B (some [⟨.int i, m⟩, ⟨.int j, n⟩]) = some (rgD i (j - i).toNat) := by
  unfold r2B
  exact if_pos ⟨by omega, by omega, by omega, by omega⟩
def zB (o : Option (List R)) : Option (List D) := match o with
  | some [⟨.lst xs, m⟩, ⟨.lst ys, n⟩] => if m.ok && n.ok then some (zipD xs ys) else none
  | some [⟨.tup xs, m⟩, ⟨.tup ys, n⟩] => if okR ⟨.tup xs, m⟩ && okR ⟨.tup ys, n⟩ then some (zipD xs ys) else none
  | _ => none
@[simp] theorem ev_iZ : iZ as ρ = zB (as ρ) := (rfl)
@[simp] theorem zB_l : zB (some [⟨.lst xs, m⟩, ⟨.lst ys, n⟩]) = if m.ok && n.ok then some (zipD xs ys) else none := (rfl)
@[simp] theorem zB_t : zB (some [⟨.tup xs, m⟩, ⟨.tup ys, n⟩]) = if okR ⟨.tup xs, m⟩ && okR ⟨.tup ys, n⟩ then some (zipD xs ys) else none := (rfl)
def lcB (vs : List Nat) (o : Option (List D)) (tg : GF) (ft : TF) (fe : EF) (ρ : En) : Option R := o.bind fun ds => if vs.all (notOwn ρ) && decide (ds.length ≤ 100000) then (compF tg ft fe (wipeE vs ρ) ds).map fun es => ⟨.lst es, .fr⟩ else none
@[simp] theorem ev_lc : eLc vs fi tg ft fe ρ = lcB vs (fi ρ) tg ft fe ρ := (rfl)
@[simp] theorem lcB_some (h : vs.all (notOwn ρ) = true) (h' : xs.length ≤ 100000) : lcB vs (some xs) tg ft fe ρ = (compF tg ft fe (wipeE vs ρ) xs).map fun es => ⟨.lst es, .fr⟩ := by
  unfold lcB
  simp [h, h']
@[simp] theorem wipeE_nil : wipeE [] ρ = ρ := (rfl)
@[simp] theorem wipeE_cons : wipeE (k :: vs) ρ = (wipeE vs ρ).set k .emp := (rfl)
@[simp] theorem notOwn_i : notOwn ρ k = match ρ[k]? with
  | some (.own _) => false
  | _ => true := (rfl)
@[simp] theorem ev_yes : tYes' ρ = some true := (rfl)
/-! slices -/
@[simp] theorem ev_sl {l h : OF} : eSl fe l h ρ = (fe ρ).bind fun a => (l ρ).bind fun l => (h ρ).bind fun h => slF a l h := (rfl)
@[simp] theorem ev_oN : oNone ρ = some none := (rfl)
def osB : Option R → Option (Option Int)
  | some ⟨.int i, _⟩ => some (some i)
  | _ => none
@[simp] theorem ev_oS : oSome fe ρ = osB (fe ρ) := (rfl)
@[simp] theorem osB_int : osB (some ⟨.int i, m⟩) = some (some i) := (rfl)
@[simp] theorem slF_l {l h : Option Int} : slF ⟨.lst xs, m⟩ l h = some ⟨.lst (cutG xs l h), nw (m.it || imm.immL xs)⟩ := (rfl)
@[simp] theorem slF_t {l h : Option Int} : slF ⟨.tup xs, m⟩ l h = some ⟨.tup (cutG xs l h), md (okR ⟨.tup xs, m⟩)⟩ := (rfl)
@[simp] theorem slF_r {ns : List Int} {l h : Option Int} : slF ⟨.ro ns, m⟩ l h = some ⟨.lst ((cutG ns l h).map .int), .fr⟩ := (rfl)
/-! isinstance -/
@[simp] theorem ev_isi {T : String} : eIsi T fe ρ = (fe ρ).bind fun a => if knd a.d then some (ofB (isiD a.d T)) else none := (rfl)
@[simp] theorem knd_int : knd (.int i) = true := (rfl)
@[simp] theorem knd_bl {b : Bool} : knd (.bl b) = true := (rfl)
@[simp] theorem knd_tup : knd (.tup xs) = true := (rfl)
@[simp] theorem knd_lst : knd (.lst xs) = true := (rfl)
@[simp] theorem knd_non : knd .non = true := (rfl)
@[simp] theorem knd_str {x : Str} : knd (.str x) = true := (rfl)
@[simp] theorem ofB_eq {b : Bool} : ofB b = ⟨.bl b, .av⟩ := (rfl)
@[simp] theorem isi_bb {b : Bool} : isiD (.bl b) "bool" = true := (rfl)
@[simp] theorem isi_ib : isiD (.int i) "bool" = false := (rfl)
@[simp] theorem isi_ii : isiD (.int i) "int" = true := (rfl)
@[simp] theorem isi_it : isiD (.int i) "tuple" = false := (rfl)
@[simp] theorem isi_il : isiD (.int i) "list" = false := (rfl)
@[simp] theorem isi_tt : isiD (.tup xs) "tuple" = true := (rfl)
@[simp] theorem isi_tl : isiD (.tup xs) "list" = false := (rfl)
@[simp] theorem isi_lt : isiD (.lst xs) "tuple" = false := (rfl)
@[simp] theorem isi_ll : isiD (.lst xs) "list" = true := (rfl)
@[simp] theorem isi_nt : isiD .non "tuple" = false := (rfl)
@[simp] theorem isi_nl : isiD .non "list" = false := (rfl)
@[simp] theorem isi_nb : isiD .non "bool" = false := (rfl)
@[simp] theorem isi_ni : isiD .non "int" = false := (rfl)
@[simp] theorem isi_ns : isiD .non "str" = false := (rfl)
/-! calls -/
def callB (G : FF) (dd : List D) (o : Option (List R)) : Option R := o.bind fun rs => match G (rs.map R.d ++ dd) with
  | some (.val d fr) => some ⟨d, cMd (okL rs) fr d⟩
  | some (.nw d) => some ⟨d, .av⟩
  | _ => none
@[simp] theorem ev_call : eCall G dd as ρ = callB G dd (as ρ) := (rfl)
def outR (o : Option Out) (b : Bool) : Option R := match o with
  | some (.val d fr) => some ⟨d, cMd b fr d⟩
  | some (.nw d) => some ⟨d, .av⟩
  | _ => none
@[simp] theorem callB_some : callB G dd (some rs) = outR (G (rs.map R.d ++ dd)) (okL rs) := (rfl)
@[simp] theorem outR_n {b : Bool} : outR (some (.nw d)) b = some ⟨d, .av⟩ := (rfl)
@[simp] theorem outR_1 : outR (some (.val d true)) true = some ⟨d, .fr⟩ := (rfl)
@[simp] theorem outR_2 : outR (some (.val d false)) true = some ⟨d, .av⟩ := (rfl)
@[simp] theorem outR_3 : outR (some (.val d false)) false = some ⟨d, .bor⟩ := (rfl)
@[simp] theorem outR_4 (h : immI d = true) : outR (some (.val d true)) false = some ⟨d, .fr⟩ := by simp [outR, cMd, h]
@[simp] theorem outR_5 (h : immI d = false) : outR (some (.val d true)) false = some ⟨d, .bor⟩ := by simp [outR, cMd, h]
@[simp] theorem immI_l : immI (.lst xs) = imm.immL xs := (rfl)
@[simp] theorem isi_bt {b : Bool} : isiD (.bl b) "tuple" = false := (rfl)
@[simp] theorem isi_bl {b : Bool} : isiD (.bl b) "list" = false := (rfl)
@[simp] theorem tgTup_lst {is : List Nat} : tgTup is ⟨.tup xs, m⟩ ρ = if itR ⟨.tup xs, m⟩ then tgNames is xs ρ else none := (rfl)
@[simp] theorem loopF_nil {body : SF} : loopF tg body [] ρ = some (.nx ρ) := (rfl)
theorem smallN {i : Int} (h : -18446744073709551616 < i) (h' : i < 18446744073709551616) : i.natAbs < bigN := lt_bigN (k := 64) (by omega) (by decide)
theorem smI {i : Int} (h : -18446744073709551616 < i) (h' : i < 18446744073709551616) : Sm i := smallN h h'
@[simp] theorem bit_one (i : Int) : Builtin.bitAnd i 1 = i % 2 := PyProof.Rows.bitAnd_m1 i
theorem atI_ok {α : Type} {xs : List α} {i : Int} (h : -(xs.length : Int) ≤ i) (h' : i < xs.length) : ∃ x, atI xs i = some x ∧ x ∈ xs := by
  unfold atI ixN
  by_cases h0 : 0 ≤ i
  · have : i.toNat < xs.length := by omega
    refine ⟨xs[i.toNat], ?_, List.getElem_mem _⟩
    rw [if_pos h0, if_pos h', Option.bind_some, List.getElem?_eq_getElem this]
  · have : (i + xs.length).toNat < xs.length := by omega
    refine ⟨xs[(i + xs.length).toNat], ?_, List.getElem_mem _⟩
    rw [if_neg h0, if_pos h, Option.bind_some, List.getElem?_eq_getElem this]
theorem atI_ints {ns : List Int} {i : Int} (h : -(ns.length : Int) ≤ i) (h' : i < ns.length) : ∃ x, atI (ns.map D.int) i = some (.int x) ∧ x ∈ ns := by
  obtain ⟨d, h1, h2⟩ := atI_ok (xs := ns.map D.int) (i := i) (by simpa using h) (by simpa using h')
  obtain ⟨x, h3, h4⟩ := List.mem_map.mp h2
  exact ⟨x, by rw [h1, h4], h3⟩
theorem cut_to {α : Type} (xs : List α) (k : Nat) : cutG xs none (some (k : Int)) = xs.take k := by
  unfold cutG
  rw [HT.sIx_none, HT.sIx_nat]
  simp
theorem cut_from {α : Type} (xs : List α) (k : Nat) : cutG xs (some (k : Int)) none = xs.drop k := by
  unfold cutG
  rw [HT.sIx_none, HT.sIx_nat]
  by_cases h : k ≤ xs.length
  · rw [Nat.min_eq_left h, List.take_of_length_le]
    simp
  · rw [Nat.min_eq_right (by omega), List.drop_of_length_le (by omega), List.drop_of_length_le (by omega)]
    simp
theorem cut_mid {α : Type} (xs : List α) (j k : Nat) : cutG xs (some (j : Int)) (some (k : Int)) = (xs.drop j).take (k - j) := by
  unfold cutG
  rw [HT.sIx_nat, HT.sIx_nat]
  by_cases h : j ≤ xs.length
  · rw [Nat.min_eq_left h]
    by_cases h2 : k ≤ xs.length
    · rw [Nat.min_eq_left h2]
    · rw [Nat.min_eq_right (by omega), List.take_of_length_le (by simp), List.take_of_length_le (by simp; omega)]
  · rw [Nat.min_eq_right (by omega : xs.length ≤ j), List.drop_of_length_le (by omega), List.drop_of_length_le (by omega)]
    simp
@[simp] theorem ev_step {body : SF} : step tg body d ρ = stB (tg ⟨d, .av⟩ ρ) body := (rfl)
end Fb
set_option maxHeartbeats 2000000
/-! Fb9: plain laws for tables of (tuple of ints, int), and lists of such pairs. -/
namespace Fb
open PySem PySem.Spec L2
variable [γ : GSt]
theorem keysD_ints : ∀ xs : List Int, keysD (xs.map .int) = some (xs.map Sum.inl)
  | [] => rfl
  | x :: r => by
    rw [List.map_cons, keysD, keysD_ints r]
    rfl
def inK (xs : List Int) : List Key := xs.map Sum.inl
theorem inK_inj {xs ys : List Int} : inK xs = inK ys ↔ xs = ys := by
  unfold inK
  constructor
  · intro h
    induction xs generalizing ys with
    | nil => cases ys with
      | nil => rfl
      | cons y r => cases h
    | cons x r ih => cases ys with
      | nil => cases h
      | cons y s =>
        rw [List.map_cons, List.map_cons, List.cons.injEq] at h
        rw [ih h.2, Sum.inl.inj h.1]
  · intro h
    rw [h]
abbrev Tb := List (List Int × Int)
def enT (l : Tb) : List (List Key × D) := l.map fun p => (inK p.1, D.int p.2)
def valI (l : Tb) (k : List Int) : Option Int := (l.find? fun p => decide (p.1 = k)).map (·.2)
def putI (l : Tb) (k : List Int) (v : Int) : Tb := if (l.any fun p => decide (p.1 = k)) = true then l.map (fun p => if p.1 = k then (p.1, v) else p) else l ++ [(k, v)]
@[simp] theorem valD_en (k : List Int) : ∀ l : Tb, valD (enT l) (k.map Sum.inl) = (valI l k).map D.int
  | [] => rfl
  | p :: r => by
    have ih := valD_en k r
    unfold valD valI enT at ih ⊢
    rw [List.map_cons, List.find?_cons, List.find?_cons]
    by_cases h : p.1 = k
    · have h' : inK p.1 = k.map Sum.inl := by rw [h]; rfl
      simp [h, h', inK]
    · have h' : ¬ inK p.1 = k.map Sum.inl := fun z => h (inK_inj.mp z)
      simp only [h, h', decide_false]
      exact ih
theorem any_en (k : List Int) (l : Tb) : ((enT l).any fun kv => decide (kv.1 = k.map Sum.inl)) = l.any fun p => decide (p.1 = k) := by
  unfold enT
  rw [List.any_map]
  congr 1
  funext p
  show decide (inK p.1 = inK k) = _
  simp only [inK_inj]
@[simp] theorem putD_en (k : List Int) (v : Int) (l : Tb) : putD (enT l) (k.map Sum.inl) (.int v) = enT (putI l k v) := by
  unfold putD putI
  rw [any_en]
  split
  · unfold enT
    rw [List.map_map, List.map_map]
    refine List.map_congr_left fun p _ => ?_
    show (if inK p.1 = inK k then (inK p.1, D.int v) else (inK p.1, D.int p.2)) = _
    by_cases h : p.1 = k
    · simp [h]
    · have : ¬ inK p.1 = inK k := fun z => h (inK_inj.mp z)
      simp [h, this]
  · unfold enT
    rw [List.map_append]
    rfl
@[simp] theorem len_en (l : Tb) : (enT l).length = l.length := by
  unfold enT
  simp
theorem valI_mem {l : Tb} {k : List Int} {v : Int} (h : valI l k = some v) : (k, v) ∈ l := by
  unfold valI at h
  obtain ⟨p, h1, h2⟩ := Option.map_eq_some_iff.mp h
  have := List.find?_some h1
  simp only [decide_eq_true_eq] at this
  have hm := List.mem_of_find?_eq_some h1
  rw [← this, ← h2]
  exact hm
theorem valI_some {l : Tb} {p : List Int × Int} (h : p ∈ l) : ∃ v, valI l p.1 = some v := by
  unfold valI
  cases e : l.find? fun q => decide (q.1 = p.1) with
  | none =>
    have := List.find?_eq_none.mp e p h
    simp at this
  | some q => exact ⟨_, rfl⟩
theorem putI_mem {l : Tb} {k : List Int} {v : Int} {p : List Int × Int} (h : p ∈ putI l k v) : p ∈ l ∨ p = (k, v) := by
  unfold putI at h
  split at h
  · obtain ⟨q, h1, h2⟩ := List.mem_map.mp h
    split at h2
    · rename_i e
      right
      rw [← h2, e]
    · left
      rw [← h2]
      exact h1
  · rcases List.mem_append.mp h with h | h
    · exact .inl h
    · exact .inr (List.mem_singleton.mp h)
theorem putI_len (l : Tb) (k : List Int) (v : Int) : (putI l k v).length ≤ l.length + 1 := by
  unfold putI
  split <;> simp
theorem putI_ne (l : Tb) (k : List Int) (v : Int) : putI l k v ≠ [] := by
  unfold putI
  split
  · rename_i h
    intro z
    rw [List.map_eq_nil_iff] at z
    rw [z] at h
    cases h
  · simp
/-- (names, how many) -/
def hD (p : List Int × Int) : D := .tup [.tup (p.1.map .int), .int p.2]
theorem keyT_ints (xs : List Int) : keyT (inK xs) = .tup (xs.map .int) := by
  unfold keyT inK
  rw [List.map_map]
  rfl
theorem keys_en (l : Tb) : (enT l).map (fun kv => keyT kv.1) = l.map fun p => D.tup (p.1.map .int) := by
  unfold enT
  rw [List.map_map]
  refine List.map_congr_left fun p _ => ?_
  show keyT (inK p.1) = _
  exact keyT_ints _
/-- (how many names, names) -/
def rwD (p : List Int × Int) : D := .tup [.int p.1.length, .tup (p.1.map .int)]
theorem imm_rw (l : Tb) : imm.immL (l.map rwD) = true := immL_map _ (fun p => by simp [rwD]) l
theorem srt_rw (l : Tb) (h : l.length ≤ 100000) : srtOk (l.map rwD) = true := by
  unfold srtOk
  simp only [Bool.and_eq_true, Bool.or_eq_true, decide_eq_true_eq, List.all_eq_true]
  refine ⟨⟨⟨by simpa using h, fun d hd => ?_⟩, fun d hd e he => ?_⟩, .inl fun d hd => ?_⟩
  · obtain ⟨p, _, rfl⟩ := List.mem_map.mp hd
    simp [rwD]
  · obtain ⟨p, _, rfl⟩ := List.mem_map.mp hd
    obtain ⟨q, _, rfl⟩ := List.mem_map.mp he
    exact alike_rank _ _ _ _
  · obtain ⟨p, _, rfl⟩ := List.mem_map.mp hd
    rfl
theorem sort_rw (l : Tb) : ∃ l' : Tb, sortD (l.map rwD) = l'.map rwD ∧ ∀ p ∈ l', p ∈ l := by
  refine ⟨l.mergeSort fun p q => sLe (rwD p) (rwD q), ?_, fun p hp => List.mem_mergeSort.mp hp⟩
  unfold sortD
  rw [List.map_mergeSort (r := fun p q => sLe (rwD p) (rwD q)) (s := sLe) (fun a _ b _ => rfl)]
@[simp] theorem sv40 {xs : List D} {m : Md} (h : srtOk xs = true) : cSort [⟨.lst xs, m⟩] = some ⟨.lst (sortD xs), nw (m.it || imm.immL xs)⟩ := by
  unfold cSort
  simp [h]
@[simp] theorem sv41 {kvs : List (List Key × D)} : cLenD [⟨.dT kvs, .top⟩] = some ⟨.int kvs.length, .av⟩ := (rfl)
@[simp] theorem ev_dictT {ρ : En} : eDictT ρ = some ⟨.dT [], .fr⟩ := (rfl)
@[simp] theorem ev_dget {fa fb : EF} {ρ : En} : eDGet fa fb ρ = (fa ρ).bind fun a => (fb ρ).bind fun b => dGet a b := (rfl)
@[simp] theorem ev_dget2 {fa fb fc : EF} {ρ : En} : eDGet2 fa fb fc ρ = (fa ρ).bind fun a => (fb ρ).bind fun b => (fc ρ).bind fun c => dGet2 a b c := (rfl)
@[simp] theorem dget_en {l : Tb} {k : List Int} {m n : Md} : dGet ⟨.dT (enT l), m⟩ ⟨.tup (k.map .int), n⟩ = (valI l k).map fun v => ⟨.int v, .av⟩ := by
  unfold dGet
  simp only [keysD_ints, Option.bind_some, valD_en]
  cases valI l k <;> rfl
@[simp] theorem dget2_en {l : Tb} {k : List Int} {x : Int} {m n : Md} : dGet2 ⟨.dT (enT l), m⟩ ⟨.tup (k.map .int), n⟩ ⟨.int x, .av⟩ = some ⟨.int ((valI l k).getD x), .av⟩ := by
  unfold dGet2
  simp only [keysD_ints, Option.bind_some, valD_en]
  cases valI l k <;> rfl
@[simp] theorem ev_dput {i : Nat} {fk fv : EF} {ρ : En} : sDPut i fk fv ρ = (fv ρ).bind fun r => match ρ[i]? with
  | some (.own (.dT kvs)) => (fk ρ).bind fun k => match k.d with
    | .tup ks => (keysD ks).bind fun q => if okR r && decide (kvs.length < 100000) then some (.nx (ρ.set i (.own (.dT (putD kvs q r.d))))) else none
    | _ => none
  | _ => none := (rfl)
def lcKB (s : Option Sl) (i : Nat) (vs : List Nat) (tg : GF) (ft : TF) (fe : EF) (ρ : En) : Option R := match s with
  | some (.own (.dT kvs)) => if vs.all (notOwn (ρ.set i (.sh (.dT kvs)))) && decide ((kvs.map fun kv => keyT kv.1).length ≤ 100000) then (compF tg ft fe (wipeE vs (ρ.set i (.sh (.dT kvs)))) (kvs.map fun kv => keyT kv.1)).bind fun es => if imm.immL es then some ⟨.lst es, .fr⟩ else none else none
  | _ => none
@[simp] theorem ev_lcK {i : Nat} {vs : List Nat} {tg : GF} {ft : TF} {fe : EF} {ρ : En} : eLcK i vs tg ft fe ρ = lcKB (ρ[i]?) i vs tg ft fe ρ := (rfl)
@[simp] theorem lcKB_en {i : Nat} {vs : List Nat} {tg : GF} {ft : TF} {fe : EF} {ρ : En} {l : Tb} (h : vs.all (notOwn (ρ.set i (.sh (.dT (enT l))))) = true) (h' : l.length ≤ 100000) : lcKB (some (.own (.dT (enT l)))) i vs tg ft fe ρ = (compF tg ft fe (wipeE vs (ρ.set i (.sh (.dT (enT l))))) (l.map fun p => D.tup (p.1.map .int))).bind fun es => if imm.immL es then some ⟨.lst es, .fr⟩ else none := by
  unfold lcKB
  dsimp only
  rw [keys_en]
  simp [h, h']
@[simp] theorem ev_cix {ns : List Int} {fb : EF} {ρ : En} : eCIx ns fb ρ = (fb ρ).bind fun b => match b.d with
  | .int i => (atI ns i).map fun n => ⟨.int n, .av⟩
  | _ => none := (rfl)
theorem eqvAll_refl (h : ∀ x ∈ l, PyData.eqv x x = true) : PyData.eqvAll l l = true := by
  induction l with
  | nil => rfl
  | cons x r ih =>
    rw [PyData.eqvAll, h x List.mem_cons_self, ih fun y hy => h y (List.mem_cons_of_mem _ hy)]
    rfl
theorem eqD_refl : ∀ (n : Nat) (d : D), fit n d = true → eqD d d = true
  | _, .non, _ => rfl
  | _, .bl b, _ => by simp
  | _, .int i, _ => by simp
  | _, .str x, _ => by
    show PyData.eqv (.str x) (.str x) = true
    simp [PyData.eqv]
  | n + 1, .tup ds, h => by
    show PyData.eqv (.tuple (toPL ds)) (.tuple (toPL ds)) = true
    rw [PyData.eqv, toPL_map]
    refine eqvAll_refl fun x hx => ?_
    obtain ⟨d, hd, rfl⟩ := List.mem_map.mp hx
    exact eqD_refl n d (List.all_eq_true.mp (by simpa [fit] using h) d hd)
  | n + 1, .lst ds, h => by
    show PyData.eqv (.list (toPL ds)) (.list (toPL ds)) = true
    rw [PyData.eqv, toPL_map]
    refine eqvAll_refl fun x hx => ?_
    obtain ⟨d, hd, rfl⟩ := List.mem_map.mp hx
    exact eqD_refl n d (List.all_eq_true.mp (by simpa [fit] using h) d hd)
  | 0, .tup _, h => by simp [fit] at h
  | 0, .lst _, h => by simp [fit] at h
  | _, .dT _, h => by simp [fit] at h
  | _, .dK _, h => by simp [fit] at h
  | _, .obj _, h => by simp [fit] at h
  | _, .exc _, h => by simp [fit] at h
  | _, .ro _, h => by simp [fit] at h
  | _, .rf _, h => by simp [fit] at h
  | _, .bx _ _ _, h => by simp [fit] at h
theorem fit_hs (n : Nat) (hs : Tb) : fit (n + 3) (.lst (hs.map hD)) = true := by
  simp only [fit, List.all_eq_true]
  intro d hd
  obtain ⟨p, _, rfl⟩ := List.mem_map.mp hd
  simp [hD, fit]
theorem imm_hs (hs : Tb) : imm.immL (hs.map hD) = true := immL_map _ (fun p => by simp [hD]) hs
theorem filter_yes {α : Type} (l : List α) : l.filter (fun _ => true) = l := List.filter_eq_self.mpr fun _ _ => rfl
theorem compF_all {α : Type} {tgt : GF} {ft : TF} {fe : EF} {ρ : En} (e : α → D) (g : α → D) {l : List α} (h : ∀ a ∈ l, ∃ ρ1, tgt ⟨e a, .av⟩ ρ = some ρ1 ∧ ft ρ1 = some true ∧ ∃ m, fe ρ1 = some ⟨g a, m⟩ ∧ okR ⟨g a, m⟩ = true) : compF tgt ft fe ρ (l.map e) = some (l.map g) := by
  have := compF_map (tgt := tgt) (ft := ft) (fe := fe) (ρ := ρ) (l := l) e (fun _ => true) g fun a ha => let ⟨ρ1, h1, h2, h3⟩ := h a ha; ⟨ρ1, h1, h2, fun _ => h3⟩
  rw [filter_yes] at this
  exact this
end Fb
set_option maxHeartbeats 2000000
/-! FbA: append, clear, pop(i) on a list of one's own; a def that calls itself. -/
namespace Fb
open PySem PySem.Spec L2
variable [γ : GSt]
def sApp (i : Nat) (fe : EF) : SF := fun ρ => match ρ[i]? with
  | some (.own (.lst ds)) => (fe ρ).bind fun r => if okR r && decide (ds.length < 100000) then some (.nx (ρ.set i (.own (.lst (ds ++ [r.d]))))) else none
  | _ => none
def sClr (i : Nat) : SF := fun ρ => match ρ[i]? with
  | some (.own (.lst _)) => some (.nx (ρ.set i (.own (.lst []))))
  | _ => none
section
variable {X : Cx} {K : PySem.W.Frag} {W : Str → Hp → Prop} {te : TE} {fe : EF} {e : Expr} {pos : Pos}
theorem own_lst {Z : Addr → Prop} {H : Hp} {σ : L2.St} {ρ : En} {i : Nat} {ds : List D} (E : EnvOk K Z H σ ρ) (h : ρ[i]? = some (.own (.lst ds))) : ∃ a vs, σ[i]? = some (some (.ref a)) ∧ H a = some (.lst vs) ∧ RpL K (hide (Pz Z σ ρ) H) vs ds := by
  obtain ⟨a, a1, vs, a2, a3⟩ := E.own i _ h
  exact ⟨a, vs, a1, a2, a3⟩
theorem same_own {Z : Addr → Prop} {H : Hp} {σ : L2.St} {ρ : En} {i : Nat} {d : D} {a : Addr} {o : HO} (h : ρ[i]? = some (.own d)) (h2 : σ[i]? = some (some (.ref a))) : Sme (hide (Pz Z σ ρ) H) (hide (Pz Z σ ρ) (upd H a o)) := hide_mono (fun b _ _ z => z) fun b x z k => by
  rw [upd_ne fun c => z (by rw [c]; exact .inr ⟨i, d, h, h2⟩)]
  exact k
theorem ss_app {i : Nat} (h : SemE K te fe) : SemS K W (tDrop (tBM K "list" rAppend (tVar i) (tCons te tNil))) (sApp i fe) := by
  intro Z B σ H ρ fl S e Dn w
  unfold sApp at e
  split at e
  · rename_i ds e0
    obtain ⟨r, e1, e⟩ := Option.bind_eq_some_iff.mp e
    split at e
    · rename_i hc
      rw [Bool.and_eq_true, decide_eq_true_eq] at hc
      cases e
      obtain ⟨a, vs, a1, a2, a3⟩ := own_lst S.env e0
      refine ⟨.ref a, a1, .inl ⟨rfl, _, SqL.of a2⟩, ?_⟩
      refine h Z σ H ρ r S.env e1 _ fun v H1 s1 rv => ?_
      have S1 := S.mono s1
      obtain ⟨a', vs', b1, b2, b3⟩ := own_lst S1.env e0
      rw [a1] at b1
      cases b1
      have hd := (rv.opd S.env.pok).okR S1.env.pok hc.1
      have sm := same_own (Z := Z) (H := H1) (o := .lst (vs' ++ [v])) e0 a1
      refine ⟨a, vs', v, rfl, rfl, b2, by rw [b3.length]; exact Nat.lt_trans hc.2 (by decide), ?_⟩
      exact w σ _ (S1.upd e0 a1 ⟨_, upd_same, (RpL.mono sm _ _ b3).append (.cons (Rp.mono sm _ _ hd) .nil)⟩)
    · cases e
  · cases e
theorem gs_app (i : Nat) {x : Str} {np apos cpos : Pos} (he : GE K X e te fe) (hN : X.N[i]? = some x := by rfl) (hv : Vis X.env.scope x := by first | exact Or.inl rfl | exact Or.inr (Or.inl rfl) | exact Or.inr (Or.inr rfl)) (hd : (x == ("__debug__" : Str)) = false := by decide)
    (hcd : (x == ("__classdict__" : Str)) = false := by decide) (hs : starEach [e] X.env = (false, eval e X.env) :: starEach [] X.env := by rfl)
    (hbase : attributeBase (.Name x np) "append" X.env (eval (.Name x np) X.env) = eval (.Name x np) X.env := by rfl)
    (hfew : ((backTo cpos (starEach [e] X.env)).all (fun x => !x.1) && (backToKw cpos (keywordEach [] X.env)).all (fun x => x.1.isSome) && decide (([e] : List Expr).length + ([] : List Keyword).length + (if ([] : List Keyword).isEmpty then 0 else 1) < 30)) = true := by rfl)
    (hline : (apos.endLine == cpos.line) = true := by rfl) (hplain : (backTo cpos (starEach [] X.env)).any (·.1) = false := by rfl) (hsw : swapsWith (.Call (.Attribute (.Name x np) "append" apos) [e] [] cpos) none pos.line X.env = pure false := by rfl) (eK : X.K = K := by rfl) :
    GS K X W (.Expr (.Call (.Attribute (.Name x np) "append" apos) [e] [] cpos) pos) (tDrop (tBM K "list" rAppend (tVar i) (tCons te tNil))) (sApp i fe) := by
  subst eK
  exact ⟨ps_expr (pe_bm PySem.F.plainAttrs_list PySem.F.slot_list_append PySem.F.type_list_append mt_append (pe_var hN hv hd hcd) (pa_cons he.p pa_nil hs) hbase hfew hline hs hplain) hsw, ss_app he.s⟩
theorem ss_clr {i : Nat} : SemS K W (tDrop (tBM0 K "list" rClear (tVar i))) (sClr i) := by
  intro Z B σ H ρ fl S e Dn w
  unfold sClr at e
  split at e
  · rename_i ds e0
    cases e
    obtain ⟨a, vs, a1, a2, a3⟩ := own_lst S.env e0
    refine ⟨.ref a, a1, .inl ⟨rfl, _, SqL.of a2⟩, a, vs, rfl, rfl, a2, ?_⟩
    exact w σ _ (S.upd e0 a1 ⟨_, upd_same, .nil⟩)
  · cases e
theorem gs_clr (i : Nat) {x : Str} {np apos cpos : Pos} (hN : X.N[i]? = some x := by rfl) (hv : Vis X.env.scope x := by first | exact Or.inl rfl | exact Or.inr (Or.inl rfl) | exact Or.inr (Or.inr rfl)) (hd : (x == ("__debug__" : Str)) = false := by decide)
    (hcd : (x == ("__classdict__" : Str)) = false := by decide) (hbase : attributeBase (.Name x np) "clear" X.env (eval (.Name x np) X.env) = eval (.Name x np) X.env := by rfl)
    (hline : (apos.endLine == cpos.line) = true := by rfl) (hsw : swapsWith (.Call (.Attribute (.Name x np) "clear" apos) [] [] cpos) none pos.line X.env = pure false := by rfl) (eK : X.K = K := by rfl) :
    GS K X W (.Expr (.Call (.Attribute (.Name x np) "clear" apos) [] [] cpos) pos) (tDrop (tBM0 K "list" rClear (tVar i))) (sClr i) := by
  subst eK
  exact ⟨ps_expr (pe_bm0 PySem.F.plainAttrs_list PySem.F.slot_list_clear PySem.F.type_list_clear mt_clear (pe_var hN hv hd hcd) hbase hline) hsw, ss_clr⟩
end
@[simp] theorem ev_app {i : Nat} {fe : EF} {ρ : En} : sApp i fe ρ = match ρ[i]? with
  | some (.own (.lst ds)) => (fe ρ).bind fun r => if okR r && decide (ds.length < 100000) then some (.nx (ρ.set i (.own (.lst (ds ++ [r.d]))))) else none
  | _ => none := (rfl)
@[simp] theorem ev_clr {i : Nat} {ρ : En} : sClr i ρ = match ρ[i]? with
  | some (.own (.lst _)) => some (.nx (ρ.set i (.own (.lst []))))
  | _ => none := (rfl)
/-! ### a def that calls itself -/
theorem fn_none {P : Program} {w : World} {K : PySem.W.Frag} {mg : Str → Option Value} {base : Heap} {CX : CXT} {k n : Nat} {f : Addr} {fd : FuncData} {ps : List Str} : FnOk P w K mg base CX k f fd ps (spD K mg n fun _ => none) :=
  ⟨fun vs H Q E h => (let ⟨_, _, _, _, _, _, _, e, _⟩ := h; by cases e), fun A outer s H args us vs Q E hr he hb hv h => (let ⟨_, _, _, _, _, _, _, e, _⟩ := h; by cases e)⟩
end Fb
set_option maxHeartbeats 2000000
/-! FbB: instances without attributes: C() of a class that has no __init__ of its own; methods. -/
namespace Fb
open PySem PySem.Spec L2
variable [γ : GSt]
structure Mk0 (K : PySem.W.Frag) (C : Addr) : Prop where
  makes : PySem.W.makesIn K C = true
  init : PySem.W.findIn K (.ref C) "__init__" = some (some (.builtin "object.__init__"))
  kp : PySem.W.keepIn K (.ref C) = true
section
variable {X : Cx} {pins : List (Addr × Obj)} {σ : L2.St} {H : Hp} {s : Shared} {C : Addr} {Q : VK}
theorem run_make0 (M : Mk0 X.K C) (I : Inv X pins σ H s) (h : ∀ x dx, H x = none → H dx = none → dx ≠ x → Q (.ref x) (upd (upd H dx (.own x)) x (.ins C dx []))) :
    wpAny (model X.prog X.w) X.A (call (.ref C) []) (EP X pins σ Q) X.xe s := by
  have hq := h (s.heap.objs.size + 1) s.heap.objs.size (I.hok.fresh (Nat.le_succ _)) (I.hok.fresh (Nat.le_refl _)) (Nat.ne_of_lt (Nat.lt_succ_self _))
  have I2 := Inv.made (C := C) I
  have kin := I.kIn
  obtain ⟨hh, g, d, t, os⟩ := s
  have Y := PySem.W.makes_of (M := model X.prog X.w) kin M.makes
  have e2 : ((hh.push PySem.W.emptyDict).push (PySem.W.instObj C hh.objs.size)).get? (hh.objs.size + 1) = some (PySem.W.instObj C hh.objs.size) := by
    have := Heap.get?_push_size (hh.push PySem.W.emptyDict) (o := PySem.W.instObj C hh.objs.size) rfl
    rwa [Heap.size_push] at this
  refine wpAny_call (PySem.W.make_core Y (PySem.W.looks_findIn kin M.init) (fun self => PySem.W.Looks.of_pure (PySem.W.oi_bind self)) (.inr ⟨rfl, rfl⟩) ?_)
  have t1 : PySem.W.Looks (model X.prog X.w) ((hh.push PySem.W.emptyDict).push (PySem.W.instObj C hh.objs.size)) (typeOf (.ref (hh.objs.size + 1))) (.ref C) := (PySem.W.Looks.ld e2).andThen .now
  have t2 : PySem.W.Looks (model X.prog X.w) ((hh.push PySem.W.emptyDict).push (PySem.W.instObj C hh.objs.size)) (isInstance (.ref (hh.objs.size + 1)) (.type "object")) true := t1.andThen (Y.top.keeps fun b o e => Heap.get?_push_of_some _ (Heap.get?_push_of_some _ e))
  refine codeAny_call_builtin PySem.W.oi_plain PySem.W.entry_oi (@PySem.W.check_slot (model X.prog X.w) _ _ _ "object.__init__" "object" "__init__" (.ref (hh.objs.size + 1)) [] [] _ PySem.W.oi_kind PySem.W.oi_split t2 (PySem.W.oi_args (.ref (hh.objs.size + 1))) ?_)
  rw [PySem.W.oi_run]
  exact wpAny_pure (And.intro rfl ⟨V.ref (hh.objs.size + 1), _, I2, rfl, hq⟩)
def tMk0 (C : Addr) : TE := fun _ H Q => ∀ x dx, H x = none → H dx = none → dx ≠ x → Q (.ref x) (upd (upd H dx (.own x)) x (.ins C dx []))
theorem pe_make0b {x : Str} {p pos : Pos} (M : Mk0 X.K C) (hg : Gl X x) (hm : X.mg x = some (.ref C)) (hdb : (x == ("__debug__" : Str)) = false := by decide) : PE X (.Call (.Name x p) [] [] pos) (tMk0 C) := by
  refine ⟨fun pins s σ H Q I h => ?_⟩
  refine wpAny_Call_Name_kw (ld_glob I hg hm ?_ hdb)
  exact PySem.W.callWith_K0 I.kIn M.kp (run_make0 M I h)
end
/-! ### C() -/
def eNew (C : Addr) : EF := fun _ => some ⟨.obj C, .av⟩
section
variable {K : PySem.W.Frag} {X : Cx}
theorem se_new (C : Addr) : SemE K (tMk0 C) (eNew C) := by
  intro Z σ H ρ r E e Q q x dx h1 h2 h3
  cases e
  have s1 : Same K H (upd (upd H dx (.own x)) x (.ins C dx [])) := (same_upd h2).trans (same_upd (by rw [upd_ne (fun c => h3 c.symm)]; exact h1))
  refine q _ _ s1 (.obj (hide_some.mpr ⟨fun z => ?_, upd_same⟩))
  obtain ⟨o, k⟩ := E.pok.there z
  rw [h1] at k
  cases k
theorem ge_new {C : Addr} {mg : Str → Option Value} {x : Str} {p pos : Pos} (M : Mk0 K C) (hm : mg x = some (.ref C)) (hg : Gl X x := by rfl) (hdb : (x == ("__debug__" : Str)) = false := by decide) (eK : X.K = K := by rfl) (eM : X.mg = mg := by rfl) : GE K X (.Call (.Name x p) [] [] pos) (tMk0 C) (eNew C) := by
  subst eK eM
  exact ⟨pe_make0b M hg hm hdb, se_new C⟩
end
/-! ### o.m(..), o an instance of one of some classes -/
/-- what is known of a method: which def it is, and what that answers -/
def MOk (P : Program) (w : World) (K : PySem.W.Frag) (mg : Str → Option Value) (base : Heap) (k : Nat) (m : Str) (n : Nat) (C : Addr) (F : FF) : Prop :=
  ∃ (f : Addr) (fd : FuncData) (ps : List Str), Cls K C ∧ Meth K C m f ∧ FnOk P w K mg base CX0 k f fd ps (spD K mg n F) ∧ Binds K fd ps []
def tMethD (P : Program) (w : World) (K : PySem.W.Frag) (mg : Str → Option Value) (base : Heap) (k : Nat) (m : Str) (n : Nat) (E : XK) (ta : TE) (t : TA) : TE := fun σ H Q => ta σ H fun x H1 => ∃ a C dx F, x = .ref a ∧ H1 a = some (.ins C dx []) ∧ MOk P w K mg base k m n C F ∧ t σ H1 fun vs H2 => spD K mg n F (x :: vs) H2 Q E
section
variable {X : Cx} {K : PySem.W.Frag} {k n : Nat} {m : Str} {o e : Expr} {es : List Expr} {ta : TE} {t : TA} {E : XK} {pos apos : Pos}
theorem pe_methD {pl : Sem Bool} (he : PE X o ta) (hr : Room k X.A) (ha : PA X (e :: es) t)
    (hst : starEach (e :: es) X.env = (false, eval e X.env) :: starEach es X.env := by rfl) (hpl : (backTo pos (starEach es X.env)).any (·.1) = false := by rfl)
    (ht : eval (.Call (.Attribute o m apos) (e :: es) [] pos) X.env = (do
      let ov ← eval o X.env
      standAt apos.atName
      let (f, first) ← holding [ov] (getMethod ov m pl)
      callWith pos f first (backTo pos (starEach (e :: es) X.env)) (backToKw pos (keywordEach [] X.env))) := by rfl) :
    PE X (.Call (.Attribute o m apos) (e :: es) [] pos) (tMethD X.prog X.w X.K X.mg X.base k m n E0 ta t) := by
  refine ⟨fun pins s σ H Q I h => ?_⟩
  refine PySem.W.methodCall_KW (pl := pl) (thn (he.run pins s σ H _ I h) fun u s1 ⟨x, H1, I1, rx, a, C, dx, F, ex, ea, ⟨f, fd, ps, c, hm, hF, hb⟩, q⟩ => ?_) ht
  subst ex
  obtain rfl : u = Value.ref a := rx
  refine getmeth_ok I1 ea c hm rfl ?_
  refine PySem.W.callWith_K (first := [.ref a]) (h₀ := X.base) I.ok.mod.kin hm.kp (thn (ha.run pos pins s1 σ H1 _ I1 q) fun us s2 ⟨vs, H2, I2, r, q2⟩ => ⟨I2.kIn, ?_⟩) hst hpl
  refine run_fn (us := .ref a :: us) (vs := .ref a :: vs) (ds := []) (dvs := []) hF hr hb .nil pass0 I2 (.cons rfl r) ?_
  rw [List.append_nil]
  exact q2
end
def eMeth (disp : Addr → Option FF) (fo : EF) (fa : AF) : EF := fun ρ => match fo ρ with
  | some ⟨.obj C, _⟩ => (disp C).bind fun F => (fa ρ).bind fun rs => match F ((⟨.obj C, .av⟩ :: rs).map R.d) with
    | some (.val d fr) => some ⟨d, cMd (okL (⟨.obj C, .av⟩ :: rs)) fr d⟩
    | _ => none
  | _ => none
section
variable {K : PySem.W.Frag} {mg : Str → Option Value}
theorem se_meth {P : Program} {w : World} {base : Heap} {k n : Nat} {m : Str} {E0 : XK} {disp : Addr → Option FF} {fo : EF} {fa : AF} {ta : TE} {t : TA} (hd : ∀ C F, disp C = some F → MOk P w K mg base k m n C F) (ho : SemE K ta fo) (h : SemA K t fa) (hn : ∀ ρ rs, fa ρ = some rs → rs.length + 1 = n) :
    SemE K (tMethD P w K mg base k m n E0 ta t) (eMeth disp fo fa) := by
  intro Z σ H ρ r E e Q q
  unfold eMeth at e
  split at e
  · rename_i C mo e0
    obtain ⟨F, e1, e⟩ := Option.bind_eq_some_iff.mp e
    obtain ⟨rs, e2, e⟩ := Option.bind_eq_some_iff.mp e
    split at e
    · rename_i d fr e3
      cases e
      refine ho Z σ H ρ _ E e0 _ fun x H1 s1 r1 => ?_
      have o1 := r1.opd E.pok
      have rp := o1.rp
      cases rp with
      | obj s0 =>
        refine ⟨_, C, _, F, rfl, s0, hd C F e1, ?_⟩
        refine h Z σ H1 ρ rs (E.mono s1) e2 _ fun vs H2 s2 r2 => ?_
        have s12 := s1.trans s2
        have E2 := E.mono s12
        have oo : Opd K (Pz Z σ ρ) H2 (.ref _) ⟨.obj C, .av⟩ := Rp.immK E2.pok.stup _ _ rfl (.obj (s2 _ _ s0))
        have e4 : F ((⟨.obj C, .av⟩ :: rs).map R.d ++ []) = some (.val d fr) := by rw [List.append_nil]; exact e3
        have z := spD_met (mg := mg) (E0 := E0) (dvs := []) (dd := []) E2 s12 (.cons oo r2) (fun _ => .nil) (by first | exact hn ρ rs e2 | (rw [List.length_cons]; exact hn ρ rs e2)) e4 q
        rw [List.append_nil] at z
        exact z
    · cases e
  · cases e
theorem ge_meth {X : Cx} {pl : Sem Bool} {o e : Expr} {es : List Expr} {apos pos : Pos} {k n : Nat} {m : Str} {disp : Addr → Option FF} {fo : EF} {fa : AF} {ta : TE} {t : TA} (hd : ∀ C F, disp C = some F → MOk X.prog X.w K mg X.base k m n C F) (hr : Room k X.A) (ho : GE K X o ta fo) (ha : GA K X (e :: es) t fa) (hn : ∀ ρ rs, fa ρ = some rs → rs.length + 1 = n)
    (hst : starEach (e :: es) X.env = (false, eval e X.env) :: starEach es X.env := by rfl) (hpl : (backTo pos (starEach es X.env)).any (·.1) = false := by rfl)
    (ht : eval (.Call (.Attribute o m apos) (e :: es) [] pos) X.env = (do
      let ov ← eval o X.env
      standAt apos.atName
      let (f, first) ← holding [ov] (getMethod ov m pl)
      callWith pos f first (backTo pos (starEach (e :: es) X.env)) (backToKw pos (keywordEach [] X.env))) := by rfl) (eK : X.K = K := by rfl) (eM : X.mg = mg := by rfl) :
    GE K X (.Call (.Attribute o m apos) (e :: es) [] pos) (tMethD X.prog X.w K mg X.base k m n E0 ta t) (eMeth disp fo fa) := by
  subst eK eM
  exact ⟨pe_methD (pl := pl) ho.p hr ha.p hst hpl ht, se_meth hd ho.s ha.s hn⟩
end
end Fb
set_option maxHeartbeats 2000000
/-! FbC: xs.remove(i), isinstance(o, C). -/
namespace Fb
open PySem PySem.Spec L2
variable [γ : GSt]
def sRem (i : Nat) (fe : EF) : SF := fun ρ => match ρ[i]? with
  | some (.own (.lst ds)) => (fe ρ).bind fun r => match r.d with
    | .int k => (intsD ds).bind fun ns => if k ∈ ns then some (.nx (ρ.set i (.own (.lst ((ns.erase k).map .int))))) else none
    | _ => none
  | _ => none
theorem erase_at : ∀ {ns : List Int} {k : Int}, k ∈ ns → ∃ j, ns[j]? = some k ∧ (∀ m : Nat, m < j → ns[m]? ≠ some k) ∧ ns.erase k = ns.eraseIdx j
  | x :: r, k, h => by
    by_cases c : x = k
    · subst c
      exact ⟨0, rfl, fun m hm => by omega, by simp⟩
    · have hr : k ∈ r := by
        rcases List.mem_cons.mp h with z | z
        · exact absurd z.symm c
        · exact z
      obtain ⟨j, h1, h2, h3⟩ := erase_at hr
      refine ⟨j + 1, h1, fun m hm => ?_, ?_⟩
      · cases m with
        | zero => intro z; exact c (Option.some.inj z)
        | succ m => exact h2 m (by omega)
      · rw [List.erase_cons_tail (by simpa using c), h3]
        rfl
section
variable {X : Cx} {K : PySem.W.Frag} {W : Str → Hp → Prop} {te : TE} {fe : EF} {e : Expr} {pos : Pos}
theorem ss_rem {i : Nat} (h : SemE K te fe) : SemS K W (tDrop (tBM K "list" rRemI (tVar i) (tCons te tNil))) (sRem i fe) := by
  intro Z B σ H ρ fl S e Dn w
  unfold sRem at e
  split at e
  · rename_i ds e0
    obtain ⟨r, e1, e⟩ := Option.bind_eq_some_iff.mp e
    split at e
    · rename_i k ek
      obtain ⟨ns, e2, e⟩ := Option.bind_eq_some_iff.mp e
      split at e
      · rename_i hk
        cases e
        obtain ⟨a, vs, a1, a2, a3⟩ := own_lst S.env e0
        refine ⟨.ref a, a1, .inl ⟨rfl, _, SqL.of a2⟩, ?_⟩
        refine h Z σ H ρ r S.env e1 _ fun v H1 s1 rv => ?_
        have S1 := S.mono s1
        obtain ⟨a', vs', b1, b2, b3⟩ := own_lst S1.env e0
        rw [a1] at b1
        cases b1
        obtain ⟨rd, rm⟩ := r
        cases ek
        have hv := (rv.opd S.env.pok).int
        have hds := intsD_some e2
        subst hds
        have hvs := b3.ints
        subst hvs
        obtain ⟨j, j1, j2, j3⟩ := erase_at hk
        refine ⟨a, ns, k, j, rfl, by rw [hv], b2, j1, j2, ?_⟩
        show Dn.nx σ _
        rw [← j3]
        exact w σ _ (S1.upd e0 a1 ⟨_, upd_same, RpL.ofInts _⟩)
      · cases e
    · cases e
  · cases e
theorem gs_rem (i : Nat) {x : Str} {np apos cpos : Pos} (he : GE K X e te fe) (hN : X.N[i]? = some x := by rfl) (hv : Vis X.env.scope x := by first | exact Or.inl rfl | exact Or.inr (Or.inl rfl) | exact Or.inr (Or.inr rfl)) (hd : (x == ("__debug__" : Str)) = false := by decide)
    (hcd : (x == ("__classdict__" : Str)) = false := by decide) (hs : starEach [e] X.env = (false, eval e X.env) :: starEach [] X.env := by rfl)
    (hbase : attributeBase (.Name x np) "remove" X.env (eval (.Name x np) X.env) = eval (.Name x np) X.env := by rfl)
    (hfew : ((backTo cpos (starEach [e] X.env)).all (fun x => !x.1) && (backToKw cpos (keywordEach [] X.env)).all (fun x => x.1.isSome) && decide (([e] : List Expr).length + ([] : List Keyword).length + (if ([] : List Keyword).isEmpty then 0 else 1) < 30)) = true := by rfl)
    (hline : (apos.endLine == cpos.line) = true := by rfl) (hplain : (backTo cpos (starEach [] X.env)).any (·.1) = false := by rfl) (hsw : swapsWith (.Call (.Attribute (.Name x np) "remove" apos) [e] [] cpos) none pos.line X.env = pure false := by rfl) (eK : X.K = K := by rfl) :
    GS K X W (.Expr (.Call (.Attribute (.Name x np) "remove" apos) [e] [] cpos) pos) (tDrop (tBM K "list" rRemI (tVar i) (tCons te tNil))) (sRem i fe) := by
  subst eK
  exact ⟨ps_expr (pe_bm PySem.F.plainAttrs_list PySem.F.slot_list_remove PySem.F.type_list_remove mt_remove (pe_var hN hv hd hcd) (pa_cons he.p pa_nil hs) hbase hfew hline hs hplain) hsw, ss_rem he.s⟩
end
@[simp] theorem ev_rem {i : Nat} {fe : EF} {ρ : En} : sRem i fe ρ = match ρ[i]? with
  | some (.own (.lst ds)) => (fe ρ).bind fun r => match r.d with
    | .int k => (intsD ds).bind fun ns => if k ∈ ns then some (.nx (ρ.set i (.own (.lst ((ns.erase k).map .int))))) else none
    | _ => none
  | _ => none := (rfl)
/-! ### isinstance(o, C) -/
/-- what is known of an own class when isinstance asks -/
structure IsiC (K : PySem.W.Frag) (W C : Addr) (b : Bool) : Prop where
  cl : Cls K C
  ha : PySem.W.findIn K (.ref C) "__class__" = some (some (.builtin "object.__class__"))
  hn : PySem.W.specialIn K (.builtin "object.__class__") "__get__" = some (some (.builtin "getset_descriptor.__get__"))
  htk : PySem.W.takesIn K (.builtin "object.__class__") = some true
  hm : PySem.W.mroIn K C (.type "object") = some true
  is : PySem.W.kitOne K (.ref C) (.ref W) = some b
def eIsC (f : Addr → Option Bool) (fa : EF) : EF := fun ρ => match fa ρ with
  | some ⟨.obj C, _⟩ => (f C).map ofB
  | _ => none
section
variable {X : Cx} {K : PySem.W.Frag} {mg : Str → Option Value} {ta : TE} {fa : EF} {a : Expr} {p p2 pos : Pos} {x : Str} {W : Addr}
theorem se_isC {f : Addr → Option Bool} (hf : ∀ C b, f C = some b → IsiC K W C b) (h : SemE K ta fa) : SemE K (tCB (rIsi K) (tCons ta (tCons (tC (.ref W)) tNil))) (eIsC f fa) := by
  intro Z σ H ρ r E e Q q
  unfold eIsC at e
  split at e
  · rename_i C m e0
    obtain ⟨b, e1, e⟩ := Option.map_eq_some_iff.mp e
    subst e
    refine h Z σ H ρ _ E e0 _ fun x H1 s1 r1 => ?_
    have rp := (r1.opd E.pok).rp
    cases rp with
    | obj s0 =>
      have i := hf C b e1
      exact ⟨_, .ref W, .ref C, .ref W, b, rfl, .own W, .base (.ins s0 i.cl i.ha i.hn i.htk i.hm), i.is, q _ H1 s1 (.bl b)⟩
  · cases e
theorem ge_isC {f : Addr → Option Bool} (hf : ∀ C b, f C = some b → IsiC K W C b) (hm : mg "isinstance" = none) (hw : mg x = some (.ref W)) (ha : GE K X a ta fa) (hg : Gl X "isinstance" := by rfl) (hg2 : Gl X x := by rfl)
    (hb : bootBuiltins "isinstance" = some (.builtin "isinstance") := by decide +kernel) (hdb : (x == ("__debug__" : Str)) = false := by decide)
    (h1 : starEach [a, .Name x p2] X.env = (false, eval a X.env) :: starEach [.Name x p2] X.env := by rfl) (h2 : starEach [.Name x p2] X.env = (false, eval (.Name x p2) X.env) :: starEach [] X.env := by rfl) (hpl : (backTo pos (starEach [.Name x p2] X.env)).any (·.1) = false := by rfl) (eK : X.K = K := by rfl) (eM : X.mg = mg := by rfl) :
    GE K X (.Call (.Name "isinstance" p) [a, .Name x p2] [] pos) (tCB (rIsi K) (tCons ta (tCons (tC (.ref W)) tNil))) (eIsC f fa) := by
  subst eK eM
  exact ⟨pe_callB call_isi hg hm hb (pa_cons ha.p (pa_cons (pe_glob (v := .ref W) hg2 hw rfl hdb) pa_nil h2) h1) (by decide) (by decide) h1 hpl, se_isC hf ha.s⟩
end
/-! ### list(range(..)) -/
def eLstRg (fi : AF) : EF := fun ρ => match fi ρ with
  | some [⟨.int n, _⟩] => if 0 ≤ n ∧ n ≤ 100000 then some ⟨.lst (rgD 0 n.toNat), .fr⟩ else none
  | _ => none
section
variable {X : Cx} {K : PySem.W.Frag} {ta : TE} {fa : EF} {a : Expr} {p p2 pos pos2 : Pos}
theorem se_lstRg (h : SemE K ta fa) : SemE K (tLstRg (tRg1 ta)) (eLstRg (aCons fa aNil)) := by
  intro Z σ H ρ r E e Q q
  unfold eLstRg at e
  split at e
  · rename_i n m e0
    split at e
    · rename_i hn
      cases e
      obtain ⟨r0, e1, e0⟩ := Option.bind_eq_some_iff.mp e0
      have ez : r0 = ⟨.int n, m⟩ := by
        have : some [r0] = some [(⟨.int n, m⟩ : R)] := e0
        cases this
        rfl
      subst ez
      refine h Z σ H ρ _ E e1 _ fun v H1 s1 rv => ?_
      have hv := (rv.opd E.pok).int
      refine ⟨n, hv, RgOk.of_le (by omega) (by omega) (by omega) (by omega), fun p hp => ?_⟩
      have hr : ∀ H2 : Hp, RpL K H2 (rgV 0 n) (rgD 0 n.toNat) := fun H2 => by
        unfold rgV rgD
        rw [Int.sub_zero]
        induction (List.range n.toNat) with
        | nil => exact .nil
        | cons x r ih => exact .cons (.int _) ih
      refine q _ _ (s1.trans (same_upd hp)) ⟨p, rfl, Sme.none s1 hp, _, upd_same, hr _⟩
    · cases e
  · cases e
theorem ge_lstRg (hc : X.calm = true) (hm : X.mg "list" = none) (hm2 : X.mg "range" = none) (ha : GE K X a ta fa) (hg : Gl X "list" := by rfl) (hg2 : Gl X "range" := by rfl) (na : starEach [a] X.env = (false, eval a X.env) :: starEach [] X.env := by rfl)
    (nb : starEach [.Call (.Name "range" p2) [a] [] pos2] X.env = (false, eval (.Call (.Name "range" p2) [a] [] pos2) X.env) :: starEach [] X.env := by rfl) :
    GE K X (.Call (.Name "list" p) [.Call (.Name "range" p2) [a] [] pos2] [] pos) (tLstRg (tRg1 ta)) (eLstRg (aCons fa aNil)) :=
  ⟨pe_listRg hc hg hm (prg_1 hg2 hm2 ha.p na) nb, se_lstRg ha.s⟩
end
@[simp] theorem ev_lstRg {fi : AF} {ρ : En} : eLstRg fi ρ = match fi ρ with
  | some [⟨.int n, _⟩] => if 0 ≤ n ∧ n ≤ 100000 then some ⟨.lst (rgD 0 n.toNat), .fr⟩ else none
  | _ => none := (rfl)
theorem argN1 {fa : AF} {n : Nat} (h : ArgN fa n) : ∀ ρ rs, fa ρ = some rs → rs.length + 1 = n + 1 := fun ρ rs e => by rw [h ρ rs e]
section
variable {X : Cx} {K : PySem.W.Frag} {elt tg iter : Expr} {ifs : List Expr} {scope : Scope} {pos : Pos} {wi : TI} {fi : IF} {g : TG} {tgt : GF} {tt : TT} {ft : TF} {te : TE} {fe : EF}
/-- a comprehension within another's block -/
theorem ge_lcN (own : List (Str × Nat)) (hc : X.calm = true) (hN : X.N.Nodup) (hi : GIc K X tg iter wi fi) (ok : blkC X.N X.env.scope scope own = true)
    (hg : ∀ s H C cl fp, GGb K (XB X scope s H C cl fp) tg g tgt (own.map (·.2))) (ht : ∀ s H C cl fp, GTs K (XB X scope s H C cl fp) ifs tt ft) (he : ∀ s H C cl fp, GE K (XB X scope s H C cl fp) elt te fe)
    (hs : ∀ x, foldedSetIterable iter X.env x = pure x := by intro _; rfl) : GE K X (.ListComp elt [⟨tg, iter, ifs, 0⟩] scope pos) (tLc wi g tt te (own.map (·.2))) (eLc (own.map (·.2)) fi tgt ft fe) := by
  have sh : Shared := (PySem.start X.prog).1
  refine ⟨pe_lc hc hN hi.p (blkOk_by ok) (fun s H C cl fp => (hg s H C cl fp).gg.p) (fun s H C cl fp => (ht s H C cl fp).p) (fun s H C cl fp => (he s H C cl fp).p) hs, ?_⟩
  have h1 := hg sh (fun _ => none) 0 [] []
  exact se_lc hi.s h1.gg.s h1.w h1.k (ht sh (fun _ => none) 0 [] []).s (he sh (fun _ => none) 0 [] []).s
end
end Fb
set_option maxHeartbeats 2000000
/-! FbD: sorted(xs, key=f): f a def, or a lambda of one parameter. -/
namespace Fb
open PySem PySem.Spec L2
variable [γ : GSt]
def sortK (kf : D → D) (ds : List D) : List D := ds.mergeSort fun a b => sLe (kf a) (kf b)
theorem sort_zipK {kf : D → D} {xs : List V} {ds : List D} (hl : xs.length = ds.length) : ((xs.zip ds).mergeSort (PySem.W.dataLe false fun b : V × D => toP (kf b.2))).map (·.2) = sortK kf ds := by
  unfold sortK
  rw [List.map_mergeSort (f := fun b : V × D => b.2) (r := PySem.W.dataLe false fun b : V × D => toP (kf b.2)) (s := fun a b => sLe (kf a) (kf b)) (fun a _ b _ => by rw [PySem.W.dataLe_eq]; rfl)]
  rw [List.map_snd_zip (by omega)]
theorem vals_snoc {x : V} {u : Value} (r : RelV x u) : ∀ {xs : List V} {us : List Value}, Vals xs us → Vals (xs ++ [x]) (us ++ [u])
  | _, _, .nil => .cons r .nil
  | _, _, .cons q t => .cons q (vals_snoc r t)
section
variable {X : Cx} {pins : List (Addr × Obj)} {σ : L2.St} {H : Hp} {s : Shared} {l : Addr} {f : Value} {xs : List V} {ds : List D} {kf : D → D} {Q : VK}
theorem keys_read {pins : List (Addr × Obj)} {σ : L2.St} {s : Shared} {H : Hp} (I : Inv X pins σ H s) : ∀ {xs : List V} {us : List Value} {ds : List D}, Vals xs us → RpL X.K H xs ds → (∀ d ∈ ds, fit 6 d = true) → PySem.W.EachIs (fun u d => ∃ as, Reads s.heap u d as) us (ds.map toP)
  | _, _, _, .nil, .nil, _ => .nil
  | _, _, _, .cons r t, .cons h t2, hf => .cons (Dp.reads I _ _ _ (dp_of 6 _ _ (hf _ List.mem_cons_self) h) r) (keys_read I t t2 fun d hd => hf d (List.mem_cons_of_mem _ hd))
/-- all addresses from n on are no part of what stands around -/
structure Fresh (X : Cx) (pins : List (Addr × Obj)) (H : Hp) (b : Addr) : Prop where
  loc : b ≠ X.env.locals
  fs : b ∉ X.fs
  s0 : X.s_0.heap.objs.size ≤ b
  cell : ∀ x c, X.env.cells.lookup x = some c → c ≠ b
  pin : ∀ p ∈ X.pn ++ pins, p.1 ≠ b
  none : H b = none
theorem fresh_of (I : Inv X pins σ H s) {b : Addr} (hb : s.heap.objs.size ≤ b) : Fresh X pins H b where
  loc := fun z => by have := I.lt; rw [← z] at this; exact Nat.lt_irrefl _ (Nat.lt_of_lt_of_le this hb)
  fs := I.nofs hb
  s0 := Nat.le_trans I.sz hb
  cell := fun x c e z => by
    obtain ⟨v, o, ho, _⟩ := I.cell x c e
    rw [z] at ho
    exact Nat.lt_irrefl _ (Nat.lt_of_lt_of_le (Heap.lt_size ho) hb)
  pin := fun p hp z => by
    have ho := (I.pin p hp).1
    rw [z] at ho
    exact Nat.lt_irrefl _ (Nat.lt_of_lt_of_le (Heap.lt_size ho) hb)
  none := I.hok.fresh hb
/-- pins for what is new and not tracked -/
theorem Inv.pin2 (I : Inv X pins σ H s) {a b : Addr} {oa ob : Obj} (ha : s.heap.get? a = some oa) (hb : s.heap.get? b = some ob) (na : H a = none) (nb : H b = none) (fa : a ≠ X.env.locals ∧ a ∉ X.fs) (fb : b ≠ X.env.locals ∧ b ∉ X.fs) (ca : ∀ v, oa.data ≠ .cell v) (cb : ∀ v, ob.data ≠ .cell v) :
    Inv X (pins ++ [(a, oa), (b, ob)]) σ H s := I.pins_of fun p hp => by
  rcases List.mem_append.mp hp with z | z
  · exact I.pin p (List.mem_append_right _ z)
  · rcases List.mem_cons.mp z with z | z
    · subst z; exact ⟨ha, na, fa.1, fa.2, ca⟩
    · rcases List.mem_cons.mp z with z | z
      · subst z; exact ⟨hb, nb, fb.1, fb.2, cb⟩
      · cases z
theorem Inv.unpin2 {more : List (Addr × Obj)} (I : Inv X (pins ++ more) σ H s) : Inv X pins σ H s := I.pins_of fun p hp => I.pin p (List.mem_append_right _ (List.mem_append_left _ hp))
/-- sorted(l, key=f), f's calls told by turn -/
theorem sort_key_run (I : Inv X pins σ H s) (hs : SqL X.K H l xs) (hr : RpL X.K H xs ds) (hlt : ∀ x, Builtin.«list.sort» ⟨[.ref x], [(Str.ofString "key", f)]⟩ = PyProof.Rows.ksk_tree x f false)
    (hlen : ds.length ≤ 100000) (hfit : ∀ d ∈ ds, fit 6 (kf d) = true) (hal : PySem.W.AllAlike (ds.map fun d => toP (kf d))) (hsk : PySem.W.Sortable (ds.map fun d => toP (kf d))) (hu : X.A.units + 2 + 64 < cLine)
    (turn : ∀ (pins' : List (Addr × Obj)) (H' : Hp) (s' : Shared) (x : V) (v : Value) (d : D), (∀ p ∈ pins, p ∈ pins') → Inv X pins' σ H' s' → Same X.K H H' → RelV x v → Rp X.K H' x d → d ∈ ds →
      wpAny (model X.prog X.w) X.A.in1.in1 (call f [v]) (fun k s'' => ∃ (kx : V) (H'' : Hp), Inv X pins' σ H'' s'' ∧ Same X.K H' H'' ∧ RelV kx k ∧ Rp X.K H'' kx (kf d)) (fun _ _ => False) s')
    (q : ∀ (ws : List V) (p : Addr) (H' : Hp), Same X.K H H' → H' p = none → (∀ H2, RpL X.K H2 xs ds → RpL X.K H2 ws (sortK kf ds)) → Q (.ref p) (upd H' p (.lst ws))) :
    wpAny (model X.prog X.w) X.A (call (.builtin "sorted") [.ref l] [(Str.ofString "key", f)]) (EP X pins σ Q) X.xe s := by
  obtain ⟨its, rv, hl, _⟩ := I.list hs
  have hxd : xs.length = ds.length := hr.length
  have hil : its.length = ds.length := by rw [← rv.length]; exact hxd
  have hL : its.length ≤ sizeLine := by rw [sizeLine_eq]; omega
  refine PySem.W.sorted_of_sort hl.isList hL (PyProof.Rows.ksk_s1 _ _) (fun _ => PyProof.Rows.ksk_l1 _ _) fun E' => ?_
  rw [hlt]
  generalize ha : s.heap.objs.size + 1 = a
  have ho0 : (PySem.W.copyHeap s.heap its).get? a = some (PyProof.Rows.seqObj "list" its.toArray 0) := by rw [← ha]; exact PySem.W.copyHeap_at s.heap its
  obtain ⟨e1, ho1⟩ : ∃ e1, ((PySem.W.copyHeap s.heap its).update a (Obj.mapSeq fun _ => (#[] : Array Value))).get? a = some (PyProof.Rows.seqObj "list" #[] e1) := ⟨_, PyProof.Rows.get?_update_seq ho0 fun _ => #[]⟩
  generalize h1e : (PySem.W.copyHeap s.heap its).update a (Obj.mapSeq fun _ => (#[] : Array Value)) = h1 at ho1
  generalize h2e : h1.push (PyProof.Rows.seqObj "tuple" its.toArray 0) = h2
  generalize hke : h2.objs.size = kS
  generalize h3e : h2.push (PyProof.Rows.seqObj "list" #[] 0) = h3
  have h3s : h3 = PySem.W.sortingHeap (PySem.W.copyHeap s.heap its) a its := by rw [← h3e, ← h2e, ← h1e]; rfl
  have old3 : ∀ b o, s.heap.get? b = some o → h3.get? b = some o := fun b o e => by rw [h3s, ← ha]; exact PySem.W.sorting_copy_old e
  have hka : a < kS := by
    rw [← hke, ← h2e, PyProof.Rows.size_push']
    exact Nat.lt_succ_of_lt (Heap.lt_size ho1)
  have geS : s.heap.objs.size ≤ kS := by omega
  have Fa : Fresh X pins H a := fresh_of I (by omega)
  have FkS : Fresh X pins H kS := fresh_of I geS
  have I3 : Inv X pins σ H { s with heap := h3 } := I.kept (t' := s.toks) old3
  have ho3 : h3.get? a = some (PyProof.Rows.seqObj "list" #[] e1) := by
    rw [← h3e, ← h2e]
    exact Heap.get?_push_of_some _ (Heap.get?_push_of_some _ ho1)
  have hk3 : h3.get? kS = some (PyProof.Rows.seqObj "list" #[] 0) := by
    rw [← h3e, ← hke]
    exact Heap.get?_push_size _ rfl
  unfold PyProof.Rows.ksk_tree
  refine wpAny_bind (PyProof.Rows.listItems_at ho0 rfl ?_)
  refine wpAny_bind (PyProof.Rows.listUpdate_at ho0 rfl ?_ (by rw [List.size_toArray]; exact hL) (Nat.zero_le _))
  show wpAny _ _ _ _ _ { s with heap := (PySem.W.copyHeap s.heap its).update a (Obj.mapSeq fun _ => (#[] : Array Value)) }
  rw [h1e]
  refine wpAny_bind (PyProof.Rows.seqEpoch_at ho1 rfl ?_)
  refine wpAny_bind (wpAny_newTuple ?_ (by show its.length ≤ _; exact hL))
  refine wpAny_bind (wpAny_newList ?_ (Nat.zero_le _))
  refine wpAny_holding ?_
  show wpAny _ _ (PyProof.Rows.ksk_rest a f false its.toArray e1 (.ref (h1.push (PyProof.Rows.seqObj "tuple" its.toArray 0)).objs.size)) _ _ { s with heap := (h1.push (PyProof.Rows.seqObj "tuple" its.toArray 0)).push (PyProof.Rows.seqObj "list" #[] 0) }
  rw [h2e, hke, h3e]
  unfold PyProof.Rows.ksk_rest
  refine wpAny_bind (wpAny_rule ?_)
  first
    | rw [List.forIn_toArray]
    | (rw [← Array.forIn_toList]; simp only [List.toList_toArray])
    | rw [← Array.forIn_toList]
  refine wpAny_bind (PyProof.Rows.ksk_fold (fun i s' => ∃ H' kA e kvs, Inv X pins σ H' s' ∧ Same X.K H H' ∧ H' a = none ∧ H' kS = none ∧ s'.heap.get? kS = some (PyProof.Rows.seqObj "list" kA e) ∧ s'.heap.get? a = some (PyProof.Rows.seqObj "list" #[] e1) ∧ Vals kvs kA.toList ∧ RpL X.K H' kvs ((ds.map kf).take i)) its 0 _
    ⟨H, #[], 0, [], I3, Same.refl H, Fa.none, FkS.none, hk3, ho3, .nil, by rw [List.take_zero]; exact .nil⟩ ?step ?done)
  case step =>
    rintro j x s' hx ⟨H', kA, e, kvs, I', sm, na, nk, ok, oa, rk, hk⟩
    rw [Nat.zero_add] at hk ⊢
    have hj : j < its.length := (List.getElem?_eq_some_iff.mp hx).1
    have hjx : j < xs.length := by rw [rv.length]; exact hj
    have hjd : j < ds.length := by omega
    have hxv : xs[j]? = some xs[j] := List.getElem?_eq_getElem hjx
    obtain ⟨u, hu1, rx⟩ := Vals.get rv hxv
    rw [hx] at hu1
    cases hu1
    obtain ⟨d, hd1, rd⟩ := RpL.get' hr hxv
    have hkz : kA.size ≤ its.length := by
      have z1 := rk.length
      have z2 := hk.length
      have z3 : kA.toList.length = kA.size := Array.length_toList
      rw [List.length_take, List.length_map] at z2
      omega
    have I2 : Inv X (pins ++ [(kS, PyProof.Rows.seqObj "list" kA e), (a, PyProof.Rows.seqObj "list" #[] e1)]) σ H' s' := Inv.pin2 I' ok oa nk na ⟨FkS.loc, FkS.fs⟩ ⟨Fa.loc, Fa.fs⟩ (fun v z => by cases z) (fun v z => by cases z)
    refine wpAny_bind (wpAny_attempt (wpAny_mono (turn _ H' s' xs[j] x d (fun p hp => List.mem_append_left _ hp) I2 sm rx (Rp.mono sm.toSme _ _ rd) (List.mem_of_getElem? hd1)) (fun v s'' he => ?_) fun _ _ hF => hF.elim))
    obtain ⟨kx, H'', I'', sm2, rkx, rpk⟩ := he
    have pk := I''.pin (kS, PyProof.Rows.seqObj "list" kA e) (List.mem_append_right _ (List.mem_append_right _ List.mem_cons_self))
    have pa := I''.pin (a, PyProof.Rows.seqObj "list" #[] e1) (List.mem_append_right _ (List.mem_append_right _ (List.mem_cons_of_mem _ List.mem_cons_self)))
    have ok2 : s''.heap.get? kS = some (PyProof.Rows.seqObj "list" kA e) := pk.1
    have oa2 : s''.heap.get? a = some (PyProof.Rows.seqObj "list" #[] e1) := pa.1
    have J := Inv.unpin2 I''
    have s1 := Heap.SameBut.update s''.heap kS (Obj.mapSeq (·.push v))
    obtain ⟨c2, hc2⟩ : ∃ c2, (s''.heap.update kS (Obj.mapSeq (·.push v))).get? kS = some (PyProof.Rows.seqObj "list" (kA.push v) c2) := ⟨_, PyProof.Rows.get?_update_seq ok2 (·.push v)⟩
    have ea : (kA.push v).toList = kA.toList ++ [v] := by simp
    refine wpAny_bind (PyProof.Rows.listUpdate_at ok2 rfl ?_ (Nat.le_trans hkz hL) (Nat.le_trans (Nat.le_of_eq (Array.size_push ..)) (Nat.succ_le_succ (Nat.le_trans hkz hL))))
    have J2 : Inv X pins σ H'' { s'' with heap := s''.heap.update kS (Obj.mapSeq (·.push v)) } := Inv.turned (t' := s''.toks) J (fun b o hb q => (s1.2 b hb).trans q) pk.2.1 FkS.loc (.inr FkS.s0) FkS.cell FkS.pin
    refine wpAny_pure ⟨rfl, H'', kA.push v, c2, kvs ++ [kx], J2, sm.trans sm2, pa.2.1, pk.2.1, hc2, (s1.2 a (Nat.ne_of_lt hka)).trans oa2, ?_, ?_⟩
    · rw [ea]
      exact vals_snoc rkx rk
    · have e3 : (ds.map kf).take (j + 1) = (ds.map kf).take j ++ [kf d] := by rw [List.take_add_one, List.getElem?_map, hd1]; rfl
      rw [e3]
      exact (RpL.mono sm2.toSme _ _ hk).append (.cons rpk .nil)
  case done =>
    rintro s' ⟨H', kA, e, kvs, I', sm, na, nk, ok, oa, rk, hk⟩
    have e3 : (ds.map kf).take (0 + its.length) = ds.map kf := List.take_of_length_le (by rw [List.length_map]; omega)
    rw [e3] at hk
    have fitK : ∀ d ∈ ds.map kf, fit 6 d = true := fun d hd => by
      obtain ⟨d', h1, h2⟩ := List.mem_map.mp hd
      rw [← h2]
      exact hfit d' h1
    have hkr : PySem.W.EachIs (fun u d => ∃ as, Reads s'.heap u d as) kA.toList (ds.map fun d => toP (kf d)) := by
      have z := keys_read I' rk hk fitK
      rw [List.map_map] at z
      exact z
    have hsz : kA.size = its.length := by
      have z1 := rk.length
      have z2 := hk.length
      have z3 : kA.toList.length = kA.size := Array.length_toList
      rw [List.length_map] at z2
      omega
    refine wpAny_bind (PyProof.Rows.listItems_at ok rfl ?_)
    have kp : PySem.W.KeepsBut a (PySem.W.hideAll s'.heap [kS]) s'.heap := fun b o _ z => PySem.W.of_hideAll [kS] z
    have hkS : (PySem.W.hideAll s'.heap [kS]).get? kS = none := PySem.W.hideAll_none [kS] (List.mem_cons_self)
    have hup : ∀ d, d ∈ ds.map (fun d => toP (kf d)) → X.A.in1.in1.units + d.depth < cLine := fun d hd => by
      obtain ⟨d', h1, h2⟩ := List.mem_map.mp hd
      have z := (fit_lay 6 _ (hfit d' h1)).2
      rw [← h2]
      have : X.A.in1.in1.units = X.A.units + 2 := rfl
      omega
    refine PySem.W.keyH_end (κ := PySem.W.dataKind s'.heap (ds.map fun d => toP (kf d))) (h₁ := PySem.W.hideAll s'.heap [kS]) (s := s') kp hkS ok oa (Nat.ne_of_gt hka) (PySem.W.SortsAt.data hkr hal hsk hup) hsz hL fun h4 tk c k4 n4 => ⟨rfl, ?_⟩
    have ko : PySem.W.KeyedOut false ((xs.zip ds).map fun b => toP (kf b.2)) its (PySem.W.sortVals (PySem.W.dataKind s'.heap (ds.map fun d => toP (kf d))) false kA.toList its) := by
      have ez : (xs.zip ds).map (fun b : V × D => toP (kf b.2)) = ds.map fun d => toP (kf d) := by
        have : (xs.zip ds).map (fun b : V × D => toP (kf b.2)) = ((xs.zip ds).map (·.2)).map fun d => toP (kf d) := by rw [List.map_map]; rfl
        rw [this, List.map_snd_zip (by omega)]
      rw [ez]
      exact ⟨s'.heap, kA.toList, hal, rfl, hkr⟩
    have each := PySem.W.keyedOut_each (R := fun u (b : V × D) => RelV b.1 u) (fun b : V × D => toP (kf b.2)) ko (each_vals rv hxd)
    have vo := each_back each
    have hlw : (((xs.zip ds).mergeSort (PySem.W.dataLe false fun b : V × D => toP (kf b.2))).map (·.1)).length ≤ sizeLine := by
      rw [List.length_map, List.length_mergeSort, List.length_zip, sizeLine_eq]
      omega
    have hid : ∀ b o, b ≠ kS → s'.heap.get? b = some o → (PySem.W.hideAll s'.heap [kS]).get? b = some o := fun b o hb z => PySem.W.hideAll_get [kS] z (by simpa using hb)
    have neT : ∀ b u, H' b = some u → b ≠ a ∧ b ≠ kS := fun b u z => ⟨fun c => (by rw [c, na] at z; cases z), fun c => by rw [c, nk] at z; cases z⟩
    have J : Inv X pins σ (upd H' a (.lst (((xs.zip ds).mergeSort (PySem.W.dataLe false fun b : V × D => toP (kf b.2))).map (·.1)))) { s' with heap := h4, toks := tk } := by
      have nch : ∀ b : Addr, b ∉ [kS, a] → b ≠ kS ∧ b ≠ a := fun b hb => by simpa [not_or] using hb
      refine Inv.step (g' := s'.gens) (d' := s'.drawn) (ch := [kS, a]) I' (fun b hb => ?_) (fun b o _ _ hc z _ => k4 b o (nch b hc).2 (hid b o (nch b hc).1 z)) (fun b o _ _ hc z _ => ⟨o.slots, k4 b o (nch b hc).2 (hid b o (nch b hc).1 z)⟩) (fun b o hc _ z => by rw [upd_ne (nch b hc).2]; exact z)
        (fun b o hc z => ⟨o, k4 b o (nch b hc).2 (hid b o (nch b hc).1 z)⟩) (fun b ws z => by rw [upd_ne (neT b _ z).1]; exact z) (fun b o u z => by rw [upd_ne (neT b _ z).1]; exact z) (fun b ps z => ⟨#[], by rw [upd_ne (neT b _ z).1, z]; simp⟩) (fun m hm => ?_) (fun b u z => ?_) I'.bare
      · have hb' : b = kS ∨ b = a := by simpa using hb
        rcases hb' with hb' | hb'
        · subst hb'; exact ⟨.inr FkS.s0, FkS.loc, FkS.cell, FkS.pin⟩
        · subst hb'; exact ⟨.inr Fa.s0, Fa.loc, Fa.cell, Fa.pin⟩
      · obtain ⟨ob, es, ep, ho, r⟩ := hm
        exact ⟨ob, es, ep, k4 _ ob (Ne.symm Fa.loc) (hid _ ob (Ne.symm FkS.loc) ho), r⟩
      · by_cases hb : b = a
        · rw [hb, upd_same] at z
          cases z
          rw [hb]
          exact ⟨hlw, _, c, vo, n4⟩
        · rw [upd_ne hb] at z
          refine (I'.hok b u z).stay (fun d v hd q => k4 d v ?_ (hid d v ?_ q)) (fun d q => by rw [upd_ne (neT d _ q).1]; exact q) fun d ws q => by rw [upd_ne (neT d _ q).1]; exact q
          · rcases hd with w | w
            · rw [w]; exact hb
            · exact (neT d _ w).1
          · rcases hd with w | w
            · rw [w]; exact (neT b _ z).2
            · exact (neT d _ w).2
    refine ⟨.ref a, _, J, rfl, q _ a H' sm na fun H2 hr2 => ?_⟩
    rw [← sort_zipK hxd]
    exact rpl_unzip fun b hb => rpl_zip hr2 b (List.mem_mergeSort.mp hb)
/-! ### keys by a def -/
/-- what a key function gives for a thing -/
def kOf (G : FF) (d : D) : Option D := match G [d] with
  | some (.val k false) => some k
  | _ => none
def kD (G : FF) (d : D) : D := (kOf G d).getD .non
def sortKB (G : FF) : R → Option R
  | ⟨.lst ds, m⟩ => if ds.all (fun d => (kOf G d).isSome) && srtOk (ds.map (kD G)) then some ⟨.lst (sortK (kD G) ds), nw (itR ⟨.lst ds, m⟩)⟩ else none
  | _ => none
def eSortK (G : FF) (fe : EF) : EF := fun ρ => (fe ρ).bind (sortKB G)
theorem kOf_some {G : FF} {d k : D} (h : kOf G d = some k) : G [d] = some (.val k false) := by
  unfold kOf at h
  split at h
  · rename_i e; cases h; exact e
  · cases h
/-- what sorted asks of the keys -/
structure KeysOk (kf : D → D) (ds : List D) : Prop where
  len : ds.length ≤ 100000
  fit : ∀ d ∈ ds, fit 6 (kf d) = true
  al : PySem.W.AllAlike (ds.map fun d => toP (kf d))
  so : PySem.W.Sortable (ds.map fun d => toP (kf d))
theorem keysOk {kf : D → D} {ds : List D} (h : srtOk (ds.map kf) = true) : KeysOk kf ds := by
  unfold srtOk at h
  simp only [Bool.and_eq_true, Bool.or_eq_true, decide_eq_true_eq, List.length_map] at h
  obtain ⟨⟨⟨h1, h2⟩, h3⟩, h4⟩ := h
  have mem : ∀ d ∈ ds, kf d ∈ ds.map kf := fun d hd => List.mem_map.mpr ⟨d, hd, rfl⟩
  refine ⟨h1, fun d hd => List.all_eq_true.mp h2 _ (mem d hd), fun x hx y hy => ?_, ?_⟩
  · obtain ⟨b, hb, rfl⟩ := List.mem_map.mp hx
    obtain ⟨c, hc, rfl⟩ := List.mem_map.mp hy
    exact List.all_eq_true.mp (List.all_eq_true.mp h3 _ (mem b hb)) _ (mem c hc)
  · rcases h4 with h4 | h4
    · refine .inl fun x hx => ?_
      obtain ⟨b, hb, rfl⟩ := List.mem_map.mp hx
      have := List.all_eq_true.mp h4 _ (mem b hb)
      revert this
      cases kf b with
      | tup l => cases l with
        | nil => intro z; cases z
        | cons d l => intro _; exact ⟨_, _, rfl⟩
      | _ => intro z; cases z
    · refine .inr fun x hx => ?_
      obtain ⟨b, hb, rfl⟩ := List.mem_map.mp hx
      have := List.all_eq_true.mp h4 _ (mem b hb)
      revert this
      cases kf b with
      | int i => intro _; exact ⟨(by intro z; cases z), fun xs z => by cases z⟩
      | str i => intro _; exact ⟨(by intro z; cases z), fun xs z => by cases z⟩
      | bl i => intro _; exact ⟨(by intro z; cases z), fun xs z => by cases z⟩
      | lst i => intro _; exact ⟨(by intro z; cases z), fun xs z => by cases z⟩
      | _ => intro z; cases z
end
section
variable {X : Cx} {K : PySem.W.Frag} {mg : Str → Option Value}
def rSortF (P : Program) (w : World) (K : PySem.W.Frag) (mg : Str → Option Value) (base : Heap) (k : Nat) (G : FF) (f : Addr) : List V → List V → Hp → VK → Prop := fun vs zs H Q => ∃ (l : Addr) (xs : List V) (ds : List D),
  vs = [.ref l] ∧ zs = [.ref f] ∧ SqL K H l xs ∧ RpL K H xs ds ∧ TabsK K H ∧ (∀ d ∈ ds, (kOf G d).isSome = true) ∧ KeysOk (kD G) ds ∧
  ∀ (ws : List V) (p : Addr) (H' : Hp), Same K H H' → H' p = none → (∀ H2, RpL K H2 xs ds → RpL K H2 ws (sortK (kD G) ds)) → Q (.ref p) (upd H' p (.lst ws))
theorem kD_of {G : FF} {d : D} (h : (kOf G d).isSome = true) : G [d] = some (.val (kD G d) false) := by
  unfold kD
  cases e : kOf G d with
  | none => rw [e] at h; cases h
  | some k => exact kOf_some e
theorem sort_turn {A : Around} {pins' : List (Addr × Obj)} {σ : L2.St} {H' : Hp} {s' : Shared} {v : Value} {k : D} {f : Addr} (I' : Inv X pins' σ H' s')
    (rc : ∀ (Qf : VK), (∀ kx H2, Same X.K H' H2 → Rp X.K H2 kx k → Qf kx H2) → codeAny (model X.prog X.w) A (.call (.ref f) ⟨[v], []⟩) (CR CX0 X.stack X.prog X.w H' s' Qf L2.E0) s') :
    wpAny (model X.prog X.w) A (call (.ref f) [v]) (fun u s'' => ∃ (kx : V) (H'' : Hp), Inv X pins' σ H'' s'' ∧ Same X.K H' H'' ∧ RelV kx u ∧ Rp X.K H'' kx k) (fun _ _ => False) s' := by
  refine wpAny_call (codeAny_mono (rc (fun kx H2 => Same X.K H' H2 ∧ Rp X.K H2 kx k) fun kx H2 h1 h2 => ⟨h1, h2⟩) fun r s'' hq => ?_)
  cases r with
  | error e => exact (show False from hq).elim
  | ok fl =>
    cases fl with
    | ret u =>
      obtain ⟨kx, H2, J, rk, q1, q2⟩ := I'.after hq
      exact ⟨kx, H2, J, q1, rk, q2⟩
    | next => exact False.elim hq
    | brk => exact False.elim hq
    | cont => exact False.elim hq
theorem cr_sortF {k : Nat} {G : FF} {f : Addr} {fd : FuncData} {ps : List Str} (F : FnOk X.prog X.w X.K X.mg X.base CX0 k f fd ps (spD X.K X.mg 1 G)) (hb : Binds X.K fd ps []) (hr : Room (k + 2) X.A) : CallRK X (.builtin "sorted") [Str.ofString "key"] (rSortF X.prog X.w X.K X.mg X.base k G f) := by
  intro pins s σ H vs zs us ws Q I r rz h
  obtain ⟨l, xs, ds, rfl, rfl, hs, hrp, hT, hk, ko, q⟩ := h
  obtain rfl := Vals.ref1 r
  obtain ⟨w1, rfl, e1⟩ := vals1 rz
  obtain rfl : w1 = Value.ref f := e1
  refine sort_key_run I hs hrp (PyProof.Rows.ksk_t1 f) ko.len ko.fit ko.al ko.so (by have := hr.un; omega) (fun pins' H' s' x v d _ I' sm rx rd hd => ?_) q
  refine sort_turn I' fun Qf hQ => ?_
  have pl : ([V.ref f] : List V).length = 1 := rfl
  have hp : ps.length = 1 := by
    have := F.len [x] H' Qf L2.E0 ⟨rfl, hT.mono sm, fun _ => False, [d], _, pok_no _, .cons (Rp.mono (hide_no H') _ _ rd) .nil, kD_of (hk d hd), fun v H2 ⟨s2, t2, r2⟩ => hQ _ _ ⟨s2, fun _ => t2⟩ (Rp.mono (hide_same _) _ _ r2)⟩
    exact this.symm
  exact F.run X.A.in1.in1 X.stack s' H' ⟨[v], []⟩ [v] [x] Qf L2.E0 (Room.in1 (Room.in1 hr)) I'.env0.in1.in1 (by have := hb s' [v] I'.kIn (by rw [hp]; rfl); rw [List.append_nil] at this; exact this) (.cons rx .nil)
    ⟨rfl, hT.mono sm, fun _ => False, [d], _, pok_no _, .cons (Rp.mono (hide_no H') _ _ rd) .nil, kD_of (hk d hd), fun v H2 ⟨s2, t2, r2⟩ => hQ _ _ ⟨s2, fun _ => t2⟩ (Rp.mono (hide_same _) _ _ r2)⟩
theorem se_sortF {P : Program} {w : World} {base : Heap} {k : Nat} {G : FF} {f : Addr} {te : TE} {fe : EF} (he : SemE K te fe) : SemE K (tCKw (rSortF P w K mg base k G f) (tCons te tNil) (tCons (tC (.ref f)) tNil)) (eSortK G fe) := by
  intro Z σ H ρ r E e Q q
  obtain ⟨a, e1, e⟩ := Option.bind_eq_some_iff.mp e
  unfold sortKB at e
  split at e
  · rename_i ds m
    split at e
    · rename_i hc
      cases e
      rw [Bool.and_eq_true, List.all_eq_true] at hc
      refine he Z σ H ρ _ E e1 _ fun v H1 s1 r1 => ?_
      obtain ⟨l, xs, rfl, h1, h2, h3⟩ := Opd.lstR (E.mono s1).pok (r1.opd E.pok)
      refine ⟨l, xs, ds, rfl, rfl, SqL.of h1, h2, (E.mono s1).tab, hc.1, keysOk hc.2, fun ws p H' s2 hp hw => ?_⟩
      have s12 := s1.trans s2
      refine q _ _ (s12.trans (same_upd hp)) (Res.newL s12.toSme hp (hw _ (RpL.mono s2.toSme _ _ h2)) fun z => hw _ (RpL.mono (same_hide s2.toSme) _ _ (h3 z)))
    · cases e
  · cases e
theorem ge_sortF {k : Nat} {G : FF} {f : Addr} {fd : FuncData} {ps : List Str} {x : Str} {e : Expr} {te : TE} {fe : EF} {p kp np pos : Pos} (F : FnOk X.prog X.w K mg X.base CX0 k f fd ps (spD K mg 1 G)) (hr : Room (k + 2) X.A) (hm : mg x = some (.ref f)) (hb : Binds K fd ps [])
    (ms : X.mg "sorted" = none) (he : GE K X e te fe) (hg : Gl X x := by rfl) (hgs : Gl X "sorted" := by rfl) (hdb : (x == ("__debug__" : Str)) = false := by decide) (hbs : bootBuiltins "sorted" = some (.builtin "sorted") := by decide +kernel)
    (h1 : starEach [e] X.env = (false, eval e X.env) :: starEach [] X.env := by rfl)
    (h2 : backTo pos (starEach [e] X.env) = (false, eval e X.env) :: backTo pos (starEach [] X.env) := by rfl) (h3 : (backTo pos (starEach [e] X.env)).any (·.1) = false := by rfl)
    (h4 : (backToKw pos (keywordEach [⟨some "key", .Name x np, kp⟩] X.env)).all (·.1.isSome) = true := by rfl) (h5 : (backToKw pos (keywordEach [⟨some "key", .Name x np, kp⟩] X.env)).any (·.1.isNone) = false := by rfl)
    (h6 : (backToKw pos (keywordEach [⟨some "key", .Name x np, kp⟩] X.env)).filterMap (·.1) = [Str.ofString "key"] := by rfl) (eK : X.K = K := by rfl) (eM : X.mg = mg := by rfl) :
    GE K X (.Call (.Name "sorted" p) [e] [⟨some "key", .Name x np, kp⟩] pos) (tCKw (rSortF X.prog X.w K mg X.base k G f) (tCons te tNil) (tCons (tC (.ref f)) tNil)) (eSortK G fe) := by
  subst eK eM
  exact ⟨pe_callBK (cr_sortF F hb hr) hgs ms hbs (pa_cons he.p pa_nil h1) (pk_cons (pe_glob (v := .ref f) hg hm rfl hdb) pk_nil) (by decide) (by decide) h2 h3 h4 h5 h6, se_sortF he.s⟩
end
end Fb
set_option maxHeartbeats 2000000
/-! FbE: sorted(xs, key=lambda x: e). -/
namespace Fb
open PySem PySem.Spec L2
/-- a lambda's object -/
abbrev lamO (q : Str) (params : Arguments) (body : Expr) (scope : Scope) (pm : Value) (c' : Addr) (ctv : Value) : Obj := PySem.W.kla_obj "<lambda>" q params body scope [] pm c' ctv
/-- what is behind the making of a lambda -/
structure Made (X : Cx) (pins : List (Addr × Obj)) (σ : L2.St) (H : Hp) (P : Addr) (q : Str) (f c' : Addr) (o : Obj) (H1 : Hp) (s' : Shared) : Prop where
  inv : Inv X pins σ H1 s'
  sm : Sme H H1
  tab : TabS H1 P q
  obj : s'.heap.get? f = some o
  fn : H1 f = none
  fl : f ≠ X.env.locals
  fs : f ∉ X.fs
  code : H1 c' = some (LamX.CodeO c' q)
section
variable {X : Cx} {pins : List (Addr × Obj)} {σ : L2.St} {H : Hp} {s : Shared} {c P : Addr} {params : Arguments} {body : Expr} {scope : Scope} {pos : Pos} {E : Value → Shared → Prop} {Q : Value → Shared → Prop}
theorem lam_make (I : Inv X pins σ H s) (TB : LamX.TabB X.base X.mg c P) (hcode : X.env.code = .ref c) (hT : TabS H P (X.env.qual ++ "<lambda>")) (hdef : defaultsOf params X.env = ([], [])) (hcl : closureFor scope X.env = pure [])
    (h : ∀ (f c' : Addr) (pm ctv : Value) (H1 : Hp) (s' : Shared), Made X pins σ H P (X.env.qual ++ "<lambda>") f c' (lamO (X.env.qual ++ "<lambda>") params body scope pm c' ctv) H1 s' → Q (.ref f) s') :
    wpAny (model X.prog X.w) X.A (eval (.Lambda params body scope pos) X.env) Q E s := by
  obtain ⟨ps, hP, hok, among⟩ := hT
  have bAt : s.heap.BuiltinsAt X.mg P := TB.bm.keeps I.bk
  have oP : s.heap.get? P = some { cls := .none, data := .fields ps } := I.hok P _ hP
  have new : ∀ f, s.heap.objs.size ≤ f → H f = none ∧ f ≠ X.env.locals ∧ f ∉ X.fs := fun f hf => ⟨I.hok.fresh hf, (fresh_of I hf).loc, (fresh_of I hf).fs⟩
  refine PySem.W.kla_eval hdef ?_
  cases hc : codeAmong pos ps.toList with
  | some cv =>
    obtain ⟨c', rfl, hco⟩ := among pos cv hc
    refine PySem.W.kla_makeFunctionHit (mg := X.mg) (c := c) (P := P) (ps := ps) hcl I.ok.glob (I.mod.glob.keeps I.bk) hcode (TB.code.keeps I.bk) oP hok hc bAt fun ctv h' tk hx hsz => ?_
    obtain ⟨n1, n2, n3⟩ := new _ hsz
    exact h h'.objs.size c' _ ctv H _ ⟨I.kept fun b o e => Heap.get?_push_of_some _ (hx b o e), Sme.refl H, ⟨ps, hP, hok, among⟩, Heap.get?_push_size _ rfl, n1, n2, n3, hco⟩
  | none =>
    refine PySem.W.kla_makeFunction (mg := X.mg) (c := c) (P := P) (ps := ps) hcl I.ok.glob (I.mod.glob.keeps I.bk) hcode (TB.code.keeps I.bk) oP hok hc TB.gP bAt fun c' ctv h' tk hx hge hlt hrec htb => ?_
    obtain ⟨c2, oc, vs, t, e2, hoc, hd, hv⟩ := hrec
    cases e2
    have big : s.heap.objs.size ≤ h'.objs.size := Nat.le_trans hge (Nat.le_of_lt hlt)
    obtain ⟨n1, n2, n3⟩ := new _ big
    have nC : H c' = none := I.hok.fresh hge
    have nPc : P ≠ c' := ne_of_none hP nC
    have J := LamX.inv_table (t' := tk) (q := X.env.qual ++ "<lambda>") (more := #[rawInt pos.line, rawInt pos.col, .ref c'])
      (h' := h'.push (PySem.W.kla_obj "<lambda>" (X.env.qual ++ "<lambda>") params body scope [] ((X.mg "__name__").getD .none) c' ctv)) I hP
      (fun b o hb e => Heap.get?_push_of_some _ (hx b o hb e)) (Heap.get?_push_of_some _ htb) hge
      ⟨oc, vs, t, Heap.get?_push_of_some _ hoc, hd, hv⟩
    have keep : ∀ b o, H b = some o → NT o → upd (upd H P (.tbl (ps ++ #[rawInt pos.line, rawInt pos.col, .ref c']))) c' (LamX.CodeO c' (X.env.qual ++ "<lambda>")) b = some o := fun b o e nt => by
      have bP : b ≠ P := fun z => by
        rw [z, hP] at e
        cases e
        exact nt
      rw [upd_ne (ne_of_none e nC), upd_ne bP]
      exact e
    have atP : upd (upd H P (.tbl (ps ++ #[rawInt pos.line, rawInt pos.col, .ref c']))) c' (LamX.CodeO c' (X.env.qual ++ "<lambda>")) P = some (.tbl (ps ++ #[rawInt pos.line, rawInt pos.col, .ref c'])) := by
      rw [upd_ne nPc, upd_same]
    have toL : (ps ++ #[rawInt pos.line, rawInt pos.col, .ref c']).toList = ps.toList ++ [rawInt pos.line, rawInt pos.col, .ref c'] := by simp
    refine h h'.objs.size c' _ ctv _ _ ⟨J, ⟨keep, fun b qs e => ?_⟩, ⟨_, atP, by rw [toL]; exact PySem.TriplesOk_snoc _ _ _ _ hok, fun p' cv hcv => ?_⟩, Heap.get?_push_size _ rfl, ?_, n2, n3, upd_same⟩
    · by_cases bP : b = P
      · exact ⟨_, by rw [bP]; exact atP⟩
      · exact ⟨qs, by rw [upd_ne (ne_of_none e nC), upd_ne bP]; exact e⟩
    · rw [toL] at hcv
      rcases LamX.among_app _ hok hcv with z | z
      · obtain ⟨c0, e1, e2⟩ := among p' cv z
        exact ⟨c0, e1, keep _ _ e2 trivial⟩
      · exact ⟨c', z, upd_same⟩
    · rw [upd_ne (Nat.ne_of_gt hlt), upd_ne (Nat.ne_of_gt (Nat.lt_of_lt_of_le (Heap.lt_size oP) big))]
      exact n1
/-- the lambda is called -/
theorem lam_run {Pr : Program} {w : World} {K : PySem.W.Frag} {mg : Str → Option Value} {base : Heap} {N ps : List Str} {q : Str} {A : Around} {outer : List Env} {s : Shared} {H : Hp} {f c' : Addr} {pm ctv : Value} {us : List Value} {vs : List V} {k : Nat} {tb : TE} {Q : VK}
    (S : FnScope N ps scope) (hbind : bindArgs (PySem.W.kla_fn "<lambda>" q params body scope [] pm (.ref c') ctv) ⟨us, []⟩ = pure (ps.zip us)) (ho : s.heap.get? f = some (lamO q params body scope pm c' ctv)) (hc : H c' = some (LamX.CodeO c' q)) (hr : Room (k + 1) A)
    (e0 : Env0 Pr w K mg base A outer s H) (r : Vals vs us) (hl : vs.length = ps.length) (hbody : Room k (A.deeper (PyProof.Rows.envOfC q scope s.heap.objs.size f (.ref c'))) → PE (cxOf CX0 Pr w K mg base N q scope f (.ref c') A outer s H L2.E0).nox body tb) (hq : tb (L2.start N vs) H Q) :
    codeAny (model Pr w) A (.call (.ref f) ⟨us, []⟩) (CR CX0 outer Pr w H s Q L2.E0) s := by
  obtain ⟨⟨oc, xs, t, hoc, hdc, hvc⟩, _, _⟩ := e0.hok c' _ hc
  have lim : s.heap.NoLimit := e0.mod.nolimit.keeps fun b o e => (e0.bs b o e).1
  refine PySem.W.kla_callFunE hr.depth ho rfl S.co S.gen rfl ⟨c', oc, xs, t, rfl, hoc, hdc, hvc⟩ ?_
  rw [hbind]
  have kinds : ∀ y ∈ ps.zip us, scope.names.lookup y.1 = some .local ∨ (scope.names.lookup y.1 = some .cell ∧ ((cellsFrom (s.heap.objs.size + 1) scope.names []).lookup y.1).isSome = true) := fun ⟨n, v⟩ hy =>
    (S.par n (List.of_mem_zip hy).1).imp id fun q => ⟨q, PySem.W.cellsFrom_some _ _ _ (.inl q)⟩
  refine wpAny_pure (wpAny_newFunctionEnv_cells S.kind kinds fun env he s1 x => ?_)
  subst he
  refine ⟨lim.keeps x.toInCall.keep, ?_⟩
  have J : Inv (cxOf CX0 Pr w K mg base N q scope f (.ref c') A outer s H L2.E0) [] (L2.start N vs) H s1 := inv_start S hr.hd e0 hl r x
  refine PySem.W.kla_codeExpr (wpAny_mono ((hbody (hr.deeper _)).nox.run [] s1 (L2.start N vs) H Q J hq) (fun v s' hv => ?_) fun e s' he => he)
  obtain ⟨y, H', J', ry, qy⟩ := hv
  exact ⟨y, H', J'.os, J'.bare, J'.base, J'.hok, ry, qy⟩
end
section
variable {X : Cx} {K : PySem.W.Frag} {mg : Str → Option Value}
/-- what sorted with this key asks of its list -/
def AskLam (K : PySem.W.Frag) (G : FF) (Q : VK) (v : V) (H1 : Hp) : Prop := ∃ (l : Addr) (xs : List V) (ds : List D), v = .ref l ∧ SqL K H1 l xs ∧ RpL K H1 xs ds ∧ TabsK K H1 ∧ (∀ d ∈ ds, (kOf G d).isSome = true) ∧ KeysOk (kD G) ds ∧
  ∀ (ws : List V) (p : Addr) (H' : Hp), Same K H1 H' → H' p = none → (∀ H2, RpL K H2 xs ds → RpL K H2 ws (sortK (kD G) ds)) → Q (.ref p) (upd H' p (.lst ws))
def AskLams (K : PySem.W.Frag) (G : FF) (Q : VK) : List V → Hp → Prop
  | [v], H1 => AskLam K G Q v H1
  | _, _ => False
def tSortLam (K : PySem.W.Frag) (G : FF) (te : TE) : TE := fun σ H Q => te σ H fun v H1 => AskLam K G Q v H1
theorem se_sortLam {G : FF} {te : TE} {fe : EF} (he : SemE K te fe) : SemE K (tSortLam K G te) (eSortK G fe) := by
  intro Z σ H ρ r E e Q q
  obtain ⟨a, e1, e⟩ := Option.bind_eq_some_iff.mp e
  unfold sortKB at e
  split at e
  · rename_i ds m
    split at e
    · rename_i hc
      cases e
      rw [Bool.and_eq_true, List.all_eq_true] at hc
      refine he Z σ H ρ _ E e1 _ fun v H1 s1 r1 => ?_
      obtain ⟨l, xs, rfl, h1, h2, h3⟩ := Opd.lstR (E.mono s1).pok (r1.opd E.pok)
      refine ⟨l, xs, ds, rfl, SqL.of h1, h2, (E.mono s1).tab, hc.1, keysOk hc.2, fun ws p H' s2 hp hw => ?_⟩
      have s12 := s1.trans s2
      refine q _ _ (s12.trans (same_upd hp)) (Res.newL s12.toSme hp (hw _ (RpL.mono s2.toSme _ _ h2)) fun z => hw _ (RpL.mono (same_hide s2.toSme) _ _ (h3 z)))
    · cases e
  · cases e
/-- the key's expression, over one slot -/
def lamG (fb : EF) : FF := fnF 0 (sRet fb)
theorem ge_sortLam {c P : Addr} {e body : Expr} {te tb : TE} {fe fb : EF} {params : Arguments} {scope : Scope} {x : Str} {p lp kp pos : Pos} (k : Nat) (TB : LamX.TabB X.base X.mg c P) (ht : PySem.W.tabIn K lamF = some (c, P)) (hr : Room (k + 3) X.A) (ms : X.mg "sorted" = none)
    (S : FnScope [x] [x] scope) (he : GE K X e te fe)
    (hbody : ∀ (A : Around) (outer : List Env) (s : Shared) (H : Hp) (f c' : Addr), Room k (A.deeper (PyProof.Rows.envOfC (X.env.qual ++ "<lambda>") scope s.heap.objs.size f (.ref c'))) → GE K (cxOf CX0 X.prog X.w X.K X.mg X.base [x] (X.env.qual ++ "<lambda>") scope f (.ref c') A outer s H L2.E0).nox body tb fb)
    (hcode : X.env.code = .ref c := by rfl) (hqual : X.env.qual ++ "<lambda>" = lamF ++ ".<locals>." ++ "<lambda>" := by rfl) (hdef : defaultsOf params X.env = ([], []) := by rfl) (hcl : closureFor scope X.env = pure [] := by rfl)
    (hbind : ∀ (q : Str) (pm cv ctv u : Value), bindArgs (PySem.W.kla_fn "<lambda>" q params body scope [] pm cv ctv) ⟨[u], []⟩ = pure ([x].zip [u]) := by intros; rfl)
    (hgs : Gl X "sorted" := by rfl) (hbs : bootBuiltins "sorted" = some (.builtin "sorted") := by decide +kernel)
    (h1 : starEach [e] X.env = (false, eval e X.env) :: starEach [] X.env := by rfl)
    (h2 : backTo pos (starEach [e] X.env) = (false, eval e X.env) :: backTo pos (starEach [] X.env) := by rfl) (h3 : (backTo pos (starEach [e] X.env)).any (·.1) = false := by rfl)
    (h4 : (backToKw pos (keywordEach [⟨some "key", .Lambda params body scope lp, kp⟩] X.env)).all (·.1.isSome) = true := by rfl) (h5 : (backToKw pos (keywordEach [⟨some "key", .Lambda params body scope lp, kp⟩] X.env)).any (·.1.isNone) = false := by rfl)
    (h6 : (backToKw pos (keywordEach [⟨some "key", .Lambda params body scope lp, kp⟩] X.env)).filterMap (·.1) = [Str.ofString "key"] := by rfl) (eK : X.K = K := by rfl) :
    GE K X (.Call (.Name "sorted" p) [e] [⟨some "key", .Lambda params body scope lp, kp⟩] pos) (tSortLam K (lamG fb) te) (eSortK (lamG fb) fe) := by
  subst eK
  refine ⟨⟨fun pins s σ H Q I h => ?_⟩, se_sortLam he.s⟩
  refine wpAny_Call_Name_kw (ld_blt I hgs ms hbs ?_ (by decide) (by decide))
  refine PyProof.Rows.callWith_kw (thn ((pa_cons he.p pa_nil h1).run pos pins s σ H (AskLams X.K (lamG fb) Q) I h) fun us s1 ⟨vs, H1, I1, r1, q1⟩ => ?_) h2 h3 h4 h5
  cases vs with
  | nil => exact q1.elim
  | cons v vs =>
    cases vs with
    | cons v2 vs => exact q1.elim
    | nil =>
      obtain ⟨l, xs, ds, rfl, hs, hrp, hT, hk, ko, q⟩ := q1
      obtain rfl := Vals.ref1 r1
      have tabP := hT c P ht
      rw [← hqual] at tabP
      refine wpAny_evalAll_cons (wpAny_bind (lam_make I1 TB hcode tabP hdef hcl fun f c' pm ctv H2 s2 M => wpAny_bind (wpAny_standAt (wpAny_pure ?_))))
      refine wpAny_evalAll_nil ?_
      rw [h6]
      have sm12 : Same X.K H1 H2 := ⟨M.sm, fun _ c2 P2 z => by
        rw [ht] at z
        cases z
        rw [← hqual]
        exact M.tab⟩
      have I2 : Inv X (pins ++ [(f, lamO (X.env.qual ++ "<lambda>") params body scope pm c' ctv)]) σ H2 s2 := M.inv.pins_of fun p hp => by
        rcases List.mem_append.mp hp with z | z
        · exact M.inv.pin p (List.mem_append_right _ z)
        · rw [List.mem_singleton.mp z]
          exact ⟨M.obj, M.fn, M.fl, M.fs, fun v z => by cases z⟩
      refine wpAny_mono (sort_key_run (Q := Q) I2 (Sme.sqL sm12.toSme hs) (RpL.mono sm12.toSme _ _ hrp) (PyProof.Rows.ksk_t1 f) ko.len ko.fit ko.al ko.so (by have := hr.un; omega) (fun pins' H' s' x v d hpin I' sm rx rd hd => ?_) fun ws p H' sm hp hw => q ws p H' (sm12.trans sm) hp hw) (fun v s3 ⟨w', H', J, rw', qw⟩ => ⟨w', H', Inv.unpin2 J, rw', qw⟩) fun _ _ e => e
      refine sort_turn I' fun Qf hQ => ?_
      have pf := I'.pin (f, lamO (X.env.qual ++ "<lambda>") params body scope pm c' ctv) (List.mem_append_right _ (hpin _ (List.mem_append_right _ (List.mem_singleton.mpr rfl))))
      have hT' : TabsK X.K H' := (hT.mono sm12).mono sm
      have z := kD_of (hk d hd)
      obtain ⟨fl, z1, z2⟩ := fn_want (K := X.K) (mg := X.mg) (Z := fun _ => False) (H := H') (Q := Qf) (E := L2.E0) z (fun kx H3 ⟨g1, g2, g3⟩ => hQ kx H3 ⟨g1, fun _ => g2⟩ (Rp.mono (hide_same _) _ _ g3))
      refine lam_run (k := k) (N := [_]) (ps := [_]) (vs := [x]) (tb := tb) S (hbind _ _ _ _ _) pf.1 (sm.toSme.get _ _ M.code trivial) (Room.in1 (Room.in1 hr)) I'.env0.in1.in1 (.cons rx .nil) rfl (fun hr' => (hbody _ _ _ _ _ _ hr').p) ?_
      exact ss_ret (W := WN X.mg L2.E0) (hbody X.A.in1.in1 X.stack s' H' f c' (Room.deeper (Room.in1 (Room.in1 hr)) _)).s (fun _ => False) H' _ H' _ fl (start_ok (m := 0) rfl (pok_no _) hT' (.cons (Rp.mono (hide_no H') _ _ rd) .nil)) z1 _ z2
end
end Fb
set_option maxHeartbeats 2000000
/-! FbF: a law whose program makes a lambda: the end, the def whose code is known. -/
namespace Fb
open PySem PySem.Spec L2
def spLawT (K : PySem.W.Frag) : Sp := fun vs H Q _ => ∃ (a : Addr) (ns : List Int), vs = [.ref a] ∧ TabsK K H ∧ SqL K H a (ns.map V.int) ∧ ns.length ≤ 63 ∧ ∀ H', Q (.bl true) H'
theorem law_okT {P : Program} {w : World} {K : PySem.W.Frag} {mg : Str → Option Value} {base : Heap} {CX : CXT} {k : Nat} {f : Addr} {fd : FuncData} {ps : List Str} {F : FF} (h : FnOk P w K mg base CX k f fd ps (spD K mg 1 F)) (e : ∀ ns : List Int, ns.length ≤ 63 → F [.ro ns] = some (.val (.bl true) false)) : FnOk P w K mg base CX k f fd ps (spLawT K) :=
  h.imp fun vs H Q E ⟨a, ns, hv, ht, hs, hl, q⟩ => by
    subst hv
    refine ⟨rfl, ht, fun _ => False, [.ro ns], _, pok_no _, .cons (.ro (Sme.sqL (hide_no H) hs)) .nil, e ns hl, fun v H' ⟨_, _, r⟩ => ?_⟩
    cases r
    exact q H'
theorem tab_code {K : PySem.W.Frag} {x : Str} {f c P : Addr} {oc : Value} {od : Option Addr} {fd : FuncData} {sl : Array (Option Value)} (h1 : PySem.W.nsIn K mainGlobals x = some (some (.ref f))) (h2 : K.lookup f = some ⟨oc, od, .func fd, sl⟩) (h : PySem.W.tabIn K x = some (c, P)) : fd.code = .ref c := by
  unfold PySem.W.tabIn at h
  rw [h1] at h
  dsimp only at h
  rw [h2] at h
  dsimp only at h
  split at h
  · rename_i c' e
    split at h
    · split at h
      · cases h; exact e
      · cases h
    · cases h
  · cases h
theorem tab_is {K : PySem.W.Frag} {x : Str} {f c P : Addr} {oc oc2 : Value} {od od2 : Option Addr} {fd : FuncData} {sl sl2 : Array (Option Value)} {vs : Array Value} (h1 : PySem.W.nsIn K mainGlobals x = some (some (.ref f))) (h2 : K.lookup f = some ⟨oc, od, .func fd, sl⟩) (h3 : fd.code = .ref c) (h4 : K.lookup c = some ⟨oc2, od2, .fields vs, sl2⟩) (h5 : vs[11]? = some (.ref P)) : PySem.W.tabIn K x = some (c, P) := by
  unfold PySem.W.tabIn
  rw [h1]
  dsimp only
  rw [h2]
  dsimp only
  rw [h3]
  dsimp only
  rw [h4]
  dsimp only
  rw [h5]
theorem walk_lam {l : PySem.W.OpenLaw} {n k : Nat} {q : Program} {loose : List Str} {XP : (Str → Option Value) → Heap → Prop} {YP : World → Heap → Prop} {d : DefRec} {K : Params → PySem.W.Frag} {x : Str}
    (hn : l.most = some n) (hn2 : n ≤ 63) (hdf : d.params.defaults = []) (hr : Room k callerA) (hrec : ((PyProof.Rows.recsOf q).find? fun e => e.name == lamF).isSome = true)
    (hY : ∀ (w : World) (h : Heap), YP w h → (K w.params).In h)
    (F : ∀ (w : World) (mg : Str → Option Value) (fa : Addr) (h : Heap), (K w.params).In h → h.Ns mainGlobals mg → mg d.name = some (.ref fa) →
      ∃ (fd : FuncData) (c P : Addr), PySem.W.tabIn (K w.params) lamF = some (c, P) ∧ (K w.params).lookup P = none ∧ (∀ (s : Shared) (u : Value), BindsTo s fd ⟨[u], []⟩ [(x, u)]) ∧
        ∀ base : Heap, (K w.params).In base → base.Ns mainGlobals mg → LamX.TabB base mg c P → FnOk l.prog w (K w.params) mg base L2.CX0 k fa fd [x] (spLawT (K w.params))) :
    PySem.W.WalkO q loose XP YP l.row.toRowW d [] (fun f vs => PySem.call f vs) := by
  refine Att.attach_callB hn hdf fun w s₀ s₁ mg mb fa o pm cd doc a vs ns G Y ho hd hcd hmg hobj hints hlen hbits hg => ?_
  have KX := hY w _ Y
  obtain ⟨fd, c, P, ht, nP, hb, hF⟩ := F w mg fa _ KX G.T.g hmg
  obtain ⟨dL, hdL⟩ := Option.isSome_iff_exists.mp hrec
  obtain ⟨hC, hTab⟩ := PySem.W.tab_of G.T KX hdL ht
  refine LamX.law_callTs (cs := [(c, P)]) (sp := spLawT (K w.params)) KX G.T.g G.T.b G.T.builtins G.T.nolimit hg (fun p hp => ?_) (fun p hp => ?_) (fun p hp => ?_) G.T.bmain hobj hints (Nat.le_trans hlen (Nat.le_trans hn2 (by decide))) hr (fun base b1 b2 b3 => hF base b1 b2 (b3 (c, P) List.mem_cons_self)) hb (fun H hH hS => ?_) fun H e s' z => z
  · rw [List.mem_singleton.mp hp]; exact hTab
  · rw [List.mem_singleton.mp hp]; exact nP
  · rw [List.mem_singleton.mp hp]; exact hC
  · refine ⟨a, ns, rfl, fun c' P' z => ?_, hS, Nat.le_trans hlen hn2, fun H' => rfl⟩
    rw [ht] at z
    cases z
    exact LamX.TabS.nil (hH (c, P) List.mem_cons_self)
/-- a def whose code object is known -/
theorem fn_okC {P : Program} {w : World} {K : PySem.W.Frag} {mg : Str → Option Value} {base : Heap} {x qual : Str} {st : Stmt} {f c : Addr} {fd : FuncData} {N ps : List Str} {k m : Nat} {body : SF} (F : Fun K x qual st f fd) (hc : fd.code = .ref c) (S : FnScope N ps (defScope st)) (hm : N.length = ps.length + m)
    (hb : ∀ (A : Around) (outer : List Env) (s : Shared) (H : Hp) (E : XK), Room k (A.deeper (PyProof.Rows.envOfC qual (defScope st) s.heap.objs.size f (.ref c))) → ∃ t, GSs K (cxOf CX0 P w K mg base N qual (defScope st) f (.ref c) A outer s H E).nox (WN mg E) (defBody st) t body) :
    FnOk P w K mg base CX0 (k + 1) f fd ps (spD K mg ps.length (fnF m body)) := by
  obtain ⟨oc, od, kV, doc, pm, an, cdv, ct, osl, rfl, lk, hcd⟩ := F.ex
  have e : cdv = .ref c := hc
  subst e
  refine fn_of lk hcd S (fun vs H Q E h => h.1) fun A outer s H vs Q E hr h => ?_
  obtain ⟨hl, hT, Z, ds, o, hZ, hv, ho, q⟩ := h
  obtain ⟨t, g⟩ := hb A outer s H E hr
  obtain ⟨fl, e1, w1⟩ := fn_want ho q
  exact ⟨t, g.p.nox, g.s Z H _ H _ fl (start_ok (by rw [hl]; exact hm) hZ hT hv) e1 _ w1⟩
end Fb
set_option maxHeartbeats 2000000
/-! FbG: a walk over a list or a tuple; the law's own statements (nothing stands below it): x[k].clear(). -/
namespace Fb
open PySem PySem.Spec L2
variable [γ : GSt]
/-! ### a list or a tuple is walked -/
def iA (fe : EF) : IF := fun ρ => match fe ρ with
  | some ⟨.lst ds, m⟩ => if m.ok then some ds else none
  | some ⟨.tup ds, m⟩ => if okR ⟨.tup ds, m⟩ then some ds else none
  | _ => none
def iAc (fe : EF) : IF := fun ρ => match fe ρ with
  | some ⟨.lst ds, m⟩ => if itR ⟨.lst ds, m⟩ then some ds else none
  | some ⟨.tup ds, m⟩ => if okR ⟨.tup ds, m⟩ then some ds else none
  | _ => none
def wOr (a b : TI) : TI := fun σ H R => a σ H R ∨ b σ H R
section
variable {K : PySem.W.Frag} {X : Cx} {te : TE} {fe : EF} {tg l : Expr}
theorem pi_or {a b : TI} (h1 : PI X tg l a) (h2 : PI X tg l b) : PI X tg l (wOr a b) := ⟨fun pins s σ H R I h => h.elim (h1.run pins s σ H R I) (h2.run pins s σ H R I)⟩
theorem si_any (h : SemE K te fe) : SemI K (wOr (iList K te) (iTup K te)) (iA fe) := by
  intro Z σ H ρ ds E e R q
  unfold iA at e
  split at e
  · rename_i ds' m e1
    exact .inl (si_list h Z σ H ρ ds E (by unfold iL; rw [e1]; exact e) R q)
  · rename_i ds' m e1
    exact .inr (si_tup h Z σ H ρ ds E (by unfold iT; rw [e1]; exact e) R q)
  · cases e
theorem sic_any (h : SemE K te fe) : SemIc K (wOr (iList K te) (iTup K te)) (iAc fe) := by
  intro Z σ H ρ ds E e R q
  unfold iAc at e
  split at e
  · rename_i ds' m e1
    exact .inl (sic_list h Z σ H ρ ds E (by unfold iLc; rw [e1]; exact e) R q)
  · rename_i ds' m e1
    exact .inr ((si_tup h).c Z σ H ρ ds E (by unfold iT; rw [e1]; exact e) R q)
  · cases e
theorem gi_any (h : GE K X l te fe) (hk : X.K = K := by rfl) : GI K X tg l (wOr (iList K te) (iTup K te)) (iA fe) := by
  subst hk
  exact ⟨pi_or (pi_list h.p) (pi_tup h.p), si_any h.s⟩
theorem gic_any (h : GE K X l te fe) (hk : X.K = K := by rfl) : GIc K X tg l (wOr (iList K te) (iTup K te)) (iAc fe) := by
  subst hk
  exact ⟨pi_or (pi_list h.p) (pi_tup h.p), sic_any h.s⟩
end
@[simp] theorem ev_iA {fe : EF} {ρ : En} : iA fe ρ = match fe ρ with
  | some ⟨.lst ds, m⟩ => if m.ok then some ds else none
  | some ⟨.tup ds, m⟩ => if okR ⟨.tup ds, m⟩ then some ds else none
  | _ => none := (rfl)
@[simp] theorem ev_iAc {fe : EF} {ρ : En} : iAc fe ρ = match fe ρ with
  | some ⟨.lst ds, m⟩ => if itR ⟨.lst ds, m⟩ then some ds else none
  | some ⟨.tup ds, m⟩ => if okR ⟨.tup ds, m⟩ then some ds else none
  | _ => none := (rfl)
/-! ### the law's own statements -/
def SemS0 (K : PySem.W.Frag) (W : Str → Hp → Prop) (t : TS) (f : SF) : Prop :=
  ∀ (σ : L2.St) (H : Hp) (ρ : En) (fl : Fl), StOk K (fun _ => False) (fun _ => none) H σ ρ → f ρ = some fl → ∀ Dn : Ends, Want K W (fun _ => False) (fun _ => none) Dn fl → t Dn σ H
structure GS0 (K : PySem.W.Frag) (X : Cx) (W : Str → Hp → Prop) (st : Stmt) (t : TS) (f : SF) : Prop where
  p : PS X st t
  s : SemS0 K W t f
structure GSs0 (K : PySem.W.Frag) (X : Cx) (W : Str → Hp → Prop) (st : List Stmt) (t : TS) (f : SF) : Prop where
  p : PSs X st t
  s : SemS0 K W t f
section
variable {K : PySem.W.Frag} {W : Str → Hp → Prop} {X : Cx} {t u : TS} {f g : SF} {st : Stmt} {rest : List Stmt}
theorem SemS.z (h : SemS K W t f) : SemS0 K W t f := fun σ H ρ fl S e Dn w => h _ _ σ H ρ fl S e Dn w
theorem GS.z (h : GS K X W st t f) : GS0 K X W st t f := ⟨h.p, h.s.z⟩
theorem ss_seq0 (h1 : SemS0 K W t f) (h2 : SemS0 K W u g) : SemS0 K W (tSeq t u) (sSeq f g) := by
  intro σ H ρ fl S e Dn w
  unfold sSeq at e
  split at e
  · rename_i ρ' e1
    exact h1 σ H ρ _ S e1 { Dn with nx := u Dn } fun σ' H' S' => h2 σ' H' ρ' fl S' e Dn w
  · rename_i hn
    refine h1 σ H ρ fl S e { Dn with nx := u Dn } ?_
    cases fl with
    | nx ρ' => exact absurd e (hn ρ')
    | bk ρ' => exact w
    | ct ρ' => exact w
    | rt d fr => exact w
    | ex n => exact w
    | rn d => exact w
theorem gss0_cons (h1 : GS0 K X W st t f) (h2 : GSs0 K X W rest u g) : GSs0 K X W (st :: rest) (tSeq t u) (sSeq f g) := ⟨pss_cons h1.p h2.p, ss_seq0 h1.s h2.s⟩
theorem gss0_one (h1 : GS0 K X W st t f) : GSs0 K X W [st] t f := ⟨pss_one h1.p, h1.s⟩
end
/-- what stays as it is whatever is done to a list -/
def safeSl : Sl → Bool
  | .emp => true
  | .sh d => imm d
  | .own (.lst ds) => imm.immL ds
  | .own _ => false
def keepSl (s : Sl) : Sl := if safeSl s then s else .emp
/-- x[k].clear(): what leans on lists is forgotten -/
def sClrIx (i : Nat) (k : Nat) : SF := fun ρ => match ρ[i]? with
  | some (.sh (.tup ds)) => (match ds[k]? with
    | some (.lst _) => some (.nx (ρ.map keepSl))
    | _ => none)
  | _ => none
section
variable {K : PySem.W.Frag} {W : Str → Hp → Prop} {X : Cx}
theorem keep_get {ρ : En} {j : Nat} {s : Sl} (h : (ρ.map keepSl)[j]? = some s) : s = .emp ∨ (ρ[j]? = some s ∧ safeSl s = true) := by
  rw [List.getElem?_map] at h
  obtain ⟨x, h1, h2⟩ := Option.map_eq_some_iff.mp h
  unfold keepSl at h2
  split at h2
  · rename_i c
    subst h2
    exact .inr ⟨h1, c⟩
  · exact .inl h2.symm
theorem ss_clrIx {i k : Nat} : SemS0 K W (tDrop (tBM0 K "list" rClear (tOp (rIx K) (tVar i) (tC (.int k))))) (sClrIx i k) := by
  intro σ H ρ fl S e Dn w
  unfold sClrIx at e
  split at e
  · rename_i ds e0
    split at e
    · rename_i es e1
      cases e
      have E := S.env
      obtain ⟨v, v1, v2⟩ := E.sh i _ e0
      cases v2 with
      | tup s r =>
        rename_i ta xs
        obtain ⟨y, y1, y2⟩ := r.get e1
        cases y2 with
        | lst s2 r2 =>
          rename_i a vs
          obtain ⟨hta, hta'⟩ := hide_some.mp s
          obtain ⟨ha, ha'⟩ := hide_some.mp s2
          refine ⟨_, v1, ?_⟩
          refine .inr (.inl ⟨ta, xs, (k : Int), .ref a, rfl, rfl, .of hta', atI_nat y1, ?_⟩)
          refine ⟨.inl ⟨rfl, _, SqL.of ha'⟩, a, vs, rfl, rfl, ha', ?_⟩
          have ow : ∀ b, Ow σ (ρ.map keepSl) b → Ow σ ρ b := fun b ⟨j, d, h1, h2⟩ => by
            rcases keep_get h1 with z | ⟨z1, z2⟩
            · cases z
            · exact ⟨j, d, z1, h2⟩
          have pz : ∀ b, Pz (fun _ => False) σ (ρ.map keepSl) b → Pz (fun _ => False) σ ρ b := fun b z => z.imp id (ow b)
          have st : STup (hide (Pz (fun _ => False) σ ρ) H) (hide (Pz (fun _ => False) σ (ρ.map keepSl)) (upd H a (.lst []))) := by
            refine ⟨fun b xs' z => ?_, fun b C dx z => ?_, fun b oe φ z => ?_⟩
            · obtain ⟨z1, z2⟩ := hide_some.mp z
              refine hide_some.mpr ⟨fun c => z1 (pz b c), ?_⟩
              rw [upd_ne fun c => by rw [c, ha'] at z2; cases z2]
              exact z2
            · obtain ⟨z1, z2⟩ := hide_some.mp z
              refine hide_some.mpr ⟨fun c => z1 (pz b c), ?_⟩
              rw [upd_ne fun c => by rw [c, ha'] at z2; cases z2]
              exact z2
            · obtain ⟨z1, z2⟩ := hide_some.mp z
              refine hide_some.mpr ⟨fun c => z1 (pz b c), ?_⟩
              rw [upd_ne fun c => by rw [c, ha'] at z2; cases z2]
              exact z2
          refine w σ _ ⟨⟨by rw [List.length_map]; exact E.len, fun j d h => ?_, fun j d h => ?_, fun j l d d' b h1 h2 => ?_, E.zok.upd id, fun b z => id, E.tab.upd ha' trivial⟩, ⟨fun b o z => (by cases z), fun b o z => (by cases z)⟩, fun b _ => rfl⟩
          · rcases keep_get h with z | ⟨z1, z2⟩
            · cases z
            · obtain ⟨x, k1, k2⟩ := E.sh j d z1
              exact ⟨x, k1, Rp.immK st _ _ z2 k2⟩
          · rcases keep_get h with z | ⟨z1, z2⟩
            · cases z
            · obtain ⟨b, k1, k2⟩ := E.own j d z1
              refine ⟨b, k1, ?_⟩
              cases d with
              | lst ds' =>
                obtain ⟨ws, g1, g2⟩ := k2
                have nb : b ≠ a := fun c => ha (.inr ⟨j, _, z1, by rw [← c]; exact k1⟩)
                exact ⟨ws, by rw [upd_ne nb]; exact g1, RpL.immK st _ _ z2 g2⟩
              | _ => cases z2
          · rcases keep_get h1 with z | ⟨z1, z2⟩
            · cases z
            · rcases keep_get h2 with z | ⟨z3, z4⟩
              · cases z
              · exact E.inj j l d d' b z1 z3
    · cases e
  · cases e
theorem gs_clrIx (i : Nat) {k : Nat} {x : Str} {n : Int} {j : Nat} {np cp ixp apos cpos pos : Pos} (hn : n = (k : Int)) (hN : X.N[i]? = some x := by rfl) (hv : Vis X.env.scope x := by first | exact Or.inl rfl | exact Or.inr (Or.inl rfl) | exact Or.inr (Or.inr rfl)) (hd : (x == ("__debug__" : Str)) = false := by decide)
    (hcd : (x == ("__classdict__" : Str)) = false := by decide) (hbase : attributeBase (.Subscript (.Name x np) (.Constant (.int n) j cp) ixp) "clear" X.env (eval (.Subscript (.Name x np) (.Constant (.int n) j cp) ixp) X.env) = eval (.Subscript (.Name x np) (.Constant (.int n) j cp) ixp) X.env := by rfl)
    (hline : (apos.endLine == cpos.line) = true := by rfl) (hsw : swapsWith (.Call (.Attribute (.Subscript (.Name x np) (.Constant (.int n) j cp) ixp) "clear" apos) [] [] cpos) none pos.line X.env = pure false := by rfl) (eK : X.K = K := by rfl) :
    GS0 K X W (.Expr (.Call (.Attribute (.Subscript (.Name x np) (.Constant (.int n) j cp) ixp) "clear" apos) [] [] cpos) pos) (tDrop (tBM0 K "list" rClear (tOp (rIx K) (tVar i) (tC (.int k))))) (sClrIx i k) := by
  subst eK hn
  exact ⟨ps_expr (pe_bm0 PySem.F.plainAttrs_list PySem.F.slot_list_clear PySem.F.type_list_clear mt_clear (pe_ix ix_seq (pe_var hN hv hd hcd) pe_int (fun _ _ => rfl)) hbase hline) hsw, ss_clrIx⟩
end
@[simp] theorem ev_clrIx {i k : Nat} {ρ : En} : sClrIx i k ρ = match ρ[i]? with
  | some (.sh (.tup ds)) => (match ds[k]? with
    | some (.lst _) => some (.nx (ρ.map keepSl))
    | _ => none)
  | _ => none := (rfl)
end Fb
namespace Fb
open PySem PySem.Spec L2
/-- the law, some of whose statements are its own -/
theorem law_ok0 {P : Program} {w : World} {K : PySem.W.Frag} {mg : Str → Option Value} {base : Heap} {x qual : Str} {st : Stmt} {f : Addr} {fd : FuncData} {N ps : List Str} {k m : Nat} {body : SF} (ht : PySem.W.tabIn K lamF = none) (F : Fun K x qual st f fd) (S : FnScope N ps (defScope st)) (h1 : ps.length = 1) (hm : N.length = 1 + m)
    (hb : ∀ (cdv : Value) (A : Around) (outer : List Env) (s : Shared) (H : Hp) (E : XK), Room k (A.deeper (PyProof.Rows.envOfC qual (defScope st) s.heap.objs.size f cdv)) → ∃ t, GSs0 K (cxOf CX0 P w K mg base N qual (defScope st) f cdv A outer s H E).nox (WN mg E) (defBody st) t body)
    (e : ∀ ns : List Int, ns.length ≤ 63 → fnF m body [.ro ns] = some (.val (.bl true) false)) : FnOk P w K mg base CX0 (k + 1) f fd ps (spLaw K) := by
  refine F.ok S (fun vs H Q E h => ?_) (fun cdv A outer s H vs Q E hr h => ?_)
  · obtain ⟨a, ns, hv, _⟩ := h
    rw [hv, h1]
    rfl
  · obtain ⟨a, ns, hv, hs, hl, q⟩ := h
    subst hv
    obtain ⟨t, g⟩ := hb cdv A outer s H E hr
    have hT : TabsK K H := fun c P z => by rw [ht] at z; cases z
    obtain ⟨fl, e1, w1⟩ := fn_want (K := K) (mg := mg) (Z := fun _ => False) (H := fun _ => none) (Q := Q) (E := E) (e ns hl) (fun v H' ⟨_, _, r⟩ => by cases r; exact q H')
    have S0 := start_ok (K := K) (N := N) (vs := [.ref a]) (m := m) hm (pok_no _) hT (.cons (.ro (Sme.sqL (hide_no H) hs)) .nil)
    exact ⟨t, g.p, g.s _ H _ fl ⟨S0.env, ⟨fun b o z => (by cases z), fun b o z => (by cases z)⟩, fun b _ => rfl⟩ e1 _ w1⟩
end Fb
set_option maxHeartbeats 2000000
/-! FbH: what pop(k) takes out is put to the end of another list of one's own. -/
namespace Fb
open PySem PySem.Spec L2
variable [γ : GSt]
def popK (ds : List D) (k : Int) : Option D := if 0 ≤ k ∧ k < (ds.length : Int) then ds[k.toNat]? else none
/-- x.append(y.pop(e)), i ≠ j -/
def sAppPop (i j : Nat) (fe : EF) : SF := fun ρ => if i = j then none else match ρ[i]?, ρ[j]? with
  | some (.own (.lst ds)), some (.own (.lst es)) => (fe ρ).bind fun r => match r.d with
    | .int k => if ds.length < 100000 ∧ es.length < 100000 then (popK es k).map fun d => .nx ((ρ.set j (.own (.lst (es.eraseIdx k.toNat)))).set i (.own (.lst (ds ++ [d])))) else none
    | _ => none
  | _, _ => none
theorem rpl_at {K : PySem.W.Frag} {H : Hp} (vs : List V) : ∀ {ds : List D} {k : Nat} {d : D}, RpL K H vs ds → ds[k]? = some d → ∃ v, vs[k]? = some v ∧ Rp K H v d := by
  induction vs with
  | nil =>
    intro ds k d h e
    cases h
    cases e
  | cons v vs ih =>
    intro ds k d h e
    cases h with
    | cons h1 h2 =>
      cases k with
      | zero =>
        cases e
        exact ⟨v, rfl, h1⟩
      | succ k => exact ih h2 (by simpa using e)
theorem rpl_erase {K : PySem.W.Frag} {H : Hp} (vs : List V) : ∀ {ds : List D} (k : Nat), RpL K H vs ds → RpL K H (vs.eraseIdx k) (ds.eraseIdx k) := by
  induction vs with
  | nil =>
    intro ds k h
    cases h
    exact .nil
  | cons v vs ih =>
    intro ds k h
    cases h with
    | cons h1 h2 =>
      cases k with
      | zero => exact h2
      | succ k => exact .cons h1 (ih k h2)
section
variable {X : Cx} {K : PySem.W.Frag} {W : Str → Hp → Prop} {te : TE} {fe : EF} {e : Expr} {pos : Pos}
theorem ss_appPop {i j : Nat} (h : SemE K te fe) : SemS K W (tDrop (tBM K "list" rAppend (tVar i) (tCons (tBM K "list" rPopAt (tVar j) (tCons te tNil)) tNil))) (sAppPop i j fe) := by
  intro Z B σ H ρ fl S e Dn w
  unfold sAppPop at e
  split at e
  · cases e
  · rename_i nij
    split at e
    · rename_i ds es e0 e0'
      obtain ⟨r, e1, e⟩ := Option.bind_eq_some_iff.mp e
      split at e
      · rename_i k ek
        split at e
        · rename_i hl
          obtain ⟨d, e2, e⟩ := Option.map_eq_some_iff.mp e
          unfold popK at e2
          split at e2
          · rename_i hk
            cases e
            obtain ⟨a, vs, a1, a2, a3⟩ := own_lst S.env e0
            obtain ⟨b, us, b1, b2, b3⟩ := own_lst S.env e0'
            refine ⟨.ref a, a1, .inl ⟨rfl, _, SqL.of a2⟩, ?_⟩
            refine ⟨.ref b, b1, .inl ⟨rfl, _, SqL.of b2⟩, ?_⟩
            refine h Z σ H ρ r S.env e1 _ fun v H1 s1 rv => ?_
            have S1 := S.mono s1
            obtain ⟨b', us', c1, c2, c3⟩ := own_lst S1.env e0'
            rw [b1] at c1
            cases c1
            obtain ⟨rd, rm⟩ := r
            cases ek
            have hv := (rv.opd S.env.pok).int
            obtain ⟨y, y1, y2⟩ := rpl_at _ c3 e2
            have len := c3.length
            refine ⟨b, us', k, k.toNat, y, rfl, by rw [hv], c2, ?_, ?_, ?_, y1, ?_⟩
            · omega
            · have : (us'.length : Int) < 100000 := by omega
              omega
            · unfold seqIndex?
              have hk' : ¬ k < 0 := by omega
              have hk2 : 0 ≤ k ∧ k < (us'.length : Int) := by omega
              simp [hk', hk2]
            · have sm := same_own (Z := Z) (H := H1) (o := .lst (us'.eraseIdx k.toNat)) e0' b1
              have S2 := S1.upd (o := .lst (us'.eraseIdx k.toNat)) (d' := .lst (es.eraseIdx k.toNat)) e0' b1 ⟨_, upd_same, RpL.mono sm _ _ (rpl_erase _ k.toNat c3)⟩
              have e0'' : (ρ.set j (.own (.lst (es.eraseIdx k.toNat))))[i]? = some (.own (.lst ds)) := by
                rw [List.getElem?_set_ne fun z => nij z.symm]
                exact e0
              obtain ⟨a', vs', d1, d2, d3⟩ := own_lst S2.env e0''
              rw [a1] at d1
              cases d1
              have ze : ∀ q, Pz Z σ (ρ.set j (.own (.lst (es.eraseIdx k.toNat)))) q → Pz Z σ ρ q := fun q z => by
                rcases z with z | ⟨m, x, z1, z2⟩
                · exact .inl z
                · by_cases c : j = m
                  · subst c
                    exact .inr ⟨j, _, e0', z2⟩
                  · rw [List.getElem?_set_ne c] at z1
                    exact .inr ⟨m, x, z1, z2⟩
              have y3 : Rp K (hide (Pz Z σ (ρ.set j (.own (.lst (es.eraseIdx k.toNat))))) (upd H1 b (.lst (us'.eraseIdx k.toNat)))) y d := Rp.mono (hide_mono (fun q _ _ z => ze q z) fun q x z g => by
                rw [upd_ne fun c => z (by rw [c]; exact .inr ⟨j, _, e0', b1⟩)]
                exact g) _ _ y2
              have sm2 := same_own (Z := Z) (H := upd H1 b (.lst (us'.eraseIdx k.toNat))) (o := .lst (vs' ++ [y])) e0'' a1
              refine ⟨a, vs', y, rfl, rfl, d2, by rw [d3.length]; exact Nat.lt_trans hl.1 (by decide), ?_⟩
              exact w σ _ (S2.upd e0'' a1 ⟨_, upd_same, (RpL.mono sm2 _ _ d3).append (.cons (Rp.mono sm2 _ _ y3) .nil)⟩)
          · cases e2
        · cases e
      · cases e
    · cases e
theorem gs_appPop (i j : Nat) {x y : Str} {np apos cpos np2 apos2 cpos2 : Pos} (he : GE K X e te fe)
    (hN : X.N[i]? = some x := by rfl) (hv : Vis X.env.scope x := by first | exact Or.inl rfl | exact Or.inr (Or.inl rfl) | exact Or.inr (Or.inr rfl)) (hd : (x == ("__debug__" : Str)) = false := by decide)
    (hcd : (x == ("__classdict__" : Str)) = false := by decide)
    (hN2 : X.N[j]? = some y := by rfl) (hv2 : Vis X.env.scope y := by first | exact Or.inl rfl | exact Or.inr (Or.inl rfl) | exact Or.inr (Or.inr rfl)) (hd2 : (y == ("__debug__" : Str)) = false := by decide)
    (hcd2 : (y == ("__classdict__" : Str)) = false := by decide)
    (hs2 : starEach [e] X.env = (false, eval e X.env) :: starEach [] X.env := by rfl)
    (hbase2 : attributeBase (.Name y np2) "pop" X.env (eval (.Name y np2) X.env) = eval (.Name y np2) X.env := by rfl)
    (hfew2 : ((backTo cpos2 (starEach [e] X.env)).all (fun x => !x.1) && (backToKw cpos2 (keywordEach [] X.env)).all (fun x => x.1.isSome) && decide (([e] : List Expr).length + ([] : List Keyword).length + (if ([] : List Keyword).isEmpty then 0 else 1) < 30)) = true := by rfl)
    (hline2 : (apos2.endLine == cpos2.line) = true := by rfl) (hplain2 : (backTo cpos2 (starEach [] X.env)).any (·.1) = false := by rfl)
    (hs : starEach [.Call (.Attribute (.Name y np2) "pop" apos2) [e] [] cpos2] X.env = (false, eval (.Call (.Attribute (.Name y np2) "pop" apos2) [e] [] cpos2) X.env) :: starEach [] X.env := by rfl)
    (hbase : attributeBase (.Name x np) "append" X.env (eval (.Name x np) X.env) = eval (.Name x np) X.env := by rfl)
    (hfew : ((backTo cpos (starEach [.Call (.Attribute (.Name y np2) "pop" apos2) [e] [] cpos2] X.env)).all (fun x => !x.1) && (backToKw cpos (keywordEach [] X.env)).all (fun x => x.1.isSome) && decide (([.Call (.Attribute (.Name y np2) "pop" apos2) [e] [] cpos2] : List Expr).length + ([] : List Keyword).length + (if ([] : List Keyword).isEmpty then 0 else 1) < 30)) = true := by rfl)
    (hline : (apos.endLine == cpos.line) = true := by rfl) (hplain : (backTo cpos (starEach [] X.env)).any (·.1) = false := by rfl)
    (hsw : swapsWith (.Call (.Attribute (.Name x np) "append" apos) [.Call (.Attribute (.Name y np2) "pop" apos2) [e] [] cpos2] [] cpos) none pos.line X.env = pure false := by rfl) (eK : X.K = K := by rfl) :
    GS K X W (.Expr (.Call (.Attribute (.Name x np) "append" apos) [.Call (.Attribute (.Name y np2) "pop" apos2) [e] [] cpos2] [] cpos) pos) (tDrop (tBM K "list" rAppend (tVar i) (tCons (tBM K "list" rPopAt (tVar j) (tCons te tNil)) tNil))) (sAppPop i j fe) := by
  subst eK
  exact ⟨ps_expr (pe_bm PySem.F.plainAttrs_list PySem.F.slot_list_append PySem.F.type_list_append mt_append (pe_var hN hv hd hcd) (pa_cons (pe_bm PySem.F.plainAttrs_list PySem.F.slot_list_pop PySem.F.type_list_pop mt_popAt (pe_var hN2 hv2 hd2 hcd2) (pa_cons he.p pa_nil hs2) hbase2 hfew2 hline2 hs2 hplain2) pa_nil hs) hbase hfew hline hs hplain) hsw, ss_appPop he.s⟩
end
@[simp] theorem ev_appPop {i j : Nat} {fe : EF} {ρ : En} : sAppPop i j fe ρ = if i = j then none else match ρ[i]?, ρ[j]? with
  | some (.own (.lst ds)), some (.own (.lst es)) => (fe ρ).bind fun r => match r.d with
    | .int k => if ds.length < 100000 ∧ es.length < 100000 then (popK es k).map fun d => .nx ((ρ.set j (.own (.lst (es.eraseIdx k.toNat)))).set i (.own (.lst (ds ++ [d])))) else none
    | _ => none
  | _, _ => none := (rfl)
end Fb
set_option maxHeartbeats 4000000
/-! FbI: a set of the ints of a list, sorted; xs[::-1]; raise; calls that let something out. -/
namespace Fb
open PySem PySem.Spec PyProof.Rows L2
variable [γ : GSt]
section
variable {P : Program} {w : World} {A : Around} {E : Value → Shared → Prop} {s : Shared}
/-- a set just made -/
abbrev nuS (w : World) : Obj := { cls := .type "set", dict := none, data := .set #[] 0 (.fresh 0 0 (!w.params.followText "set-order")) }
/-- the heap behind set(list of ints) -/
def SetL (w : World) (s : Shared) (ns : List Int) (h' : Heap) : Prop := (∃ c, c ≤ ns.length ∧ SetR w h' s.heap.objs.size (fun j => decide (j ∈ ns)) c) ∧ ∀ b o, s.heap.get? b = some o → h'.get? b = some o
theorem set_of_list {l : Addr} {items : Array Value} (ns : List Int) {Q : Value → Shared → Prop} (hh : A.handled = none) (hl : s.heap.IsList l items) (hit : IntsAre items.toList ns) (hb : ns.length < 1000)
    (fin : ∀ h' tk, SetL w s ns h' → Q (.ref s.heap.objs.size) { s with heap := h', toks := tk }) :
    wpAny (model P w) A (call (.type "set") [.ref l]) Q E s := by
  have hsz : items.size = ns.length := by rw [← Array.length_toList]; exact hit.length
  have old : ∀ b o, s.heap.get? b = some o → (s.heap.push (nuS w)).get? b = some o := fun b o e => Heap.get?_push_of_some _ e
  have new0 : (s.heap.push (nuS w)).get? s.heap.objs.size = some (nuS w) := Heap.get?_push_size _ rfl
  obtain ⟨_, _, m0⟩ := F.called_set.mro
  have m1 := F.called_set.made
  have m2 := F.called_set.sub
  have m3 := F.called_set.notType
  have m4 := F.called_set.canCreate
  have m5 := F.typeCall_set_1 (.ref l)
  refine wpAny_call (codeAny_of_tree ?_)
  show wpAny _ _ (callAny (.type "set") _) _ _ _
  refine wpAny_pure ⟨Code.quiet_builtin _ (by decide +kernel), ?_⟩
  refine codeAny_builtin F.entry_type_call ?_
  rw [Around.under_plain (weight_type_call_type "set" [.ref l] []) rfl]
  repeat any_goals first | assumption | wp_step
  refine codeAny_mono (code_set_led1 (.ref l) (E := E) (Q₁ := fun x s1 => x = .ref s.heap.objs.size ∧ s1 = { s with heap := s.heap.push (nuS w) }) ⟨rfl, rfl⟩) fun r s1 hr => ?_
  match r, hr with
  | .error e, hr => exact hr
  | .ok .next, hr => exact hr.elim
  | .ok .brk, hr => exact hr.elim
  | .ok .cont, hr => exact hr.elim
  | .ok (.ret x), hr =>
    obtain ⟨e1, e2⟩ := hr
    subst e1 e2
    have ty : Shared.TypeIs { s with heap := s.heap.push (nuS w) } (.ref s.heap.objs.size) "set" := ⟨_, new0, rfl⟩
    have i1 := F.called_set.init.lookup
    have i2 := F.called_set.init.bind (.ref s.heap.objs.size)
    repeat any_goals first | assumption | wp_step
    refine codeAny_mono (R := wants (fun x s2 => x = .none ∧ ∃ h' tk, s2 = { s with heap := h', toks := tk } ∧ SetL w s ns h') E) ?first fun r2 s2 hr2 => ?second
    case second =>
      match r2, hr2 with
      | .error e, hr2 => exact hr2
      | .ok .next, hr2 => exact hr2.elim
      | .ok .brk, hr2 => exact hr2.elim
      | .ok .cont, hr2 => exact hr2.elim
      | .ok (.ret x), hr2 =>
        obtain ⟨e3, h', tk, e4, e5⟩ := hr2
        subst e3 e4
        repeat any_goals first | assumption | wp_step
        exact fin h' tk e5
    case first =>
      refine codeAny_call_builtin F.called_set.init.plain F.entry_set_init (check_set_init_1 ty ?_)
      obtain ⟨⟨kc, kd, kx, ks⟩, q1, q2, q3, q4⟩ := hl
      dsimp only at q2 q4
      subst q2 q4
      have here := old _ _ q1
      have lst1 : (s.heap.push (nuS w)).IsList l items := ⟨_, here, rfl, q3, rfl⟩
      have t1 := F.sub_list_set
      have t2 := F.sub_list_frozenset
      have t3 : (Value.type "list" == Value.type "dict") = false := by decide
      unfold Builtin.«set.__init__» noKeywords Builtin.Frozenset.updateFrom
      generalize keepPI : pyIter = PI
      wp_walk
      subst keepPI
      refine wpAny_pyIter_list lst1 (wpAny_bind (wpAny_runValue ?_))
      have lS : l < s.heap.objs.size := Heap.lt_size q1
      have sz : (s.heap.push (nuS w)).objs.size = s.heap.objs.size + 1 := by rw [Heap.size_push]
      have up1 : ∀ b : Nat, b ≤ s.heap.objs.size → b ≠ (s.heap.push (nuS w)).objs.size := fun b hb => Nat.ne_of_lt (by rw [sz]; exact Nat.lt_succ_of_le hb)
      have nIl : l ≠ (s.heap.push (nuS w)).objs.size := up1 l (Nat.le_of_lt lS)
      have hd3 : A.in1.in1.in1.handled = none := by simp [hh]
      refine set_update_ints ((Walks.list hd3 _ l nIl items).toS) s.heap.objs.size (fun z => ?_) ns hsz (by unfold scanBound; omega) (fun i v hv => ?_) (items.size - 0) 0 _ (by omega) (Nat.zero_le _) ⟨⟨_, Heap.get?_push_size _ rfl, rfl, rfl⟩, lst1.push _⟩ ⟨0, Nat.le_refl 0, setR_new_at (Heap.get?_push_of_some _ new0)⟩ fun s3 c mv hc hS => ?_
      · rcases List.mem_cons.mp z with z | z
        · exact up1 _ (Nat.le_refl _) z
        · exact absurd (List.mem_singleton.mp z) (Nat.ne_of_gt lS)
      · have hi : i < ns.length := by rw [← hsz]; exact (Array.getElem?_eq_some_iff.mp hv).1
        obtain ⟨t, e⟩ := IntsAre.int_at hit i v (by rw [Array.getElem?_toList]; exact hv)
        refine ⟨ns[i], t, List.getElem?_eq_getElem hi, ?_⟩
        rw [e, List.getD_eq_getElem?_getD, List.getElem?_eq_getElem hi]
        rfl
      · have g1 : s3.gens = s.gens := mv.gens
        have g2 : s3.drawn = s.drawn := mv.drawn
        have g3 : s3.os = s.os := mv.os
        obtain ⟨h3, gens3, dr3, tk3, os3⟩ := s3
        dsimp only at g1 g2 g3
        subst g1 g2 g3
        refine wpAny_pure (wpAny_pure ⟨rfl, h3, tk3, rfl, ⟨c, by omega, hS⟩, fun b o e => ?_⟩)
        have hb0 := Heap.lt_size e
        refine mv.heap b o (fun z => ?_) (Heap.get?_push_of_some _ (old b o e))
        rcases List.mem_cons.mp z with z | z
        · exact absurd z (Nat.ne_of_lt hb0)
        · exact up1 b (Nat.le_of_lt hb0) (List.mem_singleton.mp z)
end
/-! ### sorted(set(xs)) -/
def insU (x : Int) : List Int → List Int
  | [] => [x]
  | y :: r => if x < y then x :: y :: r else if x = y then y :: r else y :: insU x r
def uSet (ns : List Int) : List Int := ns.foldr insU []
theorem insU_mem {x z : Int} : ∀ {l : List Int}, z ∈ insU x l ↔ z = x ∨ z ∈ l
  | [] => by simp [insU]
  | y :: r => by
    unfold insU
    split
    · simp
    · split
      · rename_i e
        subst e
        simp
      · rw [List.mem_cons, insU_mem, List.mem_cons]
        constructor
        · rintro (h | h | h)
          · exact .inr (.inl h)
          · exact .inl h
          · exact .inr (.inr h)
        · rintro (h | h | h)
          · exact .inr (.inl h)
          · exact .inl h
          · exact .inr (.inr h)
theorem insU_lt {x : Int} : ∀ {l : List Int}, l.Pairwise (· < ·) → (insU x l).Pairwise (· < ·)
  | [], _ => by simp [insU]
  | y :: r, h => by
    obtain ⟨h1, h2⟩ := List.pairwise_cons.mp h
    unfold insU
    split
    · rename_i c
      refine List.pairwise_cons.mpr ⟨fun z hz => ?_, h⟩
      rcases List.mem_cons.mp hz with e | e
      · rw [e]; exact c
      · exact Int.lt_trans c (h1 z e)
    · split
      · exact h
      · refine List.pairwise_cons.mpr ⟨fun z hz => ?_, insU_lt h2⟩
        rcases insU_mem.mp hz with e | e
        · subst e; omega
        · exact h1 z e
theorem uSet_lt : ∀ ns : List Int, (uSet ns).Pairwise (· < ·)
  | [] => List.Pairwise.nil
  | _ :: r => insU_lt (uSet_lt r)
theorem uSet_mem {z : Int} : ∀ {ns : List Int}, z ∈ uSet ns ↔ z ∈ ns
  | [] => Iff.rfl
  | x :: r => by
    show z ∈ insU x (uSet r) ↔ _
    rw [insU_mem, uSet_mem, List.mem_cons]
theorem lt_uniq : ∀ {a b : List Int}, a.Pairwise (· < ·) → b.Pairwise (· < ·) → (∀ x, x ∈ a ↔ x ∈ b) → a = b
  | [], [], _, _, _ => rfl
  | [], y :: b, _, _, h => by have := (h y).mpr List.mem_cons_self; cases this
  | x :: a, [], _, _, h => by have := (h x).mp List.mem_cons_self; cases this
  | x :: a, y :: b, h1, h2, h => by
    obtain ⟨p1, q1⟩ := List.pairwise_cons.mp h1
    obtain ⟨p2, q2⟩ := List.pairwise_cons.mp h2
    have e : x = y := by
      rcases List.mem_cons.mp ((h x).mp List.mem_cons_self) with z | z
      · exact z
      · rcases List.mem_cons.mp ((h y).mpr List.mem_cons_self) with w | w
        · exact w.symm
        · have := p1 y w; have := p2 x z; omega
    subst e
    rw [lt_uniq q1 q2 fun z => ⟨fun w => ?_, fun w => ?_⟩]
    · rcases List.mem_cons.mp ((h z).mp (List.mem_cons_of_mem _ w)) with v | v
      · subst v; have := p1 z w; omega
      · exact v
    · rcases List.mem_cons.mp ((h z).mpr (List.mem_cons_of_mem _ w)) with v | v
      · subst v; have := p2 z w; omega
      · exact v
theorem uSet_len : ∀ ns : List Int, (uSet ns).length ≤ ns.length
  | [] => Nat.le_refl _
  | x :: r => by
    have ins : ∀ l : List Int, (insU x l).length ≤ l.length + 1 := fun l => by
      induction l with
      | nil => exact Nat.le_refl _
      | cons y l ih =>
        unfold insU
        split
        · simp
        · split
          · simp
          · simp; exact ih
    have := ins (uSet r)
    have := uSet_len r
    show (insU x (uSet r)).length ≤ r.length + 1
    omega
def tSrtSet (K : PySem.W.Frag) (ta : TE) : TE := fun σ H Q => ta σ H fun x H1 => ∃ (l : Addr) (ns : List Int), x = .ref l ∧ SqL K H1 l (ns.map V.int) ∧ ns.length < 60 ∧ ∀ p, H1 p = none → Q (.ref p) (upd H1 p (.lst ((uSet ns).map V.int)))
section
variable {X : Cx} {a : Expr} {ta : TE} {fa : EF} {p p2 q pos : Pos} {K : PySem.W.Frag}
theorem vals_ints : ∀ {l : List Value} {ns : List Int}, IntsAre l ns → Vals (ns.map V.int) l
  | _, _, .nil => .nil
  | _, _, .cons n k h => .cons ⟨k, rfl⟩ (vals_ints h)
theorem ints_vals : ∀ {l : List Value} {ns : List Int}, Vals (ns.map V.int) l → IntsAre l ns
  | [], [], .nil => .nil
  | _ :: _, n :: ns, .cons r t => by
    obtain ⟨k, rfl⟩ := r
    exact .cons n k (ints_vals t)
theorem pe_srtSet (hc : X.calm = true) (hg : Gl X "sorted") (hm : X.mg "sorted" = none) (hg2 : Gl X "set") (hm2 : X.mg "set" = none) (ha : PE X a ta) (hbs : bootBuiltins "sorted" = some (.builtin "sorted") := by decide +kernel)
    (na : starEach [a] X.env = (false, eval a X.env) :: starEach [] X.env := by rfl) : PE X (.Call (.Name "sorted" p) [.Call (.Name "set" p2) [a] [] q] [] pos) (tSrtSet X.K ta) := by
  refine ⟨fun pins s σ H Q I h => ?_⟩
  refine Call_ (ld_blt I hg hm hbs (callWith_builtin1 (args_cons ?_ rfl) rfl rfl))
  refine Call_ (ld_blt I hg2 hm2 boot_set (callWith_type1 (args_cons (thn (ha.run pins s σ H _ I h) fun v s1 ⟨x, H1, I1, r1, q1⟩ => args_nil ?_) na) na rfl))
  obtain ⟨l, ns, rfl, hq, hl, q1⟩ := q1
  cases r1
  obtain ⟨its, r, pl, hz⟩ := I1.list hq
  have hd := I1.ok.hd hc
  refine set_of_list ns hd pl.isList (by simpa using ints_vals r) (by omega) fun h' tk ⟨⟨c, hcn, R⟩, k⟩ => args_nil ?_
  have I2 : Inv X pins σ H1 { s1 with heap := h', toks := tk } := I1.kept k
  refine sorted_set R hd (by omega) fun s' o out n out' k2 g2 o2 hp ho hi hlt hmem hlen => ?_
  have e : out' = uSet ns := lt_uniq hlt (uSet_lt ns) fun z => by rw [hmem, uSet_mem, decide_eq_true_eq]
  subst e
  have free : H1 o = none := I2.hok.fresh hp
  have fits : ((uSet ns).map V.int).length ≤ sizeLine := by
    have := uSet_len ns
    rw [List.length_map, sizeLine_eq]
    omega
  have J : Inv X pins σ (upd H1 o (.lst ((uSet ns).map V.int))) s' := I2.call' (ch := []) o2 (Un.laid k2 hp free) (I2.hok.laid k2 hp ⟨fits, out.toList, n, vals_ints hi, ho⟩) (by rw [g2]; exact I2.bare) fun _ z => nomatch z
  exact ⟨.ref o, _, J, rfl, q1 o free⟩
/-- sorted(set(xs)) -/
def eSrtSet (fa : EF) : EF := fun ρ => (fa ρ).bind fun r => match r.d with
  | .lst ds => (intsD ds).bind fun ns => if ns.length < 60 then some ⟨.lst ((uSet ns).map .int), .fr⟩ else none
  | _ => none
theorem se_srtSet (h : SemE K ta fa) : SemE K (tSrtSet K ta) (eSrtSet fa) := by
  intro Z σ H ρ r E e Q q
  obtain ⟨ra, e1, e⟩ := Option.bind_eq_some_iff.mp e
  split at e
  · rename_i ds ed
    obtain ⟨ns, e2, e⟩ := Option.bind_eq_some_iff.mp e
    split at e
    · rename_i hl
      cases e
      have hds := intsD_some e2
      subst hds
      refine h Z σ H ρ ra E e1 _ fun v H1 s1 rv => ?_
      obtain ⟨rd, rm⟩ := ra
      cases ed
      have rp : Rp K H1 v (.lst (ns.map D.int)) := (rv.opd E.pok).rp
      cases rp with
      | lst h1 h2 =>
        have e3 := h2.ints
        subst e3
        refine ⟨_, ns, rfl, SqL.of h1, hl, fun p hp => ?_⟩
        exact q _ _ (s1.trans (same_upd hp)) ⟨p, rfl, Sme.none s1 hp, _, upd_same, RpL.ofInts _⟩
    · cases e
  · cases e
theorem ge_srtSet (hc : X.calm = true) (hm : X.mg "sorted" = none) (hm2 : X.mg "set" = none) (ha : GE K X a ta fa) (hg : Gl X "sorted" := by rfl) (hg2 : Gl X "set" := by rfl) (hbs : bootBuiltins "sorted" = some (.builtin "sorted") := by decide +kernel)
    (na : starEach [a] X.env = (false, eval a X.env) :: starEach [] X.env := by rfl) (eK : X.K = K := by rfl) : GE K X (.Call (.Name "sorted" p) [.Call (.Name "set" p2) [a] [] q] [] pos) (tSrtSet K ta) (eSrtSet fa) := by
  subst eK
  exact ⟨pe_srtSet hc hg hm hg2 hm2 ha.p hbs na, se_srtSet ha.s⟩
/-! ### list(d), the keys of a dict -/
def cLstD : CF := fun as => match as with
  | [⟨.dT kvs, _⟩] => some ⟨.lst (kvs.map fun kv => keyT kv.1), .fr⟩
  | _ => none
theorem keys_rp {H : Hp} {P : Addr → Prop} (hP : POk P H) (vs : List (List Key × V)) : ∀ {kvs : List (List Key × D)} {bs : List Addr}, IsKeys H vs bs → RpT K H vs kvs → RpL K (hide P H) (bs.map V.ref) (kvs.map fun kv => keyT kv.1) := by
  induction vs with
  | nil =>
    intro kvs bs h1 h2
    cases h1
    cases h2
    exact .nil
  | cons v r ih =>
    intro kvs bs h1 h2
    cases h1 with
    | cons k1 k2 =>
      cases h2 with
      | cons q1 q2 => exact .cons (.tup (hP.stup.1 _ _ k1) (unKeys_rp _)) (ih k2 q2)
theorem sc_lstD : SemC K (fun xs H Q => ∃ d kvs, xs = [V.ref d] ∧ Rd H d (.dT kvs) ∧ ∀ p bs, H p = none → IsKeys H kvs bs → Q (.ref p) (upd H p (.lst (bs.map V.ref)))) cLstD := by
  intro P H xs as c hP hA h Q q
  unfold cLstD at h
  split at h
  · cases h
    obtain ⟨x, rfl, ha⟩ := hA.one
    obtain ⟨p, vs, rfl, h1, h2⟩ := ha.dT
    exact ⟨p, vs, rfl, h1, fun l bs hl hk => q _ _ (same_upd hl) (Res.newL (b := true) (Sme.refl H) hl (RpL.mono (hide_same H) _ _ (keys_rp hP _ hk h2)) fun _ => keys_rp hP _ hk h2)⟩
  · cases h
/-! ### xs[::-1] -/
def eRev (fa : EF) : EF := fun ρ => match fa ρ with
  | some ⟨.lst ds, m⟩ => some ⟨.lst ds.reverse, nw (itR ⟨.lst ds, m⟩)⟩
  | _ => none
theorem se_rev (h : SemE K ta fa) : SemE K (tRevL K ta) (eRev fa) := by
  intro Z σ H ρ r E e Q q
  unfold eRev at e
  split at e
  · rename_i ds m e0
    cases e
    refine h Z σ H ρ _ E e0 _ fun v H1 s1 rv => ?_
    obtain ⟨b, vs, rfl, h1, h2, h3⟩ := Opd.lstR (E.mono s1).pok (rv.opd E.pok)
    exact ⟨b, vs, rfl, SqL.of h1, fun p hp => q _ _ (s1.trans (same_upd hp)) (Res.newL s1.toSme hp h2.reverse fun z => (h3 z).reverse)⟩
  · cases e
theorem ge_rev {k : Nat} {p1 p3 : Pos} (ha : GE K X a ta fa) (eK : X.K = K := by rfl) : GE K X (.Subscript a (.Slice none none (some (.UnaryOp .USub (.Constant (.int 1) k p1) p2)) p3) pos) (tRevL K ta) (eRev fa) := by
  subst eK
  exact ⟨pe_revL ha.p, se_rev ha.s⟩
end
/-! ### raise; calls that let something out -/
structure ExcTxt (K : PySem.W.Frag) (mg : Str → Option Value) (n : Str) (C : Addr) : Prop where
  g : mg n = some (.ref C)
  k : PySem.W.keepIn K (.ref C) = true
  e : PySem.W.excIn K C [.type "ValueError", .type "Exception", .type "BaseException", .type "object"] "ValueError.__new__" = true
  s : PySem.W.subIn K (.ref C) (.type "BaseException") = some true
  t : PySem.W.typeIn K (.ref C) = some (.type "type")
def sRaise (n : Str) : SF := fun _ => some (.ex n)
/-- f(..), whose value is not kept -/
def sCallX (G : FF) (fa : AF) : SF := fun ρ => (fa ρ).bind fun rs => match G (rs.map R.d) with
  | some (.val _ _) => some (.nx ρ)
  | some (.nw _) => some (.nx ρ)
  | some (.exc n) => some (.ex n)
  | none => none
/-- x = f(..) -/
def sSetX (i : Nat) (G : FF) (fa : AF) : SF := fun ρ => (fa ρ).bind fun rs => match G (rs.map R.d) with
  | some (.val d fr) => (put i ⟨d, cMd (okL rs) fr d⟩ ρ).map .nx
  | some (.nw d) => (put i ⟨d, .av⟩ ρ).map .nx
  | some (.exc n) => some (.ex n)
  | none => none
/-- return f(..) -/
def sRetX (G : FF) (fa : AF) : SF := fun ρ => (fa ρ).bind fun rs => match G (rs.map R.d) with
  | some (.val d fr) => rtR ⟨d, cMd (okL rs) fr d⟩
  | some (.nw d) => rtR ⟨d, .av⟩
  | some (.exc n) => some (.ex n)
  | none => none
section
variable {X : Cx} {K : PySem.W.Frag} {mg : Str → Option Value} {E0 : XK} {G : FF} {n : Nat} {ta : TA} {fa : AF}
theorem gs_raise {x m : Str} {j : Nat} {p p2 pos pos' : Pos} {C : Addr} (hc : X.calm = true) (tk : Takes X fun c d _ H => E0 c d H) (T : ExcTxt K mg x C) (hg : Gl X x := by rfl) (hdb : (x == ("__debug__" : Str)) = false := by decide) (eK : X.K = K := by rfl) (eM : X.mg = mg := by rfl) :
    GS K X (WN mg E0) (.Raise (some (.Call (.Name x p) [.Constant (.str m) j p2] [] pos)) none pos') (fun _ σ H => E0 (.ref C) none H) (sRaise x) := by
  subst eK eM
  refine ⟨ps_raise hc tk (pmk_own F.excBase_ValueError T.e T.g T.k (raises_own T.s T.t) hg hdb), ?_⟩
  intro Z B σ H ρ fl S e Dn w
  cases e
  exact w H S.base S.env.tab C T.g
theorem tk_of {P : Program} {w : World} {base : Heap} {N : List Str} {qual : Str} {sc : Scope} {f : Addr} {cdv : Value} {A : Around} {outer : List Env} {s : Shared} {H : Hp} {E : XK} : Takes (cxOf (L2.CX P w) P w K mg base N qual sc f cdv A outer s H E) fun c d _ H => E c d H := takes_of rfl rfl rfl rfl
theorem passF {P : Program} {w : World} : Passes (L2.CX P w) X fun _ _ _ => False := fun _ _ _ _ _ _ _ h => by
  obtain ⟨_, _, _, _, _, _, _, _, _, _, _, _, z⟩ := h
  exact z.elim
theorem ss_callX (h : SemA K ta fa) (hn : ∀ ρ rs, fa ρ = some rs → rs.length = n) : SemS K (WN mg E0) (tDrop (tCall (spD K mg n G) [] E0 ta)) (sCallX G fa) := by
  intro Z B σ H ρ fl S e Dn w
  obtain ⟨rs, e1, e⟩ := Option.bind_eq_some_iff.mp e
  have hd : ∀ H, RpL K H [] [] := fun _ => .nil
  refine h Z σ H ρ rs S.env e1 _ fun vs H1 s1 r1 => ?_
  have S1 := S.mono s1
  split at e
  · rename_i d fr e2
    cases e
    exact spD_met (o := .val d fr) S1.env s1 r1 hd (by simpa using hn ρ rs e1) (by simpa using e2) fun v H2 s2 _ => w σ H2 (S.mono s2)
  · rename_i d e2
    cases e
    exact spD_met (o := .nw d) S1.env s1 r1 hd (by simpa using hn ρ rs e1) (by simpa using e2) fun v H2 s2 _ => w σ H2 (S.mono s2)
  · rename_i x e2
    cases e
    exact spD_met (o := .exc x) S1.env s1 r1 hd (by simpa using hn ρ rs e1) (by simpa using e2) fun C hC H2 s2 => w H2 (S.base.trans s2.toSme) (s2.tab S.env.tab) C hC
  · cases e
theorem ss_setX {i : Nat} (h : SemA K ta fa) (hn : ∀ ρ rs, fa ρ = some rs → rs.length = n) : SemS K (WN mg E0) (tAsg (tCall (spD K mg n G) [] E0 ta) (gName i)) (sSetX i G fa) := by
  intro Z B σ H ρ fl S e Dn w
  obtain ⟨rs, e1, e⟩ := Option.bind_eq_some_iff.mp e
  have hd : ∀ H, RpL K H [] [] := fun _ => .nil
  refine h Z σ H ρ rs S.env e1 _ fun vs H1 s1 r1 => ?_
  have S1 := S.mono s1
  split at e
  · rename_i d fr e2
    obtain ⟨ρ', e3, e⟩ := Option.map_eq_some_iff.mp e
    cases e
    exact spD_met (o := .val d fr) S1.env s1 r1 hd (by simpa using hn ρ rs e1) (by simpa using e2) fun v H2 s2 q => w _ H2 (put_ok S s2 q e3)
  · rename_i d e2
    obtain ⟨ρ', e3, e⟩ := Option.map_eq_some_iff.mp e
    cases e
    exact spD_met (o := .nw d) S1.env s1 r1 hd (by simpa using hn ρ rs e1) (by simpa using e2) fun v H2 s2 q => w _ H2 (put_ok S s2 q e3)
  · rename_i x e2
    cases e
    exact spD_met (o := .exc x) S1.env s1 r1 hd (by simpa using hn ρ rs e1) (by simpa using e2) fun C hC H2 s2 => w H2 (S.base.trans s2.toSme) (s2.tab S.env.tab) C hC
  · cases e
variable {CX : CXT} {k : Nat} {f : Addr} {fd : FuncData} {ps : List Str} {x : Str} {p pos pos' : Pos} {e : Expr} {es : List Expr}
theorem gs_callX (F : FnOk X.prog X.w K mg X.base (L2.CX X.prog X.w) k f fd ps (spD K mg n G)) (hr : Room k X.A) (hm : mg x = some (.ref f)) (hk : PySem.W.keepIn K (.ref f) = true) (hb : Binds K fd ps []) (tk : Takes X fun c d _ H => E0 c d H) (ha : GA K X (e :: es) ta fa)
    (hn : ArgN fa n) (hg : Gl X x := by rfl) (hdb : (x == ("__debug__" : Str)) = false := by decide) (he : starEach (e :: es) X.env = (false, eval e X.env) :: starEach es X.env := by rfl) (hpl : (backTo pos (starEach es X.env)).any (·.1) = false := by rfl)
    (hsw : swapsWith (.Call (.Name x p) (e :: es) [] pos) none pos'.line X.env = pure false := by rfl) (eK : X.K = K := by rfl) (eM : X.mg = mg := by rfl) :
    GS K X (WN mg E0) (.Expr (.Call (.Name x p) (e :: es) [] pos) pos') (tDrop (tCall (spD K mg n G) [] E0 ta)) (sCallX G fa) := by
  subst eK eM
  exact ⟨ps_expr (pe_call F hr hg hm hk hb .nil (passes_call tk fun _ _ _ _ z => z) ha.p hdb he hpl) hsw, ss_callX ha.s hn⟩
end
@[simp] theorem ev_srtSet {fa : EF} {ρ : En} : eSrtSet fa ρ = (fa ρ).bind fun r => match r.d with
  | .lst ds => (intsD ds).bind fun ns => if ns.length < 60 then some ⟨.lst ((uSet ns).map .int), .fr⟩ else none
  | _ => none := (rfl)
@[simp] theorem ev_lstD {kvs : List (List Key × D)} {m : Md} : cLstD [⟨.dT kvs, m⟩] = some ⟨.lst (kvs.map fun kv => keyT kv.1), .fr⟩ := (rfl)
@[simp] theorem ev_rev {fa : EF} {ρ : En} : eRev fa ρ = match fa ρ with
  | some ⟨.lst ds, m⟩ => some ⟨.lst ds.reverse, nw (itR ⟨.lst ds, m⟩)⟩
  | _ => none := (rfl)
@[simp] theorem ev_raise {n : Str} {ρ : En} : sRaise n ρ = some (.ex n) := (rfl)
@[simp] theorem ev_callX {G : FF} {fa : AF} {ρ : En} : sCallX G fa ρ = (fa ρ).bind fun rs => match G (rs.map R.d) with
  | some (.val _ _) => some (.nx ρ)
  | some (.nw _) => some (.nx ρ)
  | some (.exc n) => some (.ex n)
  | none => none := (rfl)
end Fb
set_option maxHeartbeats 2000000
/-! FbJ: x[k] = e and x.insert(k, e) on a list of one's own. -/
namespace Fb
open PySem PySem.Spec L2
variable [γ : GSt]
/-- x[e] = e2 -/
def sSetIx (j : Nat) (fk fv : EF) : SF := fun ρ => (fv ρ).bind fun rv => match ρ[j]? with
  | some (.own (.lst ds)) => (fk ρ).bind fun rk => match rk.d with
    | .int k => if okR rv && decide (0 ≤ k ∧ k < (ds.length : Int) ∧ ds.length < 100000) then some (.nx (ρ.set j (.own (.lst (ds.set k.toNat rv.d))))) else none
    | _ => none
  | _ => none
/-- x.insert(e, e2) -/
def sIns (j : Nat) (fk fv : EF) : SF := fun ρ => match ρ[j]? with
  | some (.own (.lst ds)) => (fk ρ).bind fun rk => (fv ρ).bind fun rv => match rk.d with
    | .int k => if okR rv && decide (0 ≤ k ∧ k < 100000 ∧ ds.length < 100000) then some (.nx (ρ.set j (.own (.lst (ds.take k.toNat ++ [rv.d] ++ ds.drop k.toNat))))) else none
    | _ => none
  | _ => none
section
variable {X : Cx} {K : PySem.W.Frag} {W : Str → Hp → Prop} {tk tv : TE} {fk fv : EF} {ke ve : Expr} {pos : Pos}
theorem ss_setIx {j : Nat} (hk : SemE K tk fk) (hv : SemE K tv fv) : SemS K W (tAsg tv (gSub (tVar j) tk rSetL)) (sSetIx j fk fv) := by
  intro Z B σ H ρ fl S e Dn w
  obtain ⟨rv, e1, e⟩ := Option.bind_eq_some_iff.mp e
  refine hv Z σ H ρ rv S.env e1 _ fun v H1 s1 qv => ?_
  split at e
  · rename_i ds e0
    obtain ⟨rk, e2, e⟩ := Option.bind_eq_some_iff.mp e
    split at e
    · rename_i k ek
      split at e
      · rename_i hc
        rw [Bool.and_eq_true, decide_eq_true_eq] at hc
        cases e
        have S1 := S.mono s1
        obtain ⟨a, vs, a1, a2, a3⟩ := own_lst S1.env e0
        refine ⟨.ref a, a1, ?_⟩
        refine hk Z σ H1 ρ rk S1.env e2 _ fun y H2 s2 qk => ?_
        have S2 := S1.mono s2
        obtain ⟨kd, km⟩ := rk
        cases ek
        have hy := (qk.opd S1.env.pok).int
        obtain ⟨a', us, b1, b2, b3⟩ := own_lst S2.env e0
        rw [a1] at b1
        cases b1
        have hd := ((qv.opd S.env.pok).mono s2).okR S2.env.pok hc.1
        have sm := same_own (Z := Z) (H := H2) (o := .lst (us.set k.toNat v)) e0 a1
        have hl := b3.length
        refine ⟨a, us, k, k.toNat, rfl, by rw [hy], b2, ?_, ?_⟩
        · have h1 : ¬ k < 0 := by omega
          have h2 : k < (us.length : Int) := by omega
          unfold ixN
          simp [h1, hc.2.1]
          omega
        · exact w σ _ (S2.upd e0 a1 ⟨_, upd_same, RpL.mono sm _ _ (RpL.set hd k.toNat b3)⟩)
      · cases e
    · cases e
  · cases e
theorem gs_setIx (j : Nat) {x : Str} {np sp : Pos} (hk : GE K X ke tk fk) (hv : GE K X ve tv fv) (hN : X.N[j]? = some x := by rfl) (hvi : Vis X.env.scope x := by first | exact Or.inl rfl | exact Or.inr (Or.inl rfl) | exact Or.inr (Or.inr rfl)) (hd : (x == ("__debug__" : Str)) = false := by decide)
    (hcd : (x == ("__classdict__" : Str)) = false := by decide) (hs : swapsWithSole [.Subscript (.Name x np) ke sp] ve pos.line X.env = pure false := by rfl) (hw : swappedStores [.Subscript (.Name x np) ke sp] ve X.env = pure none := by rfl)
    (h1 : (assignEach [.Subscript (.Name x np) ke sp] X.env).map (·.2) = [assign (.Subscript (.Name x np) ke sp) X.env] := by rfl)
    (ha : ∀ v, assign (.Subscript (.Name x np) ke sp) X.env v = (do
      let ov ← holding [v] (eval (.Name x np) X.env)
      let iv ← holding [v, ov] (eval ke X.env)
      standAt sp
      holding [v, ov, iv] (setItem ov iv v)
      release [v, ov, iv] []) := by intro _; rfl) :
    GS K X W (.Assign [.Subscript (.Name x np) ke sp] ve pos) (tAsg tv (gSub (tVar j) tk rSetL)) (sSetIx j fk fv) :=
  ⟨ps_asg hv.p (pg_sub (pe_var hN hvi hd hcd) hk.p set_list ha) hs hw h1, ss_setIx hk.s hv.s⟩
def rInsL : V → List V → Hp → VK → Prop := fun x vs H Q => ∃ (l : Addr) (xs : List V) (i : Int) (y : V), x = .ref l ∧ vs = [.int i, y] ∧ H l = some (.lst xs) ∧ xs.length < sizeLine ∧ 0 ≤ i ∧ i < 2 ^ 63 ∧ Q .non (upd H l (.lst (xs.take i.toNat ++ [y] ++ xs.drop i.toNat)))
theorem ss_ins {j : Nat} (hk : SemE K tk fk) (hv : SemE K tv fv) : SemS K W (tDrop (tBM K "list" rInsL (tVar j) (tCons tk (tCons tv tNil)))) (sIns j fk fv) := by
  intro Z B σ H ρ fl S e Dn w
  unfold sIns at e
  split at e
  · rename_i ds e0
    obtain ⟨rk, e2, e⟩ := Option.bind_eq_some_iff.mp e
    obtain ⟨rv, e1, e⟩ := Option.bind_eq_some_iff.mp e
    split at e
    · rename_i k ek
      split at e
      · rename_i hc
        rw [Bool.and_eq_true, decide_eq_true_eq] at hc
        cases e
        obtain ⟨a, vs, a1, a2, a3⟩ := own_lst S.env e0
        refine ⟨.ref a, a1, .inl ⟨rfl, _, SqL.of a2⟩, ?_⟩
        refine hk Z σ H ρ rk S.env e2 _ fun y H1 s1 qk => ?_
        have S1 := S.mono s1
        refine hv Z σ H1 ρ rv S1.env e1 _ fun v H2 s2 qv => ?_
        have S2 := S1.mono s2
        obtain ⟨kd, km⟩ := rk
        cases ek
        have hy := (qk.opd S.env.pok).int
        obtain ⟨a', us, b1, b2, b3⟩ := own_lst S2.env e0
        rw [a1] at b1
        cases b1
        have hd := (qv.opd S1.env.pok).okR S2.env.pok hc.1
        have sm := same_own (Z := Z) (H := H2) (o := .lst (us.take k.toNat ++ [v] ++ us.drop k.toNat)) e0 a1
        have hl := b3.length
        refine ⟨a, us, k, v, rfl, by rw [hy], b2, by rw [hl]; exact Nat.lt_trans hc.2.2.2 (by decide), hc.2.1, Int.lt_trans hc.2.2.1 (by decide), ?_⟩
        exact w σ _ (S2.upd e0 a1 ⟨_, upd_same, ((RpL.mono sm _ _ (RpL.take k.toNat b3)).append (.cons (Rp.mono sm _ _ hd) .nil)).append (RpL.mono sm _ _ (RpL.drop k.toNat b3))⟩)
      · cases e
    · cases e
  · cases e
theorem gs_ins (j : Nat) {x : Str} {np apos cpos : Pos} (hk : GE K X ke tk fk) (hv : GE K X ve tv fv) (hN : X.N[j]? = some x := by rfl) (hvi : Vis X.env.scope x := by first | exact Or.inl rfl | exact Or.inr (Or.inl rfl) | exact Or.inr (Or.inr rfl)) (hd : (x == ("__debug__" : Str)) = false := by decide)
    (hcd : (x == ("__classdict__" : Str)) = false := by decide) (hs : starEach [ke, ve] X.env = (false, eval ke X.env) :: starEach [ve] X.env := by rfl) (hs2 : starEach [ve] X.env = (false, eval ve X.env) :: starEach [] X.env := by rfl)
    (hbase : attributeBase (.Name x np) "insert" X.env (eval (.Name x np) X.env) = eval (.Name x np) X.env := by rfl)
    (hfew : ((backTo cpos (starEach [ke, ve] X.env)).all (fun x => !x.1) && (backToKw cpos (keywordEach [] X.env)).all (fun x => x.1.isSome) && decide (([ke, ve] : List Expr).length + ([] : List Keyword).length + (if ([] : List Keyword).isEmpty then 0 else 1) < 30)) = true := by rfl)
    (hline : (apos.endLine == cpos.line) = true := by rfl) (hplain : (backTo cpos (starEach [ve] X.env)).any (·.1) = false := by rfl) (hsw : swapsWith (.Call (.Attribute (.Name x np) "insert" apos) [ke, ve] [] cpos) none pos.line X.env = pure false := by rfl) (eK : X.K = K := by rfl) :
    GS K X W (.Expr (.Call (.Attribute (.Name x np) "insert" apos) [ke, ve] [] cpos) pos) (tDrop (tBM K "list" rInsL (tVar j) (tCons tk (tCons tv tNil)))) (sIns j fk fv) := by
  subst eK
  exact ⟨ps_expr (pe_bm PySem.F.plainAttrs_list PySem.F.slot_list_insert PySem.F.type_list_insert mt_insert (pe_var hN hvi hd hcd) (pa_cons hk.p (pa_cons hv.p pa_nil hs2) hs) hbase hfew hline hs hplain) hsw, ss_ins hk.s hv.s⟩
end
@[simp] theorem ev_setIx {j : Nat} {fk fv : EF} {ρ : En} : sSetIx j fk fv ρ = (fv ρ).bind fun rv => match ρ[j]? with
  | some (.own (.lst ds)) => (fk ρ).bind fun rk => match rk.d with
    | .int k => if okR rv && decide (0 ≤ k ∧ k < (ds.length : Int) ∧ ds.length < 100000) then some (.nx (ρ.set j (.own (.lst (ds.set k.toNat rv.d))))) else none
    | _ => none
  | _ => none := (rfl)
@[simp] theorem ev_ins {j : Nat} {fk fv : EF} {ρ : En} : sIns j fk fv ρ = match ρ[j]? with
  | some (.own (.lst ds)) => (fk ρ).bind fun rk => (fv ρ).bind fun rv => match rk.d with
    | .int k => if okR rv && decide (0 ≤ k ∧ k < 100000 ∧ ds.length < 100000) then some (.nx (ρ.set j (.own (.lst (ds.take k.toNat ++ [rv.d] ++ ds.drop k.toNat))))) else none
    | _ => none
  | _ => none := (rfl)
end Fb
set_option maxHeartbeats 4000000
/-! FbK: x in range(n), len(set(a tuple of ints)), list(reversed(a tuple)). -/
namespace Fb
open PySem PySem.Spec PyProof.Rows L2
variable [γ : GSt]
/-! ### in range(n) -/
section
variable {X : Cx} {K : PySem.W.Frag} {a e : Expr} {ta : TE} {tn : TA} {fa : EF} {fn : AF}
def rRg1 : List V → Hp → VK → Prop := fun vs H Q => ∃ j, vs = [V.int j] ∧ ∀ p, H p = none → Q (.ref p) (upd H p (.rng 0 j))
theorem cr_rg1 : CallR X (.type "range") rRg1 := by
  intro pins s σ H vs us Q I r h
  obtain ⟨j, e, q⟩ := h
  subst e
  cases r with
  | cons r1 r2 =>
    cases r2
    obtain ⟨t, rfl⟩ := r1
    refine PySem.call_range_1 ⟨.ref s.heap.objs.size, upd H s.heap.objs.size (.rng 0 j), I.laid (t' := s.toks + 1 + 1) (fun b o z => Heap.get?_push_of_some _ z) (Nat.le_refl _) ?_, rfl, q _ (I.hok.fresh (Nat.le_refl _))⟩
    exact ⟨s.toks, t, s.toks + 1, Heap.get?_push_size _ rfl⟩
def rInRg (neg : Bool) : R2 := fun x y H Q => ∃ (i : Int) (r : Addr) (n : Int), x = V.int i ∧ y = V.ref r ∧ H r = some (.rng 0 n) ∧ Q (.bl (neg != decide (0 ≤ i ∧ i < n))) H
theorem op_inRg : OpR X (compareOp .In) (rInRg false) := by
  intro pins s σ H x y v u Q I rx ry h
  obtain ⟨i, r, n, e1, e2, hr, q⟩ := h
  refine op_in_rng pins s σ H x y v u Q I rx ry ⟨i, r, 0, n, e1, e2, hr, ?_⟩
  rw [Bool.false_bne] at q
  exact q
theorem op_ninRg : OpR X (compareOp .NotIn) (rInRg true) := by
  intro pins s σ H x y v u Q I rx ry h
  obtain ⟨i, r, n, e1, e2, hr, q⟩ := h
  subst e1 e2
  obtain ⟨k, e3⟩ := rx
  have e4 : u = Value.ref r := ry
  subst e3 e4
  obtain ⟨w1, w2, w3, here⟩ := I.hok r _ hr
  have ty : s.TypeIs (.ref r) "range" := ⟨_, here, rfl⟩
  show wpAny _ _ (do return Value.bool (!(← contains (Value.ref r) (Value.int i k)))) _ _ s
  refine wpAny_bind (wpAny_contains_slot ty F.slot_range_contains (call_meets F.slot_range_contains ty F.entry_range_contains (F.args_range_contains_2 _ _) (q_contains r 0 n i w1 w2 w3 k) ⟨here, wpAny_truthy_bool ?_⟩))
  refine wpAny_pure ⟨.bl _, H, I, rfl, ?_⟩
  rw [place1]
  rw [Bool.true_bne] at q
  exact q
/-- a in range(n), or not in it -/
def eInRg1 (neg : Bool) (fa : EF) (fn : AF) : EF := fun ρ => (fa ρ).bind fun a => (fn ρ).bind fun ns => match a.d, ns with
  | .int i, [⟨.int n, _⟩] => some (ofB (neg != decide (0 ≤ i ∧ i < n)))
  | _, _ => none
theorem se_inRg {neg : Bool} (h : SemE K ta fa) (h2 : SemA K tn fn) : SemE K (tOp (rInRg neg) ta (tCB rRg1 tn)) (eInRg1 neg fa fn) := by
  intro Z σ H ρ r E e Q q
  obtain ⟨ra, e1, e⟩ := Option.bind_eq_some_iff.mp e
  obtain ⟨rs, e2, e⟩ := Option.bind_eq_some_iff.mp e
  split at e
  · rename_i i n m ei
    cases e
    refine h Z σ H ρ ra E e1 _ fun v H1 s1 rv => ?_
    refine h2 Z σ H1 ρ _ (E.mono s1) e2 _ fun vs H2 s2 r2 => ?_
    obtain ⟨rd, rm⟩ := ra
    cases ei
    have hv := (rv.opd E.pok).int
    cases r2 with
    | cons y1 y2 =>
      cases y2
      have hy := y1.int
      subst hv hy
      refine ⟨n, rfl, fun p hp => ⟨i, p, n, rfl, rfl, upd_same, ?_⟩⟩
      exact q _ _ ((s1.trans s2).trans (same_upd hp)) (.bl _)
  · cases e
theorem ge_inrg {p pos q : Pos} (hr : (X.mg "range") = none) (ha : GE K X a ta fa) (hn : GA K X [e] tn fn) (hg : Gl X "range" := by rfl) (hm : behindInMarks .In (.Call (.Name "range" p) [e] [] q) = false := by rfl)
    (he : starEach [e] X.env = (false, eval e X.env) :: starEach [] X.env := by rfl) (hpl : (backTo q (starEach [] X.env)).any (·.1) = false := by rfl) :
    GE K X (.Compare a [.In] [.Call (.Name "range" p) [e] [] q] pos) (tOp (rInRg false) ta (tCB rRg1 tn)) (eInRg1 false fa fn) :=
  ⟨pe_cmpR op_inRg ha.p (pe_callTy cr_rg1 hg hr (by decide +kernel) hn.p (by decide) (by decide) he hpl) hm, se_inRg ha.s hn.s⟩
theorem gt_inrg {p pos q : Pos} (hr : (X.mg "range") = none) (ha : GE K X a ta fa) (hn : GA K X [e] tn fn) (hg : Gl X "range" := by rfl) (hm : behindInMarks .In (.Call (.Name "range" p) [e] [] q) = false := by rfl)
    (he : starEach [e] X.env = (false, eval e X.env) :: starEach [] X.env := by rfl) (hpl : (backTo q (starEach [] X.env)).any (·.1) = false := by rfl) :
    GT K X (.Compare a [.In] [.Call (.Name "range" p) [e] [] q] pos) (tTest (tOp (rInRg false) ta (tCB rRg1 tn))) (toB (eInRg1 false fa fn)) :=
  ⟨pt_cmpR op_inRg ha.p (pe_callTy cr_rg1 hg hr (by decide +kernel) hn.p (by decide) (by decide) he hpl) hm, st_test (se_inRg ha.s hn.s)⟩
theorem gt_inrgN {p pos q : Pos} (hr : (X.mg "range") = none) (ha : GE K X a ta fa) (hn : GA K X [e] tn fn) (hg : Gl X "range" := by rfl) (hm : behindInMarks .NotIn (.Call (.Name "range" p) [e] [] q) = false := by rfl)
    (he : starEach [e] X.env = (false, eval e X.env) :: starEach [] X.env := by rfl) (hpl : (backTo q (starEach [] X.env)).any (·.1) = false := by rfl) :
    GT K X (.Compare a [.NotIn] [.Call (.Name "range" p) [e] [] q] pos) (tTest (tOp (rInRg true) ta (tCB rRg1 tn))) (toB (eInRg1 true fa fn)) :=
  ⟨pt_cmpR op_ninRg ha.p (pe_callTy cr_rg1 hg hr (by decide +kernel) hn.p (by decide) (by decide) he hpl) hm, st_test (se_inRg ha.s hn.s)⟩
end
/-! ### len(set(xs)) -/
theorem nd_len : ∀ {xs ys : List Int}, xs.Nodup → ys.Nodup → (∀ k, k ∈ xs ↔ k ∈ ys) → xs.length = ys.length := by
  intro xs ys h1 h2 h
  exact ((List.perm_ext_iff_of_nodup h1 h2).mpr h).length_eq
theorem uSet_nd (ns : List Int) : (uSet ns).Nodup := (uSet_lt ns).imp fun h => Int.ne_of_lt h
theorem setR_len {w : World} {h : Heap} {p : Addr} {ns : List Int} {c : Nat} (R : SetR w h p (fun j => decide (j ∈ ns)) c) : ∃ o es ep t, h.get? p = some o ∧ o.ExactSet ∧ o.data = .set es ep t ∧ t.fits es.size = true ∧ es.size = (uSet ns).length := by
  obtain ⟨o, es, ep, t, y1, y2, y3, y4, y5, y6, y7, y8, y9, y10⟩ := R
  refine ⟨o, es, ep, t, y1, y2, y3, y8, ?_⟩
  have : (es.toList.map keyOf).length = (uSet ns).length := nd_len y5 (uSet_nd ns) fun k => by rw [← y6 k, decide_eq_true_eq, uSet_mem]
  rw [← this, List.length_map, Array.length_toList]
def tLenSet (K : PySem.W.Frag) (ta : TE) : TE := fun σ H Q => ta σ H fun x H1 => ∃ (l : Addr) (ns : List Int), x = .ref l ∧ SqT K H1 l (ns.map V.int) ∧ ns.length < 60 ∧ Q (.int ((uSet ns).length : Nat)) H1
section
variable {X : Cx} {a : Expr} {ta : TE} {fa : EF} {p p2 q pos : Pos} {K : PySem.W.Frag}
theorem pe_lenSet (hc : X.calm = true) (hg : Gl X "len") (hm : X.mg "len" = none) (hg2 : Gl X "set") (hm2 : X.mg "set" = none) (ha : PE X a ta) (hbs : bootBuiltins "len" = some (.builtin "len") := by decide +kernel)
    (na : starEach [a] X.env = (false, eval a X.env) :: starEach [] X.env := by rfl) : PE X (.Call (.Name "len" p) [.Call (.Name "set" p2) [a] [] q] [] pos) (tLenSet X.K ta) := by
  refine ⟨fun pins s σ H Q I h => ?_⟩
  refine Call_ (ld_blt I hg hm hbs (callWith_builtin1 (args_cons ?_ rfl) rfl rfl))
  refine Call_ (ld_blt I hg2 hm2 boot_set (callWith_type1 (args_cons (thn (ha.run pins s σ H _ I h) fun v s1 ⟨x, H1, I1, r1, q1⟩ => args_nil ?_) na) na rfl))
  obtain ⟨l, ns, rfl, hq, hl, q1⟩ := q1
  cases r1
  obtain ⟨its, r, pl, hz⟩ := I1.tuple hq
  refine call_set_tupI ns (I1.ok.hd hc) pl (by simpa using ints_vals r) (by unfold scanBound; omega) fun h' tk c R hcn k => args_nil ?_
  have I2 : Inv X pins σ H1 { s1 with heap := h', toks := tk } := I1.kept k
  obtain ⟨o, es, ep, t, y1, y2, y3, y4, y5⟩ := setR_len R
  have hle := uSet_len ns
  refine call_len_set (s := { s1 with heap := h', toks := tk }) y1 y2 y3 y4 (by omega) ⟨.int ((uSet ns).length : Nat), H1, I2.kept (t' := tk + 1 + 1) (fun b o e => e), ⟨tk + 1, ?_⟩, q1⟩
  rw [y5]
/-- len(set(xs)), of a tuple of ints -/
def eLenSet (fa : EF) : EF := fun ρ => (fa ρ).bind fun r => match r.d with
  | .tup ds => (intsD ds).bind fun ns => if ns.length < 60 then some ⟨.int ((uSet ns).length : Nat), .av⟩ else none
  | _ => none
theorem se_lenSet (h : SemE K ta fa) : SemE K (tLenSet K ta) (eLenSet fa) := by
  intro Z σ H ρ r E e Q q
  obtain ⟨ra, e1, e⟩ := Option.bind_eq_some_iff.mp e
  split at e
  · rename_i ds ed
    obtain ⟨ns, e2, e⟩ := Option.bind_eq_some_iff.mp e
    split at e
    · rename_i hl
      cases e
      have hds := intsD_some e2
      subst hds
      refine h Z σ H ρ ra E e1 _ fun v H1 s1 rv => ?_
      obtain ⟨rd, rm⟩ := ra
      cases ed
      obtain ⟨b, vs, rfl, h1, h2, _⟩ := Opd.tupR (E.mono s1).pok (rv.opd E.pok)
      have e3 := h2.ints
      subst e3
      exact ⟨b, ns, rfl, h1, hl, q _ _ s1 (.int _)⟩
    · cases e
  · cases e
theorem ge_lenset (hm : X.mg "len" = none) (hm2 : X.mg "set" = none) (hc : X.calm = true) (ha : GE K X a ta fa) (hg : Gl X "len" := by rfl) (hg2 : Gl X "set" := by rfl) (hbs : bootBuiltins "len" = some (.builtin "len") := by decide +kernel)
    (na : starEach [a] X.env = (false, eval a X.env) :: starEach [] X.env := by rfl) (eK : X.K = K := by rfl) : GE K X (.Call (.Name "len" p) [.Call (.Name "set" p2) [a] [] q] [] pos) (tLenSet K ta) (eLenSet fa) := by
  subst eK
  exact ⟨pe_lenSet hc hg hm hg2 hm2 ha.p hbs na, se_lenSet ha.s⟩
end
@[simp] theorem ev_inRg1 {neg : Bool} {fa : EF} {fn : AF} {ρ : En} : eInRg1 neg fa fn ρ = ((fa ρ).bind fun a => (fn ρ).bind fun ns => match a.d, ns with
  | .int i, [⟨.int n, _⟩] => some (ofB (neg != decide (0 ≤ i ∧ i < n)))
  | _, _ => none) := (rfl)
@[simp] theorem ev_lenSet {fa : EF} {ρ : En} : eLenSet fa ρ = ((fa ρ).bind fun r => match r.d with
  | .tup ds => (intsD ds).bind fun ns => if ns.length < 60 then some ⟨.int ((uSet ns).length : Nat), .av⟩ else none
  | _ => none) := (rfl)
end Fb
set_option maxHeartbeats 4000000
/-! FbL: list(reversed(a tuple)). -/
namespace Fb
open PySem PySem.Spec PyProof.Rows L2 RT
variable [γ : GSt]
section
variable {P : Program} {w : World} {A : Around} {E : Value → Shared → Prop} {s : Shared}
theorem rv_nolen : typeLookup (.type "reversed") "__len__" = pure none := by rw [typeLookup_type, builtinLookup_eq_fast]; kernel_rfl
theorem rv_slot : Slot "reversed" "__length_hint__" "reversed.__length_hint__" :=
  .of (owner := "reversed") (n := "__length_hint__") (by rw [typeLookup_type, builtinLookup_eq_fast]; kernel_rfl) (by decide +kernel) (by decide +kernel) (by decide +kernel) (by first | exact .inl (by decide +kernel) | exact .inr (by decide +kernel)) (by rw [isSubtype_type]; kernel_rfl)
theorem rv_entry : entryFor table "reversed.__length_hint__" = some Builtin.«reversed.__length_hint__» := entryFor_of_tree (by kernel_rfl)
theorem rv_args (x : Value) : argsOk "reversed.__length_hint__" ⟨[x], []⟩ := by
  unfold argsOk
  rw [signature?_of (id := "reversed.__length_hint__") (n := "__length_hint__".toList.reverse) (o := "reversed".toList.reverse) (by kernel_rfl) owner_rt]
  kernel_rfl
/-- what list() asks of a reversed tuple ahead of its walk -/
theorem rv_hint {I t : Addr} {us : Array Value} {Q : Bool → Shared → Prop} (at0 : IsRt s.heap I t ((us.size : Int) - 1)) (tp : IsTup s.heap t us) (small : us.size < 1000) (fin : ∀ b tk, Q b { s with toks := tk }) :
    wpAny (model P w) A (Builtin.List.listLengthHint (.ref I)) Q E s := by
  have ty := at0.typeIs
  obtain ⟨o, ho, hc, hd⟩ := id at0
  unfold Builtin.List.listLengthHint
  refine wpAny_bind (wpAny_specialOf ty rv_nolen ?_)
  show wpAny _ A (specialOf (Value.ref I) (Str.ofString "__length_hint__") >>= _) _ _ _
  refine wpAny_bind (wpAny_specialOf ty rv_slot.lookup ?_)
  generalize keep : ("reversed.__length_hint__" : String) = id0
  wp_delta
  rw [show splitId id0 = some ("reversed", "__length_hint__") from by subst keep; decide +kernel]
  subst keep
  refine wpAny_bind (wpAny_isInstance (b := true) ty F.sub_reversed_self ?_)
  refine wpAny_ite_split (fun no => absurd no (by decide)) fun _ => ?_
  refine wpAny_ite_split (fun no => absurd no (by decide +kernel)) fun _ => ?_
  refine wpAny_bind (wpAny_rule ?_)
  refine wpAny_bind (wpAny_of_eq (rv_slot.bind _) ?_)
  refine wpAny_bind (wpAny_attempt (wpAny_call_entry rv_slot ty rv_entry ?_ (rv_args _)))
  unfold Builtin.«reversed.__length_hint__»
  refine wpAny_bind (wpAny_of_eq (a := Value.ref I) rfl ?_)
  refine wpAny_bind (wpAny_field ho hd (x := .ref t) rfl ?_)
  refine wpAny_ite_split (fun no => False.elim (Bool.false_ne_true no)) fun _ => ?_
  refine wpAny_bind (len_tuple tp (by omega) ?_)
  refine wpAny_bind (wpAny_of_eq (a := some ((us.size : Nat) : Int)) rfl ?_)
  refine wpAny_bind (wpAny_field (s := { s with toks := s.toks + 1 + 1 }) ho hd (x := rawInt ((us.size : Int) - 1)) rfl ?_)
  refine wpAny_ite_split (fun no => absurd no (by omega)) fun _ => ?_
  unfold retInt
  refine wpAny_bind (wpAny_mkInt (wpAny_pure ⟨_, rfl, ?_⟩))
  dsimp only
  refine wpAny_bind (wpAny_of_eq (a := some ((us.size : Int) - 1 + 1)) rfl ?_)
  dsimp only
  have f1 : Builtin.List.listFitsIndex ((us.size : Int) - 1 + 1) = true := by
    unfold Builtin.List.listFitsIndex
    rw [Bool.and_eq_true, decide_eq_true_eq, decide_eq_true_eq]
    omega
  have f2 : Builtin.List.listTooLong ((us.size : Int) - 1 + 1).toNat = false := by
    unfold Builtin.List.listTooLong
    rw [decide_eq_false_iff_not, sizeLine_eq]
    omega
  have f3 : ¬ ((us.size : Int) - 1 + 1 < 0) := by omega
  rw [f1, f2]
  simp only [f3, Bool.not_true, Bool.false_eq_true, if_false]
  exact wpAny_pure (fin _ _)
/-- the walk of a reversed tuple -/
theorem rv_walks (hh : A.handled = none) (I t : Addr) (ne : t ≠ I) (us : Array Value) (small : us.size < 1000) :
    Walks P w A I [I, t] [I] us.size (fun i v => us[us.size - 1 - i]? = some v) fun i h => i ≤ us.size ∧ IsRt h I t ((us.size : Int) - 1 - (i : Int)) ∧ IsTup h t us where
  sub b hb := List.mem_cons.mpr (.inl (List.mem_singleton.mp hb))
  frame i h h' x k := ⟨x.1, x.2.1.at (k I List.mem_cons_self), by
    obtain ⟨o, y, z⟩ := x.2.2
    exact ⟨o, k t (List.mem_cons_of_mem _ List.mem_cons_self) o y, z⟩⟩
  item i s Q E lt x fin := by
    obtain ⟨x1, x2, x3⟩ := x
    obtain ⟨j, ej⟩ : ∃ j : Nat, j = us.size - 1 - i := ⟨_, rfl⟩
    have a1 : (us.size : Int) - 1 - (i : Int) = (j : Int) := by omega
    rw [a1] at x2
    have hj : j < us.size := by omega
    have a2 : us[j]? = some us[j] := Array.getElem?_eq_getElem hj
    refine next_rt_item x2 x3 a2 (by rw [sizeLine_eq]; omega) fun h' y1 y2 => fin us[j] h' _ (by rw [← ej]; exact a2) ⟨lt, ?_, ?_⟩ fun b o nb e => ?_
    · have a3 : (us.size : Int) - 1 - ((i + 1 : Nat) : Int) = (j : Int) - 1 := by omega
      rw [a3]
      exact y1
    · obtain ⟨o, y, z⟩ := x3
      exact ⟨o, (y2.2 t ne).trans y, z⟩
    · exact y2.extBut b o (fun z => nb (List.mem_singleton.mpr z)) e
  done s Q E x fin := by
    have a1 : (us.size : Int) - 1 - (us.size : Int) = -1 := by omega
    have x2 := x.2.1
    rw [a1] at x2
    exact next_rt_end hh x2 fun h' k => fin h' _ fun b o nb e => k b o (fun z => nb (List.mem_singleton.mpr z)) e
  self i s Q E x fin := iter_rt x.2.1 fin
abbrev nuL (c : Nat) : Obj := { cls := .type "list", data := .seq #[] c }
/-- list(reversed(t)) -/
theorem rv_list {I t : Addr} {us : Array Value} {Q : Value → Shared → Prop} (hh : A.handled = none) (at0 : IsRt s.heap I t ((us.size : Int) - 1)) (tp : IsTup s.heap t us) (ne : t ≠ I) (small : us.size < 1000)
    (fin : ∀ h' tk acc c, (∀ b o, b ≠ I → s.heap.get? b = some o → h'.get? b = some o) → h'.get? s.heap.objs.size = some { cls := .type "list", dict := none, data := .seq acc c, slots := #[] } → ItemsOf (fun i v => us[us.size - 1 - i]? = some v) acc us.size → Q (.ref s.heap.objs.size) { s with heap := h', toks := tk }) :
    wpAny (model P w) A (call (.type "list") [.ref I]) Q E s := by
  have inI : I < s.heap.objs.size := by obtain ⟨o, ho, _⟩ := at0; exact Heap.lt_size ho
  have inT : t < s.heap.objs.size := by obtain ⟨o, ho, _⟩ := tp; exact Heap.lt_size ho
  obtain ⟨L, eL⟩ : ∃ L, L = s.heap.objs.size := ⟨_, rfl⟩
  have nLI : I ≠ L := by rw [eL]; exact Nat.ne_of_lt inI
  have nLT : t ≠ L := by rw [eL]; exact Nat.ne_of_lt inT
  refine callType_codes (Q₁ := fun x s1 => x = .ref L ∧ s1 = { s with heap := s.heap.push (nuL 0) }) F.called_list (F.typeCall_list_1 _) F.entry_list_init (code_list_new _ ⟨by rw [eL], rfl⟩) fun x s1 y => ?_
  obtain ⟨e1, e2⟩ := y
  subst e1 e2
  have new0 : (s.heap.push (nuL 0)).get? L = some (nuL 0) := by rw [eL]; exact Heap.get?_push_size _ rfl
  have old0 : ∀ b o, s.heap.get? b = some o → (s.heap.push (nuL 0)).get? b = some o := fun b o e => Heap.get?_push_of_some _ e
  refine ⟨⟨_, new0, rfl⟩, F.args_list_init_2 _ _, ?_⟩
  show wpAny _ A.in1.in1 (do
    let old ← Builtin.List.listItems (.ref L)
    Builtin.List.listUpdate (.ref L) (fun _ => #[])
    letGo old.toList.reverse
    Builtin.List.listExtendWith (.ref L) (.ref I) .none) _ _ _
  refine wpAny_bind ?_
  unfold Builtin.List.listItems
  refine wpAny_bind (wpAny_seqItems new0 rfl (wpAny_pure ?_))
  refine wpAny_bind ?_
  show wpAny _ A.in1.in1 (updateSeq L (fun _ => #[])) _ _ _
  refine wpAny_updateSeq new0 rfl ?_
  obtain ⟨g, eg⟩ : ∃ g, g = (s.heap.push (nuL 0)).update L (Obj.mapSeq fun _ => (#[] : Array Value)) := ⟨_, rfl⟩
  obtain ⟨k1, new1⟩ : ∃ k, g.get? L = some (nuL k) := by
    rw [eg]
    exact ⟨_, Heap.get?_update_self (Obj.mapSeq fun _ => (#[] : Array Value)) new0 rfl⟩
  have old1 : ∀ b o, b ≠ L → s.heap.get? b = some o → g.get? b = some o := fun b o nb e => by
    rw [eg, Heap.get?_update_other _ _ (Ne.symm nb)]
    exact old0 b o e
  rw [← eg]
  clear eg
  refine wpAny_bind (wpAny_letGo ?_)
  have at1 : IsRt g I t ((us.size : Int) - 1) := at0.at fun o e => old1 I o nLI e
  have tp1 : IsTup g t us := by
    obtain ⟨o, y, z⟩ := tp
    exact ⟨o, old1 t o nLT y, z⟩
  have ty1 : Shared.TypeIs { s with heap := g } (.ref I) "reversed" := at1.typeIs (s := { s with heap := g })
  unfold Builtin.List.listExtendWith
  refine wpAny_bind (wpAny_typeOf ty1 ?_)
  have c1 : Builtin.List.listSameRef (.ref L) (.ref I) = false := by
    simp [Builtin.List.listSameRef, Ne.symm nLI]
  have c2 : (Value.type "reversed" == Value.type "list") = false := by decide
  have c3 : (Value.type "reversed" == Value.type "tuple") = false := by decide
  simp only [c1, c2, c3, Bool.or_false, Bool.false_eq_true, if_false]
  refine wpAny_bind (iter_rt (s := { s with heap := g }) at1 ?_)
  refine wpAny_bind (wpAny_holding (rv_hint (s := { s with heap := g }) at1 tp1 small fun b tk => ?_))
  have W := (rv_walks (P := P) (w := w) (A := A.in1.in1) (by simp [hh]) I t ne us small).toS
  have hz : us.size ≤ sizeLine := by rw [sizeLine_eq]; omega
  have nf : L ∉ [I, t] := fun z => by
    rcases List.mem_cons.mp z with z | z
    · exact nLI z.symm
    · exact nLT (List.mem_singleton.mp z).symm
  have go : ∀ (g' : Heap) (k tk' : Nat), g'.get? L = some (nuL k) → (∀ b o, b ≠ L → g.get? b = some o → g'.get? b = some o) →
      codeAny (model P w) A.in1 (.builtin "list.extend.loop" ⟨[.ref L, .ref I, .none], []⟩) (wants (fun r s₂ => r = .none ∧ Q (.ref L) s₂) E) { s with heap := g', toks := tk' } := fun g' k tk' here oth => by
    have zero : (us.size : Int) - 1 - ((0 : Nat) : Int) = (us.size : Int) - 1 := by omega
    have tp2 : IsTup g' t us := by
      obtain ⟨o, y, z⟩ := tp1
      exact ⟨o, oth t o nLT y, z⟩
    refine codeAny_extend_loopS W hz L nf .none us.size 0 _ #[] k rfl (Nat.zero_le _) ⟨Nat.zero_le _, ?_, tp2⟩ here (ItemsOf.nil _) fun s' acc c mv at2 its => ?_
    · rw [zero]
      exact at1.at fun o e => oth I o nLI e
    · rw [Moved.eq_with mv]
      subst eL
      refine ⟨rfl, fin s'.heap s'.toks acc c (fun b o nb e => mv.heap b o (fun z => ?_) (oth b o (Nat.ne_of_lt (Heap.lt_size e)) (old1 b o (Nat.ne_of_lt (Heap.lt_size e)) e))) at2 its⟩
      rcases List.mem_cons.mp z with z | z
      · exact Nat.ne_of_lt (Heap.lt_size e) z
      · exact nb (List.mem_singleton.mp z)
  refine wpAny_ite_split (fun _ => ?_) fun _ => wpAny_pure ⟨plainId_quiet F.plain_extend_loop _, go g k1 tk new1 fun b o _ e => e⟩
  refine wpAny_bind (wpAny_rule (wpAny_bind ?_))
  show wpAny _ A.in1.in1 (updateSeq L (·.push .none) >>= fun _ => updateSeq L (·.pop)) _ _ _
  refine wpAny_bind (wpAny_updateSeq new1 rfl ?_)
  have new2 := Heap.get?_update_self (Obj.mapSeq (·.push Value.none)) new1 rfl
  refine wpAny_updateSeq (hz := by seq_fits) new2 rfl ?_
  have new3 := Heap.get?_update_self (Obj.mapSeq (·.pop)) new2 rfl
  refine wpAny_pure ⟨plainId_quiet F.plain_extend_loop _, go _ _ _ new3 fun b o nb e => ?_⟩
  rw [Heap.get?_update_other _ _ (Ne.symm nb), Heap.get?_update_other _ _ (Ne.symm nb)]
  exact e
end
/-! ### list(reversed(xs)) -/
def tLstRev (K : PySem.W.Frag) (ta : TE) : TE := fun σ H Q => ta σ H fun x H1 => ∃ (l : Addr) (vs : List V), x = .ref l ∧ SqT K H1 l vs ∧ vs.length < 1000 ∧ ∀ p, H1 p = none → Q (.ref p) (upd H1 p (.lst vs.reverse))
section
variable {X : Cx} {K : PySem.W.Frag} {a : Expr} {ta : TE} {fa : EF} {p p2 q pos : Pos}
theorem pe_lstRev (hc : X.calm = true) (hg : Gl X "list") (hm : X.mg "list" = none) (hg2 : Gl X "reversed") (hm2 : X.mg "reversed" = none) (ha : PE X a ta) (hbs : bootBuiltins "list" = some (.type "list") := by decide +kernel)
    (na : starEach [a] X.env = (false, eval a X.env) :: starEach [] X.env := by rfl) : PE X (.Call (.Name "list" p) [.Call (.Name "reversed" p2) [a] [] q] [] pos) (tLstRev X.K ta) := by
  refine ⟨fun pins s σ H Q I h => ?_⟩
  refine Call_ (ld_blt I hg hm hbs (callWith_type1 (args_cons ?_ rfl) rfl rfl))
  refine Call_ (ld_blt I hg2 hm2 boot_reversed (callWith_type1 (args_cons (thn (ha.run pins s σ H _ I h) fun v s1 ⟨x, H1, I1, r1, q1⟩ => args_nil ?_) na) na rfl))
  obtain ⟨l, vs, rfl, hq, hl, q1⟩ := q1
  cases r1
  obtain ⟨its, rv, pl, hz⟩ := I1.tuple hq
  have hn := rv.length
  have sz : its.toArray.size = its.length := List.size_toArray
  have lt : l < s1.heap.objs.size := by obtain ⟨o, ho, _⟩ := id pl; exact Heap.lt_size ho
  obtain ⟨f0, f1, f2, f3, f4, f5⟩ := I1.fpOk (H' := H1) (b := s1.heap.objs.size) (Nat.le_refl _) (I1.hok.fresh (Nat.le_refl _))
  refine call_reversed_tup pl (fun A E Q k => len_tuple pl (by omega) k) (args_nil ?_)
  refine rv_list (s := { s1 with heap := s1.heap.push (rtObj l ((its.toArray.size : Int) - 1)), toks := s1.toks + 1 + 1 }) (t := l) (us := its.toArray) (I1.ok.hd hc) ⟨_, Heap.get?_push_size _ rfl, rfl, rfl⟩ ?_ (Nat.ne_of_lt lt) (by omega) fun h' tk acc c k at2 its2 => ?_
  · obtain ⟨o, y, z⟩ := id pl
    exact ⟨o, Heap.get?_push_of_some _ y, z⟩
  have whole : ∀ b o, s1.heap.get? b = some o → h'.get? b = some o := fun b o e => k b o (Nat.ne_of_lt (Heap.lt_size e)) (Heap.get?_push_of_some _ e)
  have le : s1.heap.objs.size ≤ (s1.heap.push (rtObj l ((its.toArray.size : Int) - 1))).objs.size := by rw [Heap.size_push]; exact Nat.le_succ _
  have fits : vs.reverse.length ≤ sizeLine := by rw [List.length_reverse]; exact hz
  refine ⟨.ref (s1.heap.push (rtObj l ((its.toArray.size : Int) - 1))).objs.size, upd H1 _ (.lst vs.reverse), I1.laid (t' := tk) whole le ⟨fits, acc.toList, c, vals_rev rv its2, ?_⟩, rfl, q1 _ (I1.hok.fresh le)⟩
  rw [Array.toArray_toList]
  exact at2
/-- list(reversed(xs)), of a tuple -/
def eLstRev (fa : EF) : EF := fun ρ => match fa ρ with
  | some ⟨.tup ds, m⟩ => if ds.length < 1000 then some ⟨.lst ds.reverse, nw (itR ⟨.tup ds, m⟩)⟩ else none
  | _ => none
theorem se_lstRev (h : SemE K ta fa) : SemE K (tLstRev K ta) (eLstRev fa) := by
  intro Z σ H ρ r E e Q q
  unfold eLstRev at e
  split at e
  · rename_i ds m e0
    split at e
    · rename_i hl
      cases e
      refine h Z σ H ρ _ E e0 _ fun v H1 s1 rv => ?_
      obtain ⟨b, vs, rfl, h1, h2, h3⟩ := Opd.tupR (E.mono s1).pok (rv.opd E.pok)
      exact ⟨b, vs, rfl, h1, by rw [h2.length]; exact hl, fun p hp => q _ _ (s1.trans (same_upd hp)) (Res.newL s1.toSme hp h2.reverse fun z => (h3 z).reverse)⟩
    · cases e
  · cases e
theorem ge_lstrev (hm : X.mg "list" = none) (hm2 : X.mg "reversed" = none) (hc : X.calm = true) (ha : GE K X a ta fa) (hg : Gl X "list" := by rfl) (hg2 : Gl X "reversed" := by rfl) (hbs : bootBuiltins "list" = some (.type "list") := by decide +kernel)
    (na : starEach [a] X.env = (false, eval a X.env) :: starEach [] X.env := by rfl) (eK : X.K = K := by rfl) : GE K X (.Call (.Name "list" p) [.Call (.Name "reversed" p2) [a] [] q] [] pos) (tLstRev K ta) (eLstRev fa) := by
  subst eK
  exact ⟨pe_lstRev hc hg hm hg2 hm2 ha.p hbs na, se_lstRev ha.s⟩
@[simp] theorem ev_lstRev {fa : EF} {ρ : En} : eLstRev fa ρ = (match fa ρ with
  | some ⟨.tup ds, m⟩ => if ds.length < 1000 then some ⟨.lst ds.reverse, nw (itR ⟨.tup ds, m⟩)⟩ else none
  | _ => none) := (rfl)
end
end Fb
set_option maxHeartbeats 4000000
/-! FbM: for k in d, d one's own, read in the body and not written; the body keeps d's name. -/
namespace Fb
open PySem PySem.Spec L2
variable [γ : GSt]
/-! ### statements that keep some slots -/
def Kp (is : List Nat) (σ σ' : L2.St) : Prop := ∀ i ∈ is, σ'[i]? = σ[i]?
theorem Kp.refl (is : List Nat) (σ : L2.St) : Kp is σ σ := fun _ _ => rfl
theorem Kp.trans {is : List Nat} {σ σ1 σ2 : L2.St} (h : Kp is σ σ1) (h' : Kp is σ1 σ2) : Kp is σ σ2 := fun i hi => (h' i hi).trans (h i hi)
theorem Kp.set {is : List Nat} {σ : L2.St} {j : Nat} {x : Option V} (h : j ∉ is) : Kp is σ (σ.set j x) := fun i hi => set_get_ne fun e => h (by rw [← e]; exact hi)
def WantK (K : PySem.W.Frag) (W : Str → Hp → Prop) (is : List Nat) (Z : Addr → Prop) (B : Hp) (σ : L2.St) (Dn : Ends) : Fl → Prop
  | .nx ρ' => ∀ (σ' : L2.St) (H' : Hp), StOk K Z B H' σ' ρ' → Kp is σ σ' → Dn.nx σ' H'
  | .bk ρ' => ∀ (σ' : L2.St) (H' : Hp), StOk K Z B H' σ' ρ' → Kp is σ σ' → Dn.bk σ' H'
  | .ct ρ' => ∀ (σ' : L2.St) (H' : Hp), StOk K Z B H' σ' ρ' → Kp is σ σ' → Dn.ct σ' H'
  | .rt d fr => ∀ v H, RetOk K Z B H v d fr → Dn.rt v H
  | .ex n => ∀ H, Sme B H → TabsK K H → W n H
  | .rn d => ∀ v H, RnOk K B H v d → Dn.rt v H
def SemSK (K : PySem.W.Frag) (W : Str → Hp → Prop) (is : List Nat) (t : TS) (f : SF) : Prop :=
  ∀ (Z : Addr → Prop) (B : Hp) (σ : L2.St) (H : Hp) (ρ : En) (fl : Fl), StOk K Z B H σ ρ → f ρ = some fl → ∀ Dn : Ends, WantK K W is Z B σ Dn fl → t Dn σ H
structure GSK (K : PySem.W.Frag) (X : Cx) (W : Str → Hp → Prop) (is : List Nat) (st : Stmt) (t : TS) (f : SF) : Prop where
  p : PS X st t
  s : SemSK K W is t f
structure GSKs (K : PySem.W.Frag) (X : Cx) (W : Str → Hp → Prop) (is : List Nat) (st : List Stmt) (t : TS) (f : SF) : Prop where
  p : PSs X st t
  s : SemSK K W is t f
def SemGK (K : PySem.W.Frag) (is : List Nat) (g : TG) (f : GF) : Prop := ∀ (Z : Addr → Prop) (B : Hp) (σ : L2.St) (H : Hp) (ρ ρ' : En) (v : V) (r : R), StOk K Z B H σ ρ → Opd K (Pz Z σ ρ) H v r → f r ρ = some ρ' → ∀ Q : L2.St → Hp → Prop, (∀ σ', StOk K Z B H σ' ρ' → Kp is σ σ' → Q σ' H) → g v σ H Q
structure GGK (K : PySem.W.Frag) (X : Cx) (is : List Nat) (e : Expr) (g : TG) (f : GF) : Prop where
  p : PG X e g
  s : SemGK K is g f
/-- a statement whose rule itself shows that it keeps them -/
def KeepT (is : List Nat) (t : TS) : Prop := ∀ (D : Ends) (σ : L2.St) (H : Hp), t ⟨fun σ' H' => Kp is σ σ' → D.nx σ' H', D.rt, fun σ' H' => Kp is σ σ' → D.bk σ' H', fun σ' H' => Kp is σ σ' → D.ct σ' H'⟩ σ H → t D σ H
section
variable {K : PySem.W.Frag} {W : Str → Hp → Prop} {X : Cx} {is : List Nat} {j : Nat} {te : TE} {fe : EF} {t u : TS} {f g : SF}
theorem sk_of (h : SemS K W t f) (k : KeepT is t) : SemSK K W is t f := by
  intro Z B σ H ρ fl S e Dn w
  refine k Dn σ H (h Z B σ H ρ fl S e _ ?_)
  cases fl with
  | nx ρ' => exact fun σ' H' S' q => w σ' H' S' q
  | bk ρ' => exact fun σ' H' S' q => w σ' H' S' q
  | ct ρ' => exact fun σ' H' S' q => w σ' H' S' q
  | rt d fr => exact w
  | ex n => exact w
  | rn d => exact w
theorem kp_imp {is : List Nat} {σ σ' : L2.St} {P : Prop} (h : Kp is σ σ') : (Kp is σ σ' → P) = P := propext ⟨fun q => q h, fun q _ => q⟩
theorem kt_next : KeepT is tNext := fun D σ H h => h (Kp.refl is σ)
theorem kt_brk : KeepT is tBreak := fun D σ H h => h (Kp.refl is σ)
theorem kt_cont : KeepT is tCont := fun D σ H h => h (Kp.refl is σ)
theorem kt_ret : KeepT is (tRet te) := fun D σ H h => h
theorem kt_drop : KeepT is (tDrop te) := fun D σ H h => by
  unfold tDrop at *
  simpa only [kp_imp (Kp.refl is σ)] using h
theorem kt_sub {to ti : TE} {ts : TSet} : KeepT is (tAsg te (gSub to ti ts)) := fun D σ H h => by
  unfold tAsg gSub at *
  simpa only [kp_imp (Kp.refl is σ)] using h
theorem kt_set (hj : j ∉ is) : KeepT is (tAsg te (gName j)) := fun D σ H h => by
  unfold tAsg gName at *
  simpa only [kp_imp (Kp.set hj)] using h
theorem kt_aug {ti : TIp} (hj : j ∉ is) : KeepT is (tAug j te ti) := fun D σ H h => by
  unfold tAug at *
  simpa only [kp_imp (Kp.set hj)] using h
theorem sk_seq (h1 : SemSK K W is t f) (h2 : SemSK K W is u g) : SemSK K W is (tSeq t u) (sSeq f g) := by
  intro Z B σ H ρ fl S e Dn w
  unfold sSeq at e
  split at e
  · rename_i ρ' e1
    refine h1 Z B σ H ρ _ S e1 { Dn with nx := u Dn } fun σ' H' S' k => ?_
    refine h2 Z B σ' H' ρ' fl S' e Dn ?_
    cases fl with
    | nx ρ2 => exact fun σ2 H2 S2 k2 => w σ2 H2 S2 (k.trans k2)
    | bk ρ2 => exact fun σ2 H2 S2 k2 => w σ2 H2 S2 (k.trans k2)
    | ct ρ2 => exact fun σ2 H2 S2 k2 => w σ2 H2 S2 (k.trans k2)
    | rt d fr => exact w
    | ex n => exact w
    | rn d => exact w
  · rename_i hn
    refine h1 Z B σ H ρ fl S e { Dn with nx := u Dn } ?_
    cases fl with
    | nx ρ' => exact absurd e (hn ρ')
    | bk ρ' => exact w
    | ct ρ' => exact w
    | rt d fr => exact w
    | ex n => exact w
    | rn d => exact w
theorem sk_if {tc : TT} {c : TF} (hc : SemT K tc c) (h1 : SemSK K W is t f) (h2 : SemSK K W is u g) : SemSK K W is (tIfS tc t u) (sIf c f g) := by
  intro Z B σ H ρ fl S e Dn w
  unfold sIf at e
  split at e
  · rename_i e1
    refine hc Z σ H ρ _ S.env e1 _ fun H' s => ?_
    rw [if_pos rfl]
    exact h1 Z B σ H' ρ fl (S.mono s) e Dn w
  · rename_i e1
    refine hc Z σ H ρ _ S.env e1 _ fun H' s => ?_
    rw [if_neg Bool.false_ne_true]
    exact h2 Z B σ H' ρ fl (S.mono s) e Dn w
  · cases e
theorem sgk_name (hj : j ∉ is) : SemGK K is (gName j) (tgName j) := by
  intro Z B σ H ρ ρ' v r S h e Q q
  unfold tgName at e
  split at e
  · rename_i c
    cases e
    exact q _ (S.setSh (h.okR S.env.pok c.1) c.2) (Kp.set hj)
  · cases e
theorem sgk_names : ∀ js : List Nat, (∀ j ∈ js, j ∉ is) → ∀ (Z : Addr → Prop) (B : Hp) (σ : L2.St) (H : Hp) (ρ ρ' : En) (vs : List V) (ds : List D) (P : Addr → Prop), StOk K Z B H σ ρ → (∀ b, Pz Z σ ρ b → P b) → RpL K (hide P H) vs ds → tgNames js ds ρ = some ρ' → ∀ Q : L2.St → Hp → Prop, (∀ σ', StOk K Z B H σ' ρ' → Kp is σ σ' → Q σ' H) → gNames js vs σ H Q
  | [], _ => by
    intro Z B σ H ρ ρ' vs ds P S hP h e Q q
    cases ds with
    | nil =>
      cases h
      cases e
      exact ⟨rfl, q σ S (Kp.refl is σ)⟩
    | cons d r => cases e
  | j :: js, hi => by
    intro Z B σ H ρ ρ' vs ds P S hP h e Q q
    cases ds with
    | nil => cases e
    | cons d r =>
      cases h with
      | cons h1 h2 =>
        unfold tgNames at e
        split at e
        · rename_i c
          have S' := S.setSh (Rp.mono (hide_mono (fun b _ _ q => hP b q) fun _ _ _ q => q) _ _ h1) c
          refine ⟨_, _, rfl, ?_⟩
          exact sgk_names js (fun k hk => hi k (List.mem_cons_of_mem _ hk)) Z B _ H _ ρ' _ r P S' (fun b z => hP b (z.imp id ow_setSh)) h2 e Q fun σ' S2 k => q σ' S2 ((Kp.set (hi j List.mem_cons_self)).trans k)
        · cases e
theorem sgk_tup (js : List Nat) (hi : ∀ j ∈ js, j ∉ is) : SemGK K is (gTup K js.length (gNames js)) (tgTup js) := by
  intro Z B σ H ρ ρ' v r S h e Q q
  unfold tgTup at e
  split at e
  · rename_i ds m
    split at e
    · rename_i c
      obtain ⟨a, vs, h1, h2, h3, h4⟩ := Opd.tupR S.env.pok h
      have len : ∀ (is : List Nat) (ds : List D) (ρ : En), tgNames is ds ρ = some ρ' → is.length = ds.length := by
        intro is
        induction is with
        | nil => intro ds ρ e; cases ds with
          | nil => rfl
          | cons d r => cases e
        | cons i is ih => intro ds ρ e; cases ds with
          | nil => cases e
          | cons d r =>
            unfold tgNames at e
            split at e
            · exact congrArg (· + 1) (ih r _ e)
            · cases e
      refine ⟨a, vs, h1, h2, by rw [h3.length, len js ds ρ e], ?_⟩
      exact sgk_names js hi Z B σ H ρ ρ' vs ds (Pz Z σ ρ) S (fun _ z => z) (h4 c) e Q q
    · cases e
  · cases e
variable {st : Stmt} {rest : List Stmt} {e : Expr} {gg : TG} {gf : GF}
theorem gk_nil : GSKs K X W is [] tNext sNil := ⟨pss_nil, sk_of ss_nil kt_next⟩
theorem gk_cons (h1 : GSK K X W is st t f) (h2 : GSKs K X W is rest u g) : GSKs K X W is (st :: rest) (tSeq t u) (sSeq f g) := ⟨pss_cons h1.p h2.p, sk_seq h1.s h2.s⟩
theorem gk_one (h1 : GSK K X W is st t f) : GSKs K X W is [st] t f := ⟨pss_one h1.p, h1.s⟩
theorem gk_of (h : GS K X W st t f) (k : KeepT is t) : GSK K X W is st t f := ⟨h.p, sk_of h.s k⟩
theorem gk_if {ce : Expr} {a b : List Stmt} {pos : Pos} {tc : TT} {c : TF} (hc : GT K X ce tc c) (ha : GSKs K X W is a t f) (hb : GSKs K X W is b u g) : GSK K X W is (.If ce a b pos) (tIfS tc t u) (sIf c f g) := ⟨ps_if hc.p ha.p hb.p, sk_if hc.s ha.s hb.s⟩
theorem ggk_name {x : Str} {pos : Pos} (hN : X.N.Nodup) (hne : j ∉ is := by decide) (hi : X.N[j]? = some x := by rfl) (hx : Loc X.env.scope x := by first | exact Or.inl rfl | exact Or.inr rfl) (hf : X.fn x = true ∨ X.env.scope.names.lookup x = some .local := by first | exact .inl rfl | exact .inr rfl) : GGK K X is (.Name x pos) (gName j) (tgName j) := ⟨pg_name hN hi hx hf, sgk_name hne⟩
theorem ggk_tup {es : List Expr} {k : Nat} {pos : Pos} {js : List Nat} (hc : X.calm = true) (h : GGs X es js) (hne : ∀ j ∈ js, j ∉ is := by decide)
    (hn : (assignEach es X.env).length = js.length := by rfl) (hst : (assignEach es X.env).findIdx? (·.1) = none := by rfl) (hk : X.K = K := by rfl) : GGK K X is (.Tuple es k pos) (gTup K js.length (gNames js)) (tgTup js) := by
  subst hk
  exact ⟨pg_tup hc h.p hn hst, sgk_tup js hne⟩
end
/-! ### the dict is locked, and set free -/
section
variable {K : PySem.W.Frag} {Z : Addr → Prop} {B H H' : Hp} {σ σ' : L2.St} {ρ ρ' : En} {i : Nat} {a : Addr} {kvs : List (List Key × D)} {vs : List (List Key × V)} {od : Obj}
theorem lock_pz (E : EnvOk K Z H σ ρ) (e0 : ρ[i]? = some (.own (.dT kvs))) (a1 : σ[i]? = some (some (.ref a))) : (∀ b, Ow σ (ρ.set i (.sh (.dT kvs))) b → Ow σ ρ b ∧ b ≠ a) ∧ ∀ b, Pz Z σ (ρ.set i (.sh (.dT kvs))) b → Pz Z σ ρ b ∧ b ≠ a := by
  have owa : Ow σ ρ a := ⟨i, _, e0, a1⟩
  have hl : i < ρ.length := (List.getElem?_eq_some_iff.mp e0).1
  have ow : ∀ b, Ow σ (ρ.set i (.sh (.dT kvs))) b → Ow σ ρ b ∧ b ≠ a := fun b ⟨j, d, h1, h2⟩ => by
    have c : j ≠ i := fun c => by
      subst c
      rw [List.getElem?_set_self hl] at h1
      cases h1
    rw [set_get_ne c] at h1
    refine ⟨⟨j, d, h1, h2⟩, fun z => c ?_⟩
    subst z
    exact E.inj j i d _ b h1 e0 h2 a1
  refine ⟨ow, fun b z => ?_⟩
  rcases z with z | z
  · exact ⟨.inl z, fun c => E.zdis a owa (by rw [← c]; exact z)⟩
  · exact ⟨.inr (ow b z).1, (ow b z).2⟩
theorem lock_sme (E : EnvOk K Z H σ ρ) (e0 : ρ[i]? = some (.own (.dT kvs))) (a1 : σ[i]? = some (some (.ref a))) : Sme (hide (Pz Z σ ρ) H) (hide (Pz Z σ (ρ.set i (.sh (.dT kvs)))) (upd H a (.frz od (.dT vs)))) :=
  hide_mono (fun b _ _ z => ((lock_pz E e0 a1).2 b z).1) fun b o z k => by
    rw [upd_ne fun c => z (by rw [c]; exact .inr ⟨i, _, e0, a1⟩)]
    exact k
theorem lock_env (E : EnvOk K Z H σ ρ) (e0 : ρ[i]? = some (.own (.dT kvs))) (a1 : σ[i]? = some (some (.ref a))) (a2 : H a = some (.dT vs)) (a3 : RpT K (hide (Pz Z σ ρ) H) vs kvs) : EnvOk K Z (upd H a (.frz od (.dT vs))) σ (ρ.set i (.sh (.dT kvs))) := by
  have owa : Ow σ ρ a := ⟨i, _, e0, a1⟩
  have hl : i < ρ.length := (List.getElem?_eq_some_iff.mp e0).1
  obtain ⟨ow, pz⟩ := lock_pz E e0 a1
  have sm : Sme (hide (Pz Z σ ρ) H) (hide (Pz Z σ (ρ.set i (.sh (.dT kvs)))) (upd H a (.frz od (.dT vs)))) := lock_sme E e0 a1
  have notown : ∀ {j : Nat} {d : D}, (ρ.set i (.sh (.dT kvs)))[j]? = some (.own d) → j ≠ i := fun {j d} h c => by
    subst c
    rw [List.getElem?_set_self hl] at h
    cases h
  refine ⟨by rw [List.length_set]; exact E.len, fun j d h => ?_, fun j d h => ?_, fun j k d e b h1 h2 h3 h4 => ?_, E.zok.upd (E.zdis a owa), fun b z => E.zdis b (ow b z).1, E.tab.upd a2 trivial⟩
  · by_cases c : j = i
    · subst c
      rw [List.getElem?_set_self hl] at h
      cases h
      exact ⟨.ref a, a1, .dT (.inr ⟨od, hide_some.mpr ⟨fun z => (pz a z).2 rfl, upd_same⟩⟩) (RpT.mono sm _ _ a3)⟩
    · rw [set_get_ne c] at h
      obtain ⟨v, k1, k2⟩ := E.sh j d h
      exact ⟨v, k1, Rp.mono sm _ _ k2⟩
  · have c := notown h
    rw [set_get_ne c] at h
    obtain ⟨b, k1, k2⟩ := E.own j d h
    have nb : b ≠ a := fun z => c (E.inj j i d _ b h e0 k1 (by rw [z]; exact a1))
    exact ⟨b, k1, k2.via (fun o q _ => by rw [upd_ne nb]; exact q) sm⟩
  · have c1 := notown h1
    have c2 := notown h2
    rw [set_get_ne c1] at h1
    rw [set_get_ne c2] at h2
    exact E.inj j k d e b h1 h2 h3 h4
theorem RpT.immV {G G' : Hp} (e : STup G G') : ∀ {vs : List (List Key × V)} {kvs : List (List Key × D)}, (kvs.all fun kv => imm kv.2) = true → RpT K G vs kvs → RpT K G' vs kvs
  | _, _, _, .nil => .nil
  | _, _, h, .cons h1 h2 => by
    rw [List.all_cons, Bool.and_eq_true] at h
    exact .cons (Rp.immK e _ _ h.1 h1) (RpT.immV e h.2 h2)
theorem free_stup {P P' : Addr → Prop} (hb : ∀ b, P' b → b = a ∨ P b) (ha : H' a = some (.frz od (.dT vs))) : STup (hide P H') (hide P' (upd H' a (.dT vs))) := by
  refine ⟨fun b xs k => ?_, fun b C dx k => ?_, fun b oe φ k => ?_⟩
  · obtain ⟨k1, k2⟩ := hide_some.mp k
    have nb : b ≠ a := fun c => by
      rw [c, ha] at k2
      cases k2
    exact hide_some.mpr ⟨fun z => (hb b z).elim nb k1, by rw [upd_ne nb]; exact k2⟩
  · obtain ⟨k1, k2⟩ := hide_some.mp k
    have nb : b ≠ a := fun c => by
      rw [c, ha] at k2
      cases k2
    exact hide_some.mpr ⟨fun z => (hb b z).elim nb k1, by rw [upd_ne nb]; exact k2⟩
  · obtain ⟨k1, k2⟩ := hide_some.mp k
    have nb : b ≠ a := fun c => by
      rw [c, ha] at k2
      cases k2
    exact hide_some.mpr ⟨fun z => (hb b z).elim nb k1, by rw [upd_ne nb]; exact k2⟩
/-- behind the walk: what is told is one's own again, what might lean on it is forgotten -/
theorem free_env (S : StOk K Z B H' σ' ρ') (ha : H' a = some (.frz od (.dT vs))) (h1 : σ'[i]? = some (some (.ref a))) (hZ : ¬ Z a) (r : RpT K (hide (Pz Z σ' ρ') H') vs kvs) (hv : (kvs.all fun kv => imm kv.2) = true) {B0 : Hp} (hB0 : Sme B0 B) (hBa : B0 a = none) :
    StOk K Z B0 (upd H' a (.dT vs)) σ' ((ρ'.map keepSl).set i (.own (.dT kvs))) := by
  have E := S.env
  have hl : i < (ρ'.map keepSl).length := by rw [List.length_map, ← E.len]; exact (List.getElem?_eq_some_iff.mp h1).1
  have at' : ∀ {j : Nat} {s : Sl}, j ≠ i → ((ρ'.map keepSl).set i (.own (.dT kvs)))[j]? = some s → s = .emp ∨ (ρ'[j]? = some s ∧ safeSl s = true) := fun {j s} c h => by
    rw [set_get_ne c] at h
    exact keep_get h
  have owne : ∀ {b : Addr} {j : Nat} {d : D}, ρ'[j]? = some (.own d) → σ'[j]? = some (some (.ref b)) → b ≠ a := fun {b j d} q1 q2 c => by
    obtain ⟨x, k1, k2⟩ := E.own j d q1
    rw [q2] at k1
    cases k1
    rw [c] at k2
    cases d with
    | lst ds => obtain ⟨us, z, _⟩ := k2; rw [ha] at z; cases z
    | dT ds => obtain ⟨us, z, _⟩ := k2; rw [ha] at z; cases z
    | dK ds => obtain ⟨us, z, _⟩ := k2; rw [ha] at z; cases z
    | _ => exact k2.elim
  have ow : ∀ b, Ow σ' ((ρ'.map keepSl).set i (.own (.dT kvs))) b → b = a ∨ Ow σ' ρ' b := fun b ⟨j, d, q1, q2⟩ => by
    by_cases c : j = i
    · subst c
      rw [h1] at q2
      cases q2
      exact .inl rfl
    · rcases at' c q1 with z | ⟨z, _⟩
      · cases z
      · exact .inr ⟨j, d, z, q2⟩
  have pz : ∀ b, Pz Z σ' ((ρ'.map keepSl).set i (.own (.dT kvs))) b → b = a ∨ Pz Z σ' ρ' b := fun b z => by
    rcases z with z | z
    · exact .inr (.inl z)
    · exact (ow b z).imp id .inr
  have st : STup (hide (Pz Z σ' ρ') H') (hide (Pz Z σ' ((ρ'.map keepSl).set i (.own (.dT kvs)))) (upd H' a (.dT vs))) := free_stup pz ha
  refine ⟨⟨by rw [List.length_set, List.length_map]; exact E.len, fun j d h => ?_, fun j d h => ?_, fun j k d e b q1 q2 q3 q4 => ?_, E.zok.upd hZ, fun b z => ?_, E.tab.upd ha trivial⟩, ?_, fun b z => ?_⟩
  · have c : j ≠ i := fun c => by
      subst c
      rw [List.getElem?_set_self hl] at h
      cases h
    rcases at' c h with z | ⟨z, sf⟩
    · cases z
    · obtain ⟨v, k1, k2⟩ := E.sh j d z
      exact ⟨v, k1, Rp.immK st _ _ sf k2⟩
  · by_cases c : j = i
    · subst c
      rw [List.getElem?_set_self hl] at h
      cases h
      exact ⟨a, h1, vs, upd_same, RpT.immV st hv r⟩
    · rcases at' c h with z | ⟨z, sf⟩
      · cases z
      · obtain ⟨b, k1, k2⟩ := E.own j d z
        have nb := owne z k1
        cases d with
        | lst ds =>
          obtain ⟨us, w1, w2⟩ := k2
          exact ⟨b, k1, us, by rw [upd_ne nb]; exact w1, RpL.immK st _ _ sf w2⟩
        | dT ds => cases sf
        | dK ds => cases sf
        | _ => exact k2.elim
  · by_cases c1 : j = i
    · by_cases c2 : k = i
      · rw [c1, c2]
      · subst c1
        rw [h1] at q3
        cases q3
        rcases at' c2 q2 with z | ⟨z, _⟩
        · cases z
        · exact absurd rfl (owne z q4)
    · rcases at' c1 q1 with z | ⟨z, _⟩
      · cases z
      · by_cases c2 : k = i
        · subst c2
          rw [h1] at q4
          cases q4
          exact absurd rfl (owne z q3)
        · rcases at' c2 q2 with w | ⟨w, _⟩
          · cases w
          · exact E.inj j k d e b z w q3 q4
  · rcases ow b z with q | q
    · rw [q]; exact hZ
    · exact E.zdis b q
  · exact (hB0.trans S.base).updN hBa
  · rcases ow b z with q | q
    · rw [q]; exact hBa
    · exact Sme.none hB0 (S.free b q)
end
/-! ### the walk -/
def pairT (kv : List Key × D) : D := .tup [keyT kv.1, kv.2]
/-- for x in d (its keys), or for k, v in d.items() -/
def sForD (i : Nat) (pr : Bool) (tgt : GF) (body : SF) : SF := fun ρ => match ρ[i]? with
  | some (.own (.dT kvs)) => if (kvs.all fun kv => imm kv.2) = true then (match loopF tgt body (if pr then kvs.map pairT else kvs.map fun kv => keyT kv.1) (ρ.set i (.sh (.dT kvs))) with
    | some (.nx ρ') => some (.nx ((ρ'.map keepSl).set i (.own (.dT kvs))))
    | _ => none) else none
  | _ => none
/-- what walks the dict at a, locked -/
def WalkD (K : PySem.W.Frag) (i : Nat) (pr : Bool) (wi : TI) : Prop := ∀ (σ : L2.St) (H : Hp) (a : Addr) (od : Obj) (vs : List (List Key × V)) (kvs : List (List Key × D)) (G : Hp), σ[i]? = some (some (.ref a)) → H a = some (.frz od (.dT vs)) → G a = some (.frz od (.dT vs)) → RpT K G vs kvs →
  ∀ R : It → Hp → Prop, (∀ J, JOk K G J (if pr then kvs.map pairT else kvs.map fun kv => keyT kv.1) → R J H) → wi σ H R
theorem walk_keys {K : PySem.W.Frag} {i : Nat} : WalkD K i false (iKeys (tVar i)) := by
  intro σ H a od vs kvs G h1 h2 h3 h4 R hR
  exact ⟨.ref a, h1, a, od, rfl, .inr ⟨vs, h2, hR _ (jok_keysT h3 h4)⟩⟩
section
variable {K : PySem.W.Frag} {W : Str → Hp → Prop} {X : Cx} {i : Nat} {pr : Bool} {wi : TI} {g : TG} {tgt : GF} {tb : TS} {body : SF}
theorem ss_forD (hi : WalkD K i pr wi) (hg : SemGK K [i] g tgt) (hb : SemSK K W [i] tb body) : SemS K W (tLock (tFor wi g tb)) (sForD i pr tgt body) := by
  intro Z B σ H ρ fl S e Dn w
  unfold sForD at e
  split at e
  · rename_i kvs e0
    split at e
    · rename_i hv
      split at e
      · rename_i ρz ez
        cases e
        have E := S.env
        obtain ⟨a, a1, vs, a2, a3⟩ := E.own i _ e0
        have owa : Ow σ ρ a := ⟨i, _, e0, a1⟩
        refine ⟨a, .dT vs, a2, trivial, fun od => ?_⟩
        have EL := lock_env (od := od) E e0 a1 a2 a3
        obtain ⟨ow, pz⟩ := lock_pz E e0 a1
        have sm : Sme (hide (Pz Z σ ρ) H) (hide (Pz Z σ (ρ.set i (.sh (.dT kvs)))) (upd H a (.frz od (.dT vs)))) := lock_sme E e0 a1
        obtain ⟨ρL, eL⟩ : ∃ x, x = ρ.set i (.sh (.dT kvs)) := ⟨_, rfl⟩
        obtain ⟨HL, eH⟩ : ∃ x, x = upd H a (.frz od (.dT vs)) := ⟨_, rfl⟩
        have HLa : HL a = some (.frz od (.dT vs)) := by rw [eH]; exact upd_same
        rw [← eL, ← eH] at EL sm
        rw [← eL] at ow pz ez
        rw [← eH]
        have nPa : ¬ Pz Z σ ρL a := fun z => (pz a z).2 rfl
        let B' : Hp := hide (Ow σ ρL) HL
        have B'a : B' a = some (.frz od (.dT vs)) := hide_some.mpr ⟨fun z => nPa (.inr z), HLa⟩
        have sB : Sme B B' := by
          have z : Sme B HL := by
            rw [eH]
            exact S.base.updN (S.free a owa)
          exact z.hideN fun b q => S.free b (ow b q).1
        have sG : Sme (hide (Pz Z σ ρL) HL) B' := hide_mono (fun b _ _ q => .inr q) fun _ _ _ q => q
        have SL : StOk K Z B' HL σ ρL := ⟨EL, hide_same HL, fun b q => by
          cases h : B' b with
          | none => rfl
          | some o => exact absurd q (hide_some.mp h).1⟩
        have gst : ∀ {σ' : L2.St} {H' : Hp} {ρ' : En}, StOk K Z B' H' σ' ρ' → Sme (hide (Pz Z σ ρL) HL) (hide (Pz Z σ' ρ') H') := fun {σ' H' ρ'} S' => (Sme.trans sG S'.base).hideN fun b z => by
          rcases z with z | z
          · unfold hide
            exact if_pos (.inl z)
          · exact sG.none (S'.free b z)
        have GLa : hide (Pz Z σ ρL) HL a = some (.frz od (.dT vs)) := hide_some.mpr ⟨nPa, HLa⟩
        have a3L : RpT K (hide (Pz Z σ ρL) HL) vs kvs := RpT.mono sm _ _ a3
        refine hi σ HL a od vs kvs (hide (Pz Z σ ρL) HL) a1 HLa GLa a3L _ fun J jok => ?_
        obtain ⟨ds, eds⟩ : ∃ ds, ds = (if pr then kvs.map pairT else kvs.map fun kv => keyT kv.1) := ⟨_, rfl⟩
        rw [← eds] at jok ez
        refine ⟨fun k m σ' H' => m = ds.length - k ∧ k ≤ ds.length ∧ σ'[i]? = some (some (.ref a)) ∧ ∃ ρ', StOk K Z B' H' σ' ρ' ∧ loopF tgt body (ds.drop k) ρ' = some (.nx ρz), ⟨ds.length, by simp, Nat.zero_le _, a1, ρL, SL, ez⟩, ?_⟩
        rintro k m σ' H' ⟨rfl, hk, h1', ρ', S', e'⟩
        have sGH : Sme (hide (Pz Z σ ρL) HL) H' := Sme.trans sG S'.base
        by_cases hlt : k < ds.length
        · rw [List.drop_eq_getElem_cons hlt] at e'
          unfold loopF at e'
          obtain ⟨ρ1, e2, e'⟩ := Option.bind_eq_some_iff.mp e'
          refine .inr ⟨jok.go k H' hlt sGH, fun σ2 H2 => σ2[i]? = some (some (.ref a)) ∧ ∃ ρ2, StOk K Z B' H2 σ2 ρ2 ∧ loopF tgt body (ds.drop (k + 1)) ρ2 = some (.nx ρz), fun σ2 H2 ⟨k0, ρ2, k1, k2⟩ => ⟨ds.length - (k + 1), by omega, rfl, hlt, k0, ρ2, k1, k2⟩, fun x H2 y => ?_⟩
          obtain ⟨s2, r2⟩ := jok.yld k ds[k] H' x H2 (List.getElem?_eq_getElem hlt) sGH y
          have r3 := r2 (Pz Z σ' ρ') S'.env.pok (gst S')
          refine hg Z B' σ' H2 ρ' ρ1 x ⟨ds[k], .av⟩ (S'.mono s2) r3 e2 _ fun σ3 S3 k3 => ?_
          cases q : body ρ1 with
          | none => rw [q] at e'; cases e'
          | some f =>
            rw [q] at e'
            refine hb Z B' σ3 H2 ρ1 f S3 q _ ?_
            cases f with
            | nx ρ2 => exact fun σ4 H4 S4 k4 => ⟨((k4 i List.mem_cons_self).trans (k3 i List.mem_cons_self)).trans h1', ρ2, S4, e'⟩
            | ct ρ2 => exact fun σ4 H4 S4 k4 => ⟨((k4 i List.mem_cons_self).trans (k3 i List.mem_cons_self)).trans h1', ρ2, S4, e'⟩
            | bk ρ2 =>
              cases e'
              intro σ4 H4 S4 k4
              have h4a : H4 a = some (.frz od (.dT vs)) := S4.base.get _ _ B'a trivial
              exact ⟨h4a, w _ _ (free_env S4 h4a (((k4 i List.mem_cons_self).trans (k3 i List.mem_cons_self)).trans h1') (fun z => E.zdis a owa z) (RpT.mono (gst S4) _ _ a3L) hv sB (S.free a owa))⟩
            | rt d fr => cases e'
            | ex n => cases e'
            | rn d => cases e'
        · have : k = ds.length := by omega
          subst this
          rw [List.drop_length] at e'
          cases e'
          have H'a : H' a = some (.frz od (.dT vs)) := S'.base.get _ _ B'a trivial
          refine .inl ⟨jok.stop _ H' (Nat.le_refl _) sGH, H'a, w _ _ ?_⟩
          exact free_env S' H'a h1' (fun z => E.zdis a owa z) (RpT.mono (gst S') _ _ a3L) hv sB (S.free a owa)
      · cases e
    · cases e
  · cases e
theorem gs_forK {tg : Expr} {bd : List Stmt} {pos : Pos} {x : Str} {np : Pos} (i : Nat) (hp : PassesOwn (model X.prog X.w) X.A X.env X.xe) (hc : X.calm = true) (hg : GGK K X [i] tg g tgt) (hb : GSKs K X W [i] bd tb body)
    (hi : X.N[i]? = some x := by rfl) (hvi : Vis X.env.scope x := by first | exact Or.inl rfl | exact Or.inr (Or.inl rfl) | exact Or.inr (Or.inr rfl)) (hd : (x == ("__debug__" : Str)) = false := by decide) (hcd : (x == ("__classdict__" : Str)) = false := by decide)
    (hs : ∀ z, foldedSetIterable (.Name x np) X.env z = pure z := by intro _; rfl) : GS K X W (.For tg (.Name x np) bd [] pos) (tLock (tFor (iKeys (tVar i)) g tb)) (sForD i false tgt body) :=
  ⟨ps_lock (ps_for hp hc (pi_keys (pe_var hi hvi hd hcd)) hg.p hb.p hs), ss_forD walk_keys hg.s hb.s⟩
end
@[simp] theorem ev_forD {i : Nat} {pr : Bool} {tgt : GF} {body : SF} {ρ : En} : sForD i pr tgt body ρ = (match ρ[i]? with
  | some (.own (.dT kvs)) => if (kvs.all fun kv => imm kv.2) = true then (match loopF tgt body (if pr then kvs.map pairT else kvs.map fun kv => keyT kv.1) (ρ.set i (.sh (.dT kvs))) with
    | some (.nx ρ') => some (.nx ((ρ'.map keepSl).set i (.own (.dT kvs))))
    | _ => none) else none
  | _ => none) := (rfl)
end Fb
set_option maxHeartbeats 4000000
/-! FbN: for k, v in d.items(), d one's own dict with tuple keys. -/
namespace Fb
open PySem PySem.Spec PyProof.Rows L2
variable [γ : GSt]
section
variable {X : Cx} {pins : List (Addr × Obj)} {σ : L2.St} {H : Hp} {s : Shared} {d : Addr} {o : Obj}
theorem frz_at {kvs : List (List Key × V)} (I : Inv X pins σ H s) (h : H d = some (.frz o (.dT kvs))) :
    (d == sysModules) = false ∧ ∃ (es : Array DictEntry) (ep : Nat), DT.Raw s.heap d es ep ∧ o.data = .dict es ep ∧ es.size = kvs.length ∧
      ∀ (i : Nat) (k : List Key) (v : V), kvs[i]? = some (k, v) → ∃ (en : DictEntry) (q : Addr), es[i]? = some en ∧ en.key = .ref q ∧ H q = some (.tup (k.map kV)) ∧ RelV v en.val := by
  obtain ⟨there, _, ns, xs, pr, o', es, ep, ho, hx, dat, he, _⟩ := I.hok d _ h
  have l1 : es.size = xs.length := size_of_entries he
  have l2 : kvs.length = xs.length := Paired.length pr
  have eo : o' = o := by
    rw [there] at ho
    exact (Option.some.inj ho).symm
  subst eo
  refine ⟨ns, es, ep, ⟨_, there, hx, dat⟩, dat, l1.trans l2.symm, fun i k v e => ?_⟩
  obtain ⟨b, hb, e1, e2, e3⟩ := paired_get pr e
  have q := entry_at he i
  rw [hb] at q
  exact ⟨_, b.2.1, q, rfl, e2, e3⟩
/-- each pair in a new tuple -/
def ItPr (d : Addr) (o : Obj) (kvs : List (List Key × V)) : It where
  go i H := H d = some (.frz o (.dT kvs)) ∧ i < kvs.length
  yld i H x H' := ∃ (T q : Addr) (k : List Key) (v : V), kvs[i]? = some (k, v) ∧ H q = some (.tup (k.map kV)) ∧ x = .ref T ∧ H T = none ∧ H' = upd H T (.tup [.ref q, v])
  stop i H := H d = some (.frz o (.dT kvs)) ∧ kvs.length ≤ i
theorem turn_prs {P : Program} {w : World} {K : PySem.W.Frag} {elts : List Expr} {kk : Nat} {tpos : Pos} {kvs : List (List Key × V)} {es : Array DictEntry} {ep : Nat} (it : Addr) (hod : o.data = .dict es ep) :
    Turn P w K (.Tuple elts kk tpos) (ItPr d o kvs) [it] it (fun i h => ∃ ok ov, IsItemIter h it d i kvs.length ep ok ov) where
  mem := List.mem_singleton.mpr rfl
  obj i h st b hb := by
    obtain ⟨ok, ov, y⟩ := st
    rw [List.mem_singleton.mp hb]
    exact ⟨_, y, fun v z => nomatch z⟩
  keep i h h' st k := by
    obtain ⟨ok, ov, y⟩ := st
    exact ⟨ok, ov, k it List.mem_cons_self _ y⟩
  item := by
    intro X hP hw hK hc i pins s σ H E I hf st hg
    subst hP hw hK
    obtain ⟨locked, lt⟩ := hg
    obtain ⟨ns, es', ep', raw, dat, sz, ent⟩ := frz_at I locked
    obtain ⟨rfl, rfl⟩ := dict_ep hod dat
    obtain ⟨ok, ov, at0⟩ := st
    have here : it < s.heap.objs.size := Heap.lt_size at0
    rw [← sz] at at0
    obtain ⟨k, v, ekv⟩ : ∃ k v, kvs[i]? = some (k, v) := ⟨_, _, List.getElem?_eq_getElem lt⟩
    obtain ⟨en, q, e1, e2, e3, e4⟩ := ent i k v ekv
    have lt' : i < es'.size := by rw [sz]; exact lt
    have e5 : es'[i] = en := by
      rw [Array.getElem?_eq_getElem lt'] at e1
      exact Option.some.inj e1
    refine DT.nextI at0 raw lt' fun h' out tup size k1 => ?_
    rw [e5] at out tup
    refine ⟨_, rfl, wpAny_letOwnedTupleGo_items (s := { s with heap := h' }) out fun h2 at2 sb => ?_⟩
    have tup2 : h2.get? s.heap.objs.size = some { cls := .type "tuple", data := .seq #[en.key, en.val] } := (sb.2 _ (Nat.ne_of_gt here)).trans tup
    have new : ObjOk X.prog X.w (upd H s.heap.objs.size (.tup [.ref q, v])) h2 s.heap.objs.size (.tup [.ref q, v]) := by
      refine ⟨by show 2 ≤ sizeLine; decide, [en.key, en.val], .cons ?_ (.cons e4 .nil), ⟨_, tup2, rfl, _, rfl⟩⟩
      rw [e2]
      exact rfl
    have I1 : Inv X pins σ (upd H s.heap.objs.size (.tup [.ref q, v])) { s with heap := h2 } :=
      I.turnedNew (t' := s.toks) (ch := [it]) (fun b ob hb e => (sb.2 b (fun z => hb (List.mem_singleton.mpr z))).trans (k1 b ob (fun z => hb (List.mem_singleton.mpr z)) e)) hf (Nat.le_refl _) new
    refine ⟨.ref s.heap.objs.size, _, I1, rfl, ⟨_, q, k, v, ekv, e3, rfl, I.hok.fresh (Nat.le_refl _), rfl⟩, ⟨en.key, en.val, ?_⟩, fun b hb => ?_⟩
    · rw [← sz]
      exact at2
    · rw [List.mem_singleton.mp hb, upd_ne (Nat.ne_of_lt here)]
      exact (hf it List.mem_cons_self).1
  done := by
    intro X hP hw hK hc i pins s σ H E I hf st hg
    subst hP hw hK
    obtain ⟨locked, ge⟩ := hg
    obtain ⟨f0, f1, f2, f3, f4, f5⟩ := hf it List.mem_cons_self
    obtain ⟨ns, es', ep', raw, dat, sz, ent⟩ := frz_at I locked
    obtain ⟨rfl, rfl⟩ := dict_ep hod dat
    obtain ⟨ok, ov, at0⟩ := st
    rw [← sz] at at0
    exact DT.endI (I.ok.hd hc) at0 raw (by rw [sz]; exact ge) fun h' eb => ⟨rfl, I.turned (t' := s.toks) (fun b ob hb e => eb b ob hb e) f0 f1 f3 f4 f5⟩
  self A i s Q E st h := by
    obtain ⟨_, _, y⟩ := st
    exact PySem.W.kcp_self y h
def iPairs (td : TE) : TI := fun σ H R => td σ H fun x H1 => ∃ (a : Addr) (ob : Obj) (kvs : List (List Key × V)), x = .ref a ∧ H1 a = some (.frz ob (.dT kvs)) ∧ R (ItPr a ob kvs) H1
theorem pi_pairs {e : Expr} {td : TE} {apos cpos tpos : Pos} {elts : List Expr} {kk : Nat} (he : PE X e td) (hbase : attributeBase e "items" X.env (eval e X.env) = eval e X.env := by rfl) (hline : (apos.endLine == cpos.line) = true := by rfl) :
    PI X (.Tuple elts kk tpos) (.Call (.Attribute e "items" apos) [] [] cpos) (iPairs td) := by
  refine ⟨fun pins s σ H R I h => ?_⟩
  refine wpAny_Call_method (T := "dict") (id := "dict.items") hbase rfl hline F.plainAttrs_dict F.slot_dict_items F.type_dict_items (thn (he.run pins s σ H _ I h) fun u s1 y => ?_)
  obtain ⟨x, H1, I1, rx, a, ob, kvs, ex, locked, q⟩ := y
  subst ex
  have eu : u = Value.ref a := rx
  subst eu
  obtain ⟨ns, es, ep, raw, dat, sz, ent⟩ := frz_at I1 locked
  obtain ⟨oo, r1, r2, r3⟩ := id raw
  refine ⟨raw.typeIs, fun b eb => by cases eb; exact ⟨_, r1, r2.2.1⟩, ?_⟩
  have I2 : Inv X pins σ H1 { s1 with heap := s1.heap.push { cls := .type "dict_items", data := .fields #[.ref a] } } := I1.kept (t' := s1.toks) fun b oz z => Heap.get?_push_of_some _ z
  have fin : wpAny (model X.prog X.w) X.A (pyIter (.ref s1.heap.objs.size)) (PIE X pins σ (.Tuple elts kk tpos) R) X.xe { s1 with heap := s1.heap.push { cls := .type "dict_items", data := .fields #[.ref a] } } := by
    refine DT.iterI (d := a) ⟨_, Heap.get?_push_size _ rfl, rfl, rfl⟩ (raw.push _) (pi_one (tk := s1.toks) I2 _ (turn_prs _ dat) ⟨.none, .none, ?_⟩ q)
    rw [← sz]
    exact Heap.get?_push_size _ rfl
  show wpAny _ _ (callWith cpos (.builtin "dict.items") [.ref a] [] []) _ X.xe s1
  exact method_meetsIn F.slot_dict_items F.entry_dict_items rfl (PySem.evalArgs_none ⟨rfl, raw.typeIs, F.args_dict_items_1 _, _, DT.meetsItems (es := es) (ep := ep) ns, raw, fin⟩)
end
theorem jok_prs {K : PySem.W.Frag} {G G2 : Hp} {a : Addr} {o : Obj} {vs : List (List Key × V)} {kvs : List (List Key × D)} (h1 : G a = some (.frz o (.dT vs))) (h2 : RpT K G2 vs kvs) : JOk2 K G G2 (ItPr a o vs) (kvs.map pairT) where
  go i H hi s := ⟨s _ _ h1, by rw [RpT.length h2]; simpa using hi⟩
  stop i H hi s := ⟨s _ _ h1, by rw [RpT.length h2]; simpa using hi⟩
  yld i d H2 x H' hd s y := by
    obtain ⟨T, q, k, v, y1, y2, y3, y4, y5⟩ := y
    subst y3 y5
    obtain ⟨d', z1, z2⟩ := RpT.get h2 y1
    rw [List.getElem?_map, z1] at hd
    cases Option.some.inj hd
    refine ⟨same_upd y4, fun P hP sg => ?_⟩
    have s2 := Sme.trans sg (same_hide (P := P) (same_upd (K := K) (o := .tup [.ref q, v]) y4).toSme)
    refine .tup (hide_some.mpr ⟨fun z => ?_, upd_same⟩) (.cons (.tup ?_ (unKeys_rp k)) (.cons (Rp.mono s2 _ _ z2) .nil))
    · obtain ⟨o, w⟩ := hP.there z
      rw [y4] at w; cases w
    · have nq : q ≠ T := fun z => by rw [z, y4] at y2; cases y2
      have kq := hP.stup.1 _ _ y2
      obtain ⟨w1, w2⟩ := hide_some.mp kq
      exact hide_some.mpr ⟨w1, by rw [upd_ne nq]; exact w2⟩
theorem walk_prs {K : PySem.W.Frag} {i : Nat} : WalkD K i true (iPairs (tVar i)) := by
  intro σ H a od vs kvs G h1 h2 h3 h4 R hR
  exact ⟨.ref a, h1, a, od, vs, rfl, h2, hR _ (jok_prs h3 h4)⟩
theorem gs_forI {K : PySem.W.Frag} {W : Str → Hp → Prop} {X : Cx} {g : TG} {tgt : GF} {tb : TS} {body : SF} {elts : List Expr} {kk : Nat} {tpos : Pos} {bd : List Stmt} {pos : Pos} {x : Str} {np apos cpos : Pos} (i : Nat) (hp : PassesOwn (model X.prog X.w) X.A X.env X.xe) (hc : X.calm = true) (hg : GGK K X [i] (.Tuple elts kk tpos) g tgt) (hb : GSKs K X W [i] bd tb body)
    (hi : X.N[i]? = some x := by rfl) (hvi : Vis X.env.scope x := by first | exact Or.inl rfl | exact Or.inr (Or.inl rfl) | exact Or.inr (Or.inr rfl)) (hd : (x == ("__debug__" : Str)) = false := by decide) (hcd : (x == ("__classdict__" : Str)) = false := by decide)
    (hbase : attributeBase (.Name x np) "items" X.env (eval (.Name x np) X.env) = eval (.Name x np) X.env := by rfl) (hline : (apos.endLine == cpos.line) = true := by rfl)
    (hs : ∀ z, foldedSetIterable (.Call (.Attribute (.Name x np) "items" apos) [] [] cpos) X.env z = pure z := by intro _; rfl) : GS K X W (.For (.Tuple elts kk tpos) (.Call (.Attribute (.Name x np) "items" apos) [] [] cpos) bd [] pos) (tLock (tFor (iPairs (tVar i)) g tb)) (sForD i true tgt body) :=
  ⟨ps_lock (ps_for hp hc (pi_pairs (pe_var hi hvi hd hcd) hbase hline) hg.p hb.p hs), ss_forD walk_prs hg.s hb.s⟩
end Fb
set_option maxHeartbeats 4000000
/-! FbO: for (a, b), c in .. -/
namespace Fb
open PySem PySem.Spec L2
variable [γ : GSt]
/-- (names), name -/
def tgT2 (is : List Nat) (j : Nat) : GF := fun r ρ => match r with
  | ⟨.tup [.tup ds, d], m⟩ => if itR ⟨.tup [.tup ds, d], m⟩ then (tgNames is ds ρ).bind fun ρ1 => if j < ρ1.length then some (ρ1.set j (.sh d)) else none else none
  | _ => none
section
variable {K : PySem.W.Frag} {X : Cx}
theorem tgNames_len {is : List Nat} {ds : List D} {ρ ρ' : En} (e : tgNames is ds ρ = some ρ') : is.length = ds.length := by
  induction is generalizing ds ρ with
  | nil => cases ds with
    | nil => rfl
    | cons d r => cases e
  | cons i is ih => cases ds with
    | nil => cases e
    | cons d r =>
      unfold tgNames at e
      split at e
      · exact congrArg (· + 1) (ih e)
      · cases e
theorem sg_t2 (is : List Nat) (j : Nat) : SemG K (gTup K 2 (gCons (gTup K is.length (gNames is)) (gCons (gName j) gNil))) (tgT2 is j) := by
  intro Z B σ H ρ ρ' v r S h e Q q
  unfold tgT2 at e
  split at e
  · rename_i ds d m
    split at e
    · rename_i c
      obtain ⟨ρ1, e1, e⟩ := Option.bind_eq_some_iff.mp e
      split at e
      · rename_i hj
        cases e
        obtain ⟨a, vs, h1, h2, h3, h4⟩ := Opd.tupR S.env.pok h
        have h5 := h4 c
        cases h5 with
        | cons x1 x2 =>
          cases x2 with
          | cons y1 y2 =>
            cases y2
            refine ⟨a, _, h1, h2, rfl, ?_⟩
            refine ⟨_, _, rfl, ?_⟩
            cases x1 with
            | tup t1 t2 =>
              rename_i w v2 ws
              refine ⟨_, _, rfl, .of (hide_some.mp t1).2, by rw [t2.length, tgNames_len e1], ?_⟩
              refine sg_names is Z B σ H ρ ρ1 _ ds (Pz Z σ ρ) S (fun _ z => z) t2 e1 _ fun σ1 S1 hP => ?_
              refine ⟨_, _, rfl, ?_⟩
              have y3 := Rp.mono (hide_mono (H' := H) (fun b _ _ z => hP b z) fun _ _ _ z => z) _ _ y1
              exact ⟨rfl, q _ (S1.setSh y3 hj)⟩
      · cases e
    · cases e
  · cases e
theorem gg_t2 {es : List Expr} {k k2 : Nat} {pos pos2 : Pos} {is : List Nat} {j : Nat} {x : Str} {p : Pos} (hc : X.calm = true) (h : GGs X es is) (hN : X.N.Nodup) (hi : X.N[j]? = some x := by rfl) (hx : Loc X.env.scope x := by first | exact Or.inl rfl | exact Or.inr rfl) (hf : X.fn x = true ∨ X.env.scope.names.lookup x = some .local := by first | exact .inl rfl | exact .inr rfl)
    (hn : (assignEach es X.env).length = is.length := by rfl) (hst : (assignEach es X.env).findIdx? (·.1) = none := by rfl)
    (hn2 : (assignEach [.Tuple es k pos, .Name x p] X.env).length = 2 := by rfl) (hst2 : (assignEach [.Tuple es k pos, .Name x p] X.env).findIdx? (·.1) = none := by rfl)
    (hs1 : (assignEach [.Tuple es k pos, .Name x p] X.env).map (·.2) = assign (.Tuple es k pos) X.env :: (assignEach [.Name x p] X.env).map (·.2) := by rfl) (hs2 : (assignEach [.Name x p] X.env).map (·.2) = assign (.Name x p) X.env :: (assignEach [] X.env).map (·.2) := by rfl) (hk : X.K = K := by rfl) :
    GG K X (.Tuple [.Tuple es k pos, .Name x p] k2 pos2) (gTup K 2 (gCons (gTup K is.length (gNames is)) (gCons (gName j) gNil))) (tgT2 is j) := by
  subst hk
  exact ⟨pg_tup hc (pgs_cons (pg_tup hc h.p hn hst) (pgs_cons (pg_name hN hi hx hf) pgs_nil hs2) hs1) hn2 hst2, sg_t2 is j⟩
end
@[simp] theorem ev_tgT2 {is : List Nat} {j : Nat} {ds : List D} {d : D} {m : Md} {ρ : En} : tgT2 is j ⟨.tup [.tup ds, d], m⟩ ρ = if itR ⟨.tup [.tup ds, d], m⟩ then (tgNames is ds ρ).bind fun ρ1 => if j < ρ1.length then some (ρ1.set j (.sh d)) else none else none := (rfl)
end Fb
set_option maxHeartbeats 4000000
/-! FbP: loops that keep slots; a walk of one's own list, which stays one's own. -/
namespace Fb
open PySem PySem.Spec L2
variable [γ : GSt]
section
variable {K : PySem.W.Frag} {W : Str → Hp → Prop} {X : Cx} {is : List Nat} {wi : TI} {fi : IF} {g : TG} {tgt : GF} {tb : TS} {body : SF}
theorem WantK.base {Z : Addr → Prop} {B B' : Hp} {σ : L2.St} {Dn : Ends} {fl : Fl} (s : Sme B B') (w : WantK K W is Z B σ Dn fl) : WantK K W is Z B' σ Dn fl := by
  cases fl with
  | nx ρ => exact fun σ' H S => w σ' H (S.rebase s)
  | bk ρ => exact fun σ' H S => w σ' H (S.rebase s)
  | ct ρ => exact fun σ' H S => w σ' H (S.rebase s)
  | rt d fr => exact fun v H q => w v H (q.base s)
  | ex n => exact fun H q => w H (s.trans q)
  | rn d => exact fun v H q => w v H (q.base s)
/-- the turns of a loop -/
theorem loop_core {Z : Addr → Prop} {B' H1 : Hp} {σ : L2.St} {ρ : En} {fl : Fl} {J : It} {ds : List D} {G G2 : Hp} {Dn : Ends} (hg : SemGK K is g tgt) (hb : SemSK K W is tb body) (jok : JOk2 K G G2 J ds) (S2 : StOk K Z B' H1 σ ρ) (sG : Sme G B')
    (gst : ∀ {σ' : L2.St} {H' : Hp} {ρ' : En}, StOk K Z B' H' σ' ρ' → Sme G2 (hide (Pz Z σ' ρ') H')) (e : loopF tgt body ds ρ = some fl) (w : WantK K W is Z B' σ Dn fl) :
    ∃ Wt : Nat → Nat → L2.St → Hp → Prop, (∃ m, Wt 0 m σ H1) ∧ ∀ i m σ H, Wt i m σ H →
      (J.stop i H ∧ Dn.nx σ H) ∨ (J.go i H ∧ ∃ N : L2.St → Hp → Prop, (∀ σ' H', N σ' H' → ∃ m', m' < m ∧ Wt (i + 1) m' σ' H') ∧ ∀ x H', J.yld i H x H' → g x σ H' fun σ2 H2 => tb { Dn with nx := N, ct := N, bk := Dn.nx } σ2 H2) := by
  refine ⟨fun i m σ' H' => m = ds.length - i ∧ i ≤ ds.length ∧ Kp is σ σ' ∧ ∃ ρ', StOk K Z B' H' σ' ρ' ∧ loopF tgt body (ds.drop i) ρ' = some fl, ⟨ds.length, by simp, Nat.zero_le _, Kp.refl is σ, ρ, S2, e⟩, ?_⟩
  rintro i m σ' H' ⟨rfl, hi, kp, ρ', S', e'⟩
  have sGH : Sme G H' := Sme.trans sG S'.base
  by_cases hlt : i < ds.length
  · rw [List.drop_eq_getElem_cons hlt] at e'
    unfold loopF at e'
    obtain ⟨ρ1, e2, e'⟩ := Option.bind_eq_some_iff.mp e'
    refine .inr ⟨jok.go i H' hlt sGH, fun σ2 H2 => Kp is σ σ2 ∧ ∃ ρ2, StOk K Z B' H2 σ2 ρ2 ∧ loopF tgt body (ds.drop (i + 1)) ρ2 = some fl, fun σ2 H2 ⟨k0, ρ2, k1, k2⟩ => ⟨ds.length - (i + 1), by omega, rfl, hlt, k0, ρ2, k1, k2⟩, fun x H2 y => ?_⟩
    obtain ⟨s2, r2⟩ := jok.yld i ds[i] H' x H2 (List.getElem?_eq_getElem hlt) sGH y
    have r3 := r2 (Pz Z σ' ρ') S'.env.pok (gst S')
    refine hg Z B' σ' H2 ρ' ρ1 x ⟨ds[i], .av⟩ (S'.mono s2) r3 e2 _ fun σ3 S3 k3 => ?_
    cases q : body ρ1 with
    | none => rw [q] at e'; cases e'
    | some f =>
      rw [q] at e'
      refine hb Z B' σ3 H2 ρ1 f S3 q _ ?_
      cases f with
      | nx ρ2 => exact fun σ4 H4 S4 k4 => ⟨(kp.trans k3).trans k4, ρ2, S4, e'⟩
      | ct ρ2 => exact fun σ4 H4 S4 k4 => ⟨(kp.trans k3).trans k4, ρ2, S4, e'⟩
      | bk ρ2 => cases e'; exact fun σ4 H4 S4 k4 => w σ4 H4 S4 ((kp.trans k3).trans k4)
      | rt d fr => cases e'; exact w
      | ex n => cases e'; exact w
      | rn d => cases e'; exact w
  · have : i = ds.length := by omega
    subst this
    rw [List.drop_length] at e'
    cases e'
    exact .inl ⟨jok.stop _ H' (Nat.le_refl _) sGH, w σ' H' S' kp⟩
theorem sk_for (hi : SemI K wi fi) (hg : SemGK K is g tgt) (hb : SemSK K W is tb body) : SemSK K W is (tFor wi g tb) (sFor fi tgt body) := by
  intro Z B σ H ρ fl S e Dn w
  obtain ⟨ds, e1, e⟩ := Option.bind_eq_some_iff.mp e
  refine hi Z σ H ρ ds S.env e1 _ fun J H1 s1 jok => ?_
  have S1 := S.mono s1
  let B' : Hp := hide (Ow σ ρ) H1
  have sB : Sme B B' := S1.base.hideN fun a z => S.free a z
  have sG : Sme (hide (Pz Z σ ρ) H1) B' := hide_mono (fun b _ _ q => .inr q) fun _ _ _ q => q
  have S2 : StOk K Z B' H1 σ ρ := ⟨S1.env, hide_same H1, fun a q => by
    cases h : B' a with
    | none => rfl
    | some o => exact absurd q (hide_some.mp h).1⟩
  have gst : ∀ {σ' : L2.St} {H' : Hp} {ρ' : En}, StOk K Z B' H' σ' ρ' → Sme (hide (Pz Z σ ρ) H1) (hide (Pz Z σ' ρ') H') := fun {σ' H' ρ'} S' => (Sme.trans sG S'.base).hideN fun b z => by
    rcases z with z | z
    · unfold hide
      exact if_pos (.inl z)
    · exact sG.none (S'.free b z)
  exact loop_core hg hb jok S2 sG gst e (w.base sB)
theorem gk_for {tg iter : Expr} {bd : List Stmt} {pos : Pos} (hp : PassesOwn (model X.prog X.w) X.A X.env X.xe) (hc : X.calm = true) (hi : GI K X tg iter wi fi) (hg : GGK K X is tg g tgt) (hb : GSKs K X W is bd tb body)
    (hs : ∀ x, foldedSetIterable iter X.env x = pure x := by intro _; rfl) : GSK K X W is (.For tg iter bd [] pos) (tFor wi g tb) (sFor fi tgt body) := ⟨ps_for hp hc hi.p hg.p hb.p hs, sk_for hi.s hg.s hb.s⟩
/-! ### for x in xs, xs one's own: it is kept apart, and neither read nor written in the body -/
def backW (j : Nat) (ds : List D) : Fl → Option Fl
  | .nx ρ' => some (.nx (ρ'.set j (.own (.lst ds))))
  | .rt d fr => some (.rt d fr)
  | .ex n => some (.ex n)
  | .rn d => some (.rn d)
  | _ => none
def sForW (j : Nat) (tgt : GF) (body : SF) : SF := fun ρ => match ρ[j]? with
  | some (.own (.lst ds)) => (loopF tgt body ds (ρ.set j .emp)).bind (backW j ds)
  | _ => none
end
section
variable {K : PySem.W.Frag} {Z : Addr → Prop} {B B0 H H' : Hp} {σ σ' : L2.St} {ρ ρ' : En} {j : Nat} {a : Addr} {ds : List D} {vs : List V}
theorem away_pz (E : EnvOk K Z H σ ρ) (e0 : ρ[j]? = some (.own (.lst ds))) (a1 : σ[j]? = some (some (.ref a))) : (∀ b, Ow σ (ρ.set j .emp) b → Ow σ ρ b ∧ b ≠ a) ∧ Pz (fun b => Z b ∨ b = a) σ (ρ.set j .emp) = Pz Z σ ρ := by
  have hl : j < ρ.length := (List.getElem?_eq_some_iff.mp e0).1
  have ow : ∀ b, Ow σ (ρ.set j .emp) b → Ow σ ρ b ∧ b ≠ a := fun b ⟨k, d, h1, h2⟩ => by
    have c : k ≠ j := fun c => by
      subst c
      rw [List.getElem?_set_self hl] at h1
      cases h1
    rw [set_get_ne c] at h1
    refine ⟨⟨k, d, h1, h2⟩, fun z => c ?_⟩
    subst z
    exact E.inj k j d _ b h1 e0 h2 a1
  refine ⟨ow, funext fun b => propext ⟨fun z => ?_, fun z => ?_⟩⟩
  · rcases z with (z | z) | z
    · exact .inl z
    · exact .inr ⟨j, _, e0, by rw [z]; exact a1⟩
    · exact .inr (ow b z).1
  · rcases z with z | ⟨k, d, h1, h2⟩
    · exact .inl (.inl z)
    · by_cases c : k = j
      · subst c
        rw [a1] at h2
        cases h2
        exact .inl (.inr rfl)
      · exact .inr ⟨k, d, by rw [set_get_ne c]; exact h1, h2⟩
theorem away_env (E : EnvOk K Z H σ ρ) (e0 : ρ[j]? = some (.own (.lst ds))) (a1 : σ[j]? = some (some (.ref a))) (a2 : H a = some (.lst vs)) : EnvOk K (fun b => Z b ∨ b = a) H σ (ρ.set j .emp) := by
  obtain ⟨ow, pz⟩ := away_pz E e0 a1
  have hl : j < ρ.length := (List.getElem?_eq_some_iff.mp e0).1
  have at' : ∀ {k : Nat} {s : Sl}, (ρ.set j .emp)[k]? = some s → s = .emp ∨ (k ≠ j ∧ ρ[k]? = some s) := fun {k s} h => by
    by_cases c : k = j
    · subst c
      rw [List.getElem?_set_self hl] at h
      cases h
      exact .inl rfl
    · rw [set_get_ne c] at h
      exact .inr ⟨c, h⟩
  refine ⟨by rw [List.length_set]; exact E.len, fun k d h => ?_, fun k d h => ?_, fun k m d e b h1 h2 h3 h4 => ?_, ⟨fun b z => ?_, E.zok.gh.more fun _ => .inl⟩, fun b z q => ?_, E.tab⟩
  · rw [pz]
    rcases at' h with z | ⟨_, z⟩
    · cases z
    · exact E.sh k d z
  · rw [pz]
    rcases at' h with z | ⟨_, z⟩
    · cases z
    · exact E.own k d z
  · rcases at' h1 with z | ⟨_, z⟩
    · cases z
    · rcases at' h2 with y | ⟨_, y⟩
      · cases y
      · exact E.inj k m d e b z y h3 h4
  · rcases z with z | z
    · exact E.zok b z
    · rw [z]
      exact ⟨_, a2, trivial, fun C dx y => by cases y⟩
  · rcases q with q | q
    · exact E.zdis b (ow b z).1 q
    · exact (ow b z).2 q
/-- behind the walk -/
theorem back_env (S : StOk K (fun b => Z b ∨ b = a) B H' σ' ρ') (hj : j < ρ'.length) (h1 : σ'[j]? = some (some (.ref a))) (ha : H' a = some (.lst vs)) (nZ : ¬ Z a) (hB : Sme B0 B) (hBa : B0 a = none) (r : RpL K (hide (Pz (fun b => Z b ∨ b = a) σ' ρ') H') vs ds) : StOk K Z B0 H' σ' (ρ'.set j (.own (.lst ds))) := by
  have E := S.env
  have ow : ∀ b, Ow σ' (ρ'.set j (.own (.lst ds))) b → b = a ∨ Ow σ' ρ' b := fun b ⟨k, d, q1, q2⟩ => by
    by_cases c : k = j
    · subst c
      rw [h1] at q2
      cases q2
      exact .inl rfl
    · rw [set_get_ne c] at q1
      exact .inr ⟨k, d, q1, q2⟩
  have nown : ∀ d, ρ'[j]? ≠ some (.own d) := fun d h => E.zdis a ⟨j, d, h, h1⟩ (.inr rfl)
  have pz : Pz Z σ' (ρ'.set j (.own (.lst ds))) = Pz (fun b => Z b ∨ b = a) σ' ρ' := funext fun b => propext ⟨fun z => by
    rcases z with z | z
    · exact .inl (.inl z)
    · rcases ow b z with y | y
      · exact .inl (.inr y)
      · exact .inr y, fun z => by
    rcases z with (z | z) | ⟨k, d, q1, q2⟩
    · exact .inl z
    · exact .inr ⟨j, _, List.getElem?_set_self hj, by rw [z]; exact h1⟩
    · have c : k ≠ j := fun c => by subst c; exact nown d q1
      exact .inr ⟨k, d, by rw [set_get_ne c]; exact q1, q2⟩⟩
  refine ⟨⟨by rw [List.length_set]; exact E.len, fun k d h => ?_, fun k d h => ?_, fun k m d e b q1 q2 q3 q4 => ?_, ⟨fun b z => E.zok b (.inl z), fun b kvs q => ⟨(E.zok.gh b kvs q).1.elim id fun c => (by have y := (E.zok.gh b kvs q).2; rw [c, ha] at y; cases y), (E.zok.gh b kvs q).2⟩⟩, fun b z q => ?_, E.tab⟩, hB.trans S.base, fun b z => ?_⟩
  · have c : k ≠ j := fun c => by
      subst c
      rw [List.getElem?_set_self hj] at h
      cases h
    rw [set_get_ne c] at h
    rw [pz]
    exact E.sh k d h
  · rw [pz]
    by_cases c : k = j
    · subst c
      rw [List.getElem?_set_self hj] at h
      cases h
      exact ⟨a, h1, vs, ha, r⟩
    · rw [set_get_ne c] at h
      exact E.own k d h
  · by_cases c1 : k = j
    · by_cases c2 : m = j
      · rw [c1, c2]
      · subst c1
        rw [h1] at q3
        cases q3
        rw [set_get_ne c2] at q2
        exact absurd (.inr rfl) (E.zdis a ⟨m, e, q2, q4⟩)
    · rw [set_get_ne c1] at q1
      by_cases c2 : m = j
      · subst c2
        rw [h1] at q4
        cases q4
        exact absurd (.inr rfl) (E.zdis a ⟨k, d, q1, q3⟩)
      · rw [set_get_ne c2] at q2
        exact E.inj k m d e b q1 q2 q3 q4
  · rcases ow b z with y | y
    · rw [y] at q; exact nZ q
    · exact E.zdis b y (.inl q)
  · rcases ow b z with y | y
    · rw [y]; exact hBa
    · exact Sme.none hB (S.free b y)
theorem RetOk.away {P P' : Addr → Prop} (hp : ∀ b, P' b → P b) {v : V} {d : D} {fr : Bool} (h : RetOk K P B H v d fr) : RetOk K P' B H v d fr := by
  obtain ⟨h1, h2, h3⟩ := h
  refine ⟨h1, h2, ?_⟩
  cases fr with
  | true =>
    obtain ⟨b, k1, k2, k3⟩ := h3
    exact ⟨b, k1, k2, k3.less fun c q => q.imp (hp c) id⟩
  | false => exact Rp.mono (hide_mono (fun b _ _ q => hp b q) fun _ _ _ q => q) _ _ h3
end
section
variable {K : PySem.W.Frag} {W : Str → Hp → Prop} {X : Cx} {is : List Nat} {j : Nat} {g : TG} {tgt : GF} {tb : TS} {body : SF}
theorem sk_forW (hg : SemGK K (j :: is) g tgt) (hb : SemSK K W (j :: is) tb body) : SemSK K W is (tFor (iList K (tVar j)) g tb) (sForW j tgt body) := by
  intro Z B σ H ρ fl S e Dn w
  unfold sForW at e
  split at e
  · rename_i ds e0
    obtain ⟨f0, e1, e⟩ := Option.bind_eq_some_iff.mp e
    have E := S.env
    obtain ⟨a, a1, vs, a2, a3⟩ := E.own j _ e0
    have owa : Ow σ ρ a := ⟨j, _, e0, a1⟩
    have hl : j < ρ.length := (List.getElem?_eq_some_iff.mp e0).1
    have EL := away_env E e0 a1 a2
    obtain ⟨ow, pz⟩ := away_pz E e0 a1
    obtain ⟨ρL, eL⟩ : ∃ x, x = ρ.set j .emp := ⟨_, rfl⟩
    rw [← eL] at EL ow pz e1
    let Z' : Addr → Prop := fun b => Z b ∨ b = a
    let B' : Hp := hide (Ow σ ρL) H
    have B'a : B' a = some (.lst vs) := hide_some.mpr ⟨fun z => (ow a z).2 rfl, a2⟩
    have sB : Sme B B' := S.base.hideN fun b q => S.free b (ow b q).1
    have sG : Sme (hide (Pz Z σ ρ) H) B' := hide_mono (fun b _ _ q => .inr (ow b q).1) fun _ _ _ q => q
    have SL : StOk K Z' B' H σ ρL := ⟨EL, hide_same H, fun b q => by
      cases h : B' b with
      | none => rfl
      | some o => exact absurd q (hide_some.mp h).1⟩
    have gst : ∀ {σ' : L2.St} {H' : Hp} {ρ' : En}, StOk K Z' B' H' σ' ρ' → Sme (hide (Pz Z σ ρ) H) (hide (Pz Z' σ' ρ') H') := fun {σ' H' ρ'} S' => (Sme.trans sG S'.base).hideN fun b z => by
      rcases z with (z | z) | z
      · unfold hide
        exact if_pos (.inl z)
      · unfold hide
        exact if_pos (.inr (by rw [z]; exact owa))
      · exact sG.none (S'.free b z)
    have len' : ∀ {σ' : L2.St} {H' : Hp} {ρ' : En}, StOk K Z' B' H' σ' ρ' → σ'[j]? = some (some (.ref a)) → j < ρ'.length := fun {σ' H' ρ'} S' h => by rw [← S'.env.len]; exact (List.getElem?_eq_some_iff.mp h).1
    have jok : JOk2 K B' (hide (Pz Z σ ρ) H) (Itl K a) ds := jok_list B'a a3
    refine ⟨.ref a, a1, a, rfl, ⟨vs, SqL.of a2⟩, ?_⟩
    refine loop_core hg hb jok SL (Sme.refl B') gst e1 (?_ : WantK K W (j :: is) Z' B' σ Dn f0)
    cases f0 with
    | nx ρ' =>
      cases e
      intro σ' H' S' k
      have h1 : σ'[j]? = some (some (.ref a)) := (k j List.mem_cons_self).trans a1
      refine w σ' H' ?_ fun i hi => k i (List.mem_cons_of_mem _ hi)
      exact back_env S' (len' S' h1) h1 (S'.base.get _ _ B'a trivial) (fun z => E.zdis a owa z) sB (S.free a owa) (RpL.mono (gst S') _ _ a3)
    | bk ρ' => cases e
    | ct ρ' => cases e
    | rt d fr =>
      cases e
      exact fun v H q => w v H ((q.base sB).away fun b z => .inl z)
    | ex n =>
      cases e
      exact fun H q => w H (sB.trans q)
    | rn d =>
      cases e
      exact fun v H q => w v H (q.base sB)
  · cases e
theorem ss_of_k {t : TS} {f : SF} (h : SemSK K W is t f) : SemS K W t f := by
  intro Z B σ H ρ fl S e Dn w
  refine h Z B σ H ρ fl S e Dn ?_
  cases fl with
  | nx ρ' => exact fun σ' H' S' _ => w σ' H' S'
  | bk ρ' => exact fun σ' H' S' _ => w σ' H' S'
  | ct ρ' => exact fun σ' H' S' _ => w σ' H' S'
  | rt d fr => exact w
  | ex n => exact w
  | rn d => exact w
theorem gk_forW {tg : Expr} {bd : List Stmt} {pos : Pos} {x : Str} {np : Pos} (hp : PassesOwn (model X.prog X.w) X.A X.env X.xe) (hc : X.calm = true) (hg : GGK K X (j :: is) tg g tgt) (hb : GSKs K X W (j :: is) bd tb body)
    (hi : X.N[j]? = some x := by rfl) (hvi : Vis X.env.scope x := by first | exact Or.inl rfl | exact Or.inr (Or.inl rfl) | exact Or.inr (Or.inr rfl)) (hd : (x == ("__debug__" : Str)) = false := by decide) (hcd : (x == ("__classdict__" : Str)) = false := by decide)
    (hs : ∀ z, foldedSetIterable (.Name x np) X.env z = pure z := by intro _; rfl) (hk : X.K = K := by rfl) : GSK K X W is (.For tg (.Name x np) bd [] pos) (tFor (iList K (tVar j)) g tb) (sForW j tgt body) := by
  subst hk
  exact ⟨ps_for hp hc (pi_list (pe_var hi hvi hd hcd)) hg.p hb.p hs, sk_forW hg.s hb.s⟩
theorem gs_ofK {st : Stmt} {t : TS} {f : SF} (h : GSK K X W is st t f) : GS K X W st t f := ⟨h.p, ss_of_k h.s⟩
end
@[simp] theorem ev_forW {j : Nat} {tgt : GF} {body : SF} {ρ : En} : sForW j tgt body ρ = (match ρ[j]? with
  | some (.own (.lst ds)) => (loopF tgt body ds (ρ.set j .emp)).bind (backW j ds)
  | _ => none) := (rfl)
@[simp] theorem backW_nx {j : Nat} {ds : List D} {ρ : En} : backW j ds (.nx ρ) = some (.nx (ρ.set j (.own (.lst ds)))) := (rfl)
@[simp] theorem backW_rt {j : Nat} {ds : List D} {d : D} {b : Bool} : backW j ds (.rt d b) = some (.rt d b) := (rfl)
end Fb
set_option maxHeartbeats 2000000
/-! FbQ: methods that may raise, called where they do not; sorted(set(a tuple)). -/
namespace Fb
open PySem PySem.Spec L2
variable [γ : GSt]
def MOkX (P : Program) (w : World) (K : PySem.W.Frag) (mg : Str → Option Value) (base : Heap) (k : Nat) (m : Str) (n : Nat) (C : Addr) (F : FF) : Prop :=
  ∃ (f : Addr) (fd : FuncData) (ps : List Str), Cls K C ∧ Meth K C m f ∧ FnOk P w K mg base (L2.CX P w) k f fd ps (spD K mg n F) ∧ Binds K fd ps []
def tMethX (P : Program) (w : World) (K : PySem.W.Frag) (mg : Str → Option Value) (base : Heap) (k : Nat) (m : Str) (n : Nat) (E : XK) (ta : TE) (t : TA) : TE := fun σ H Q => ta σ H fun x H1 => ∃ a C dx F, x = .ref a ∧ H1 a = some (.ins C dx []) ∧ MOkX P w K mg base k m n C F ∧ t σ H1 fun vs H2 => spD K mg n F (x :: vs) H2 Q E
section
variable {X : Cx} {K : PySem.W.Frag} {mg : Str → Option Value} {k n : Nat} {m : Str} {o e : Expr} {es : List Expr} {ta : TE} {t : TA} {E : XK} {pos apos : Pos}
theorem pe_methX {pl : Sem Bool} (he : PE X o ta) (hr : Room k X.A) (hp : Passes (L2.CX X.prog X.w) X E) (ha : PA X (e :: es) t)
    (hst : starEach (e :: es) X.env = (false, eval e X.env) :: starEach es X.env := by rfl) (hpl : (backTo pos (starEach es X.env)).any (·.1) = false := by rfl)
    (ht : eval (.Call (.Attribute o m apos) (e :: es) [] pos) X.env = (do
      let ov ← eval o X.env
      standAt apos.atName
      let (f, first) ← holding [ov] (getMethod ov m pl)
      callWith pos f first (backTo pos (starEach (e :: es) X.env)) (backToKw pos (keywordEach [] X.env))) := by rfl) :
    PE X (.Call (.Attribute o m apos) (e :: es) [] pos) (tMethX X.prog X.w X.K X.mg X.base k m n E ta t) := by
  refine ⟨fun pins s σ H Q I h => ?_⟩
  refine PySem.W.methodCall_KW (pl := pl) (thn (he.run pins s σ H _ I h) fun u s1 y => ?_) ht
  obtain ⟨x, H1, I1, rx, a, C, dx, F, ex, ea, ⟨f, fd, ps, c, hm, hF, hb⟩, q⟩ := y
  subst ex
  have eu : u = Value.ref a := rx
  subst eu
  refine getmeth_ok I1 ea c hm rfl (PySem.W.callWith_K (first := [.ref a]) (h₀ := X.base) I.ok.mod.kin hm.kp (thn (ha.run pos pins s1 σ H1 _ I1 q) fun us s2 y2 => ?_) hst hpl)
  obtain ⟨vs, H2, I2, r, q2⟩ := y2
  refine ⟨I2.kIn, run_fn (us := .ref a :: us) (vs := .ref a :: vs) (ds := []) (dvs := []) hF hr hb .nil hp I2 (.cons rfl r) ?_⟩
  rw [List.append_nil]
  exact q2
theorem se_methX {P : Program} {w : World} {base : Heap} {E0 : XK} {disp : Addr → Option FF} {fo : EF} {fa : AF} (hd : ∀ C F, disp C = some F → MOkX P w K mg base k m n C F) (ho : SemE K ta fo) (h : SemA K t fa) (hn : ∀ ρ rs, fa ρ = some rs → rs.length + 1 = n) :
    SemE K (tMethX P w K mg base k m n E0 ta t) (eMeth disp fo fa) := by
  intro Z σ H ρ r E e Q q
  unfold eMeth at e
  split at e
  · rename_i C mo e0
    obtain ⟨F, e1, e⟩ := Option.bind_eq_some_iff.mp e
    obtain ⟨rs, e2, e⟩ := Option.bind_eq_some_iff.mp e
    split at e
    · rename_i d fr e3
      cases e
      refine ho Z σ H ρ _ E e0 _ fun x H1 s1 r1 => ?_
      have rp := (r1.opd E.pok).rp
      cases rp with
      | obj s0 =>
        refine ⟨_, C, _, F, rfl, s0, hd C F e1, h Z σ H1 ρ rs (E.mono s1) e2 _ fun vs H2 s2 r2 => ?_⟩
        have s12 := s1.trans s2
        have E2 := E.mono s12
        have oo : Opd K (Pz Z σ ρ) H2 (.ref _) ⟨.obj C, .av⟩ := Rp.immK E2.pok.stup _ _ rfl (.obj (s2 _ _ s0))
        have e4 : F ((⟨.obj C, .av⟩ :: rs).map R.d ++ []) = some (.val d fr) := by rw [List.append_nil]; exact e3
        have z := spD_met (mg := mg) (E0 := E0) (dvs := []) (dd := []) E2 s12 (.cons oo r2) (fun _ => .nil) (by first | exact hn ρ rs e2 | (rw [List.length_cons]; exact hn ρ rs e2)) e4 q
        rw [List.append_nil] at z
        exact z
    · cases e
  · cases e
theorem ge_methX {pl : Sem Bool} {disp : Addr → Option FF} {fo : EF} {fa : AF} (hd : ∀ C F, disp C = some F → MOkX X.prog X.w K mg X.base k m n C F) (hr : Room k X.A) (ho : GE K X o ta fo) (ha : GA K X (e :: es) t fa) (hn : ∀ ρ rs, fa ρ = some rs → rs.length + 1 = n)
    (hst : starEach (e :: es) X.env = (false, eval e X.env) :: starEach es X.env := by rfl) (hpl : (backTo pos (starEach es X.env)).any (·.1) = false := by rfl)
    (ht : eval (.Call (.Attribute o m apos) (e :: es) [] pos) X.env = (do
      let ov ← eval o X.env
      standAt apos.atName
      let (f, first) ← holding [ov] (getMethod ov m pl)
      callWith pos f first (backTo pos (starEach (e :: es) X.env)) (backToKw pos (keywordEach [] X.env))) := by rfl) (eK : X.K = K := by rfl) (eM : X.mg = mg := by rfl) :
    GE K X (.Call (.Attribute o m apos) (e :: es) [] pos) (tMethX X.prog X.w K mg X.base k m n (fun _ _ _ => False) ta t) (eMeth disp fo fa) := by
  subst eK eM
  exact ⟨pe_methX (pl := pl) ho.p hr passF ha.p hst hpl ht, se_methX hd ho.s ha.s hn⟩
end
section
variable {P : Program} {w : World} {base : Heap} {X : Cx} {K : PySem.W.Frag} {mg : Str → Option Value} {k n : Nat} {m : Str} {o e : Expr} {es : List Expr} {ta : TE} {t : TA} {pos apos : Pos}
/-- within a comprehension's block -/
theorem ge_methC {pl : Sem Bool} {disp : Addr → Option FF} {fo : EF} {fa : AF} (hd : ∀ C F, disp C = some F → MOk P w K mg base k m n C F) (hr : Room k X.A) (ho : GE K X o ta fo) (ha : GA K X (e :: es) t fa) (hn : ∀ ρ rs, fa ρ = some rs → rs.length + 1 = n)
    (hst : starEach (e :: es) X.env = (false, eval e X.env) :: starEach es X.env := by rfl) (hpl : (backTo pos (starEach es X.env)).any (·.1) = false := by rfl)
    (ht : eval (.Call (.Attribute o m apos) (e :: es) [] pos) X.env = (do
      let ov ← eval o X.env
      standAt apos.atName
      let (f, first) ← holding [ov] (getMethod ov m pl)
      callWith pos f first (backTo pos (starEach (e :: es) X.env)) (backToKw pos (keywordEach [] X.env))) := by rfl) (eK : X.K = K := by rfl) (eM : X.mg = mg := by rfl) (eP : X.prog = P := by rfl) (eW : X.w = w := by rfl) (eB : X.base = base := by rfl) :
    GE K X (.Call (.Attribute o m apos) (e :: es) [] pos) (tMethD P w K mg base k m n E0 ta t) (eMeth disp fo fa) := by
  subst eP eW eB
  exact ge_meth (pl := pl) hd hr ho ha hn hst hpl ht eK eM
theorem ge_methXC {pl : Sem Bool} {disp : Addr → Option FF} {fo : EF} {fa : AF} (hd : ∀ C F, disp C = some F → MOkX P w K mg base k m n C F) (hr : Room k X.A) (ho : GE K X o ta fo) (ha : GA K X (e :: es) t fa) (hn : ∀ ρ rs, fa ρ = some rs → rs.length + 1 = n)
    (hst : starEach (e :: es) X.env = (false, eval e X.env) :: starEach es X.env := by rfl) (hpl : (backTo pos (starEach es X.env)).any (·.1) = false := by rfl)
    (ht : eval (.Call (.Attribute o m apos) (e :: es) [] pos) X.env = (do
      let ov ← eval o X.env
      standAt apos.atName
      let (f, first) ← holding [ov] (getMethod ov m pl)
      callWith pos f first (backTo pos (starEach (e :: es) X.env)) (backToKw pos (keywordEach [] X.env))) := by rfl) (eK : X.K = K := by rfl) (eM : X.mg = mg := by rfl) (eP : X.prog = P := by rfl) (eW : X.w = w := by rfl) (eB : X.base = base := by rfl) :
    GE K X (.Call (.Attribute o m apos) (e :: es) [] pos) (tMethX P w K mg base k m n (fun _ _ _ => False) ta t) (eMeth disp fo fa) := by
  subst eP eW eB
  exact ge_methX (pl := pl) hd hr ho ha hn hst hpl ht eK eM
end
/-! ### sorted(set(xs)) of a tuple -/
open PyProof.Rows in
def tSrtSetT (K : PySem.W.Frag) (ta : TE) : TE := fun σ H Q => ta σ H fun x H1 => ∃ (l : Addr) (ns : List Int), x = .ref l ∧ SqT K H1 l (ns.map V.int) ∧ ns.length < 60 ∧ ∀ p, H1 p = none → Q (.ref p) (upd H1 p (.lst ((uSet ns).map V.int)))
section
open PyProof.Rows
variable {X : Cx} {a : Expr} {ta : TE} {fa : EF} {p p2 q pos : Pos} {K : PySem.W.Frag}
theorem pe_srtSetT (hc : X.calm = true) (hg : Gl X "sorted") (hm : X.mg "sorted" = none) (hg2 : Gl X "set") (hm2 : X.mg "set" = none) (ha : PE X a ta) (hbs : bootBuiltins "sorted" = some (.builtin "sorted") := by decide +kernel)
    (na : starEach [a] X.env = (false, eval a X.env) :: starEach [] X.env := by rfl) : PE X (.Call (.Name "sorted" p) [.Call (.Name "set" p2) [a] [] q] [] pos) (tSrtSetT X.K ta) := by
  refine ⟨fun pins s σ H Q I h => ?_⟩
  refine Call_ (ld_blt I hg hm hbs (callWith_builtin1 (args_cons ?_ rfl) rfl rfl))
  refine Call_ (ld_blt I hg2 hm2 boot_set (callWith_type1 (args_cons (thn (ha.run pins s σ H _ I h) fun v s1 ⟨x, H1, I1, r1, q1⟩ => args_nil ?_) na) na rfl))
  obtain ⟨l, ns, rfl, hq, hl, q1⟩ := q1
  cases r1
  obtain ⟨its, r, pl, hz⟩ := I1.tuple hq
  have hd := I1.ok.hd hc
  refine call_set_tupI ns hd pl (by simpa using ints_vals r) (by unfold scanBound; omega) fun h' tk c R hcn k => args_nil ?_
  have I2 : Inv X pins σ H1 { s1 with heap := h', toks := tk } := I1.kept k
  refine sorted_set R hd (by omega) fun s' o out n out' k2 g2 o2 hp ho hi hlt hmem hlen => ?_
  have e : out' = uSet ns := lt_uniq hlt (uSet_lt ns) fun z => by rw [hmem, uSet_mem, decide_eq_true_eq]
  subst e
  have free : H1 o = none := I2.hok.fresh hp
  have fits : ((uSet ns).map V.int).length ≤ sizeLine := by
    have := uSet_len ns
    rw [List.length_map, sizeLine_eq]
    omega
  have J : Inv X pins σ (upd H1 o (.lst ((uSet ns).map V.int))) s' := I2.call' (ch := []) o2 (Un.laid k2 hp free) (I2.hok.laid k2 hp ⟨fits, out.toList, n, vals_ints hi, ho⟩) (by rw [g2]; exact I2.bare) fun _ z => nomatch z
  exact ⟨.ref o, _, J, rfl, q1 o free⟩
def eSrtSetT (fa : EF) : EF := fun ρ => (fa ρ).bind fun r => match r.d with
  | .tup ds => (intsD ds).bind fun ns => if ns.length < 60 then some ⟨.lst ((uSet ns).map .int), .fr⟩ else none
  | _ => none
theorem se_srtSetT (h : SemE K ta fa) : SemE K (tSrtSetT K ta) (eSrtSetT fa) := by
  intro Z σ H ρ r E e Q q
  obtain ⟨ra, e1, e⟩ := Option.bind_eq_some_iff.mp e
  split at e
  · rename_i ds ed
    obtain ⟨ns, e2, e⟩ := Option.bind_eq_some_iff.mp e
    split at e
    · rename_i hl
      cases e
      have hds := intsD_some e2
      subst hds
      refine h Z σ H ρ ra E e1 _ fun v H1 s1 rv => ?_
      obtain ⟨rd, rm⟩ := ra
      cases ed
      obtain ⟨b, vs, rfl, h1, h2, _⟩ := Opd.tupR (E.mono s1).pok (rv.opd E.pok)
      have e3 := h2.ints
      subst e3
      exact ⟨b, ns, rfl, h1, hl, fun p hp => q _ _ (s1.trans (same_upd hp)) ⟨p, rfl, Sme.none s1.toSme hp, _, upd_same, RpL.ofInts _⟩⟩
    · cases e
  · cases e
theorem ge_srtSetT (hc : X.calm = true) (hm : X.mg "sorted" = none) (hm2 : X.mg "set" = none) (ha : GE K X a ta fa) (hg : Gl X "sorted" := by rfl) (hg2 : Gl X "set" := by rfl) (hbs : bootBuiltins "sorted" = some (.builtin "sorted") := by decide +kernel)
    (na : starEach [a] X.env = (false, eval a X.env) :: starEach [] X.env := by rfl) (eK : X.K = K := by rfl) : GE K X (.Call (.Name "sorted" p) [.Call (.Name "set" p2) [a] [] q] [] pos) (tSrtSetT K ta) (eSrtSetT fa) := by
  subst eK
  exact ⟨pe_srtSetT hc hg hm hg2 hm2 ha.p hbs na, se_srtSetT ha.s⟩
@[simp] theorem ev_srtSetT {fa : EF} {ρ : En} : eSrtSetT fa ρ = (fa ρ).bind fun r => match r.d with
  | .tup ds => (intsD ds).bind fun ns => if ns.length < 60 then some ⟨.lst ((uSet ns).map .int), .fr⟩ else none
  | _ => none := (rfl)
end
end Fb
set_option maxHeartbeats 2000000
/-! FbR: an exception that is caught and kept in a variable: try: .. except X as e: v = e. -/
namespace Fb
open PySem PySem.Spec L2 PyProof.Rows
variable [γ : GSt]

/-- a caught exception is laid into the abstract heap -/
theorem keep_exc {X : Cx} {pins : List (Addr × Obj)} {σ : L2.St} {H : Hp} {s : Shared} {a : Addr} {oe : Obj} (I : Inv X pins σ H s) (ha : s.heap.get? a = some oe) (na : H a = none) (new : X.s_0.heap.get? a = none) (nL : a ≠ X.env.locals)
    (nC : ∀ x c, X.env.cells.lookup x = some c → c ≠ a) (nP : ∀ p ∈ X.pn ++ pins, p.1 ≠ a) : Inv X pins σ (upd H a (.frz oe (.ext fun _ => True))) s where
  ok := I.ok
  os := I.os
  bare := I.bare
  base := {
    keep := I.base.keep
    slot := I.base.slot
    free := fun b o e n x => by
      rw [upd_ne fun c => by rw [c, new] at e; cases e]
      exact I.base.free b o e n x
    there := I.base.there
    tups := fun b xs e => by
      have z := I.base.tups b xs e
      rw [upd_ne (ne_of_none z na)]
      exact z
    frzs := fun b o u e => by
      have z := I.base.frzs b o u e
      rw [upd_ne (ne_of_none z na)]
      exact z
    tbls := fun b ps e => by
      obtain ⟨m, z⟩ := I.base.tbls b ps e
      exact ⟨m, by rw [upd_ne (ne_of_none z na)]; exact z⟩ }
  loc := I.loc
  cell := I.cell
  free := by
    rw [upd_ne (Ne.symm nL)]
    exact I.free
  freeC := fun x c e => by
    rw [upd_ne (nC x c e)]
    exact I.freeC x c e
  pin := fun p hp => by
    obtain ⟨p1, p2, p3⟩ := I.pin p hp
    exact ⟨p1, by rw [upd_ne (nP p hp)]; exact p2, p3⟩
  hok := fun b u e => by
    by_cases c : b = a
    · subst c
      rw [upd_same] at e
      cases e
      exact ⟨ha, trivial, ⟨oe, ha⟩, fun _ _ _ _ => trivial⟩
    · rw [upd_ne c] at e
      exact (I.hok b u e).stay (fun _ _ _ z => z) (fun q z => by rw [upd_ne (ne_of_none z na)]; exact z) fun q xs z => by
        rw [upd_ne (ne_of_none z na)]
        exact z
  len := I.len
/-- what the clause except c as (slot i): (slot j) = (slot i) wishes -/
def wKept (K : PySem.W.Frag) (c : Value) (i j : Nat) (D : Ends) : WX := fun cls d σ H => PySem.W.exmOne K cls c = some true ∧ d = none ∧
  ∀ (a : Addr) (oe : Obj) (xs : Array Value), H a = none → Zc cls none oe → oe.data = .fields xs → D.nx (((σ.set i (some (.ref a))).set j (some (.ref a))).set i none) (upd H a (.frz oe (.ext fun _ => True)))
section
variable {X : Cx} {x n y : Str} {c : Value} {i j : Nat} {body : List Stmt} {np np2 yp pos pos' pos2 : Pos} {tb : WX → TS}
theorem ps_try_kept (hst : X.stack = X.env :: X.outer) (hfr0 : X.env.frame = some X.env.locals) (hex : X.ex = []) (hN : X.N.Nodup) (hi : X.N[i]? = some n) (hj : X.N[j]? = some y) (hln : X.env.kindOf n = some .local) (hly : Loc X.env.scope y) (hc : Names X x c)
    (hv : Vis X.env.scope n) (hdn : (n == ("__debug__" : Str)) = false) (hcd : (n == ("__classdict__" : Str)) = false) (hsw : swapsWith (.Name n np2) (some (.Name y yp)) pos2.line X.env = pure false) (hfy : X.fn y = true ∨ X.env.scope.names.lookup y = some .local)
    (hb : ∀ (W : WX) (pn : List (Addr × Obj)) (xe : Value → Shared → Prop), Takes (X.tr pn xe) W → PassesOwn (model X.prog X.w) X.A X.env xe → PSs (X.tr pn xe) body (tb W)) :
    PS X (.Try body [.ExceptHandler (some (.Name x np)) (some n) [.Assign [.Name y yp] (.Name n np2) pos2] pos'] [] [] pos) (fun D σ H => tb (wKept X.K c i j D) D σ H) := by
  refine ⟨fun ps s σ H D I wish => wpAny_Try_except ?_⟩
  have frs0 : X.A.frames = some (X.env :: X.outer) := by rw [I.ok.frames, hst]
  refine wpAny_mono ((hb (wKept X.K c i j D) (X.pn ++ ps) _ ?_ PassesOwn.looking).run [] s σ H D (I.toTry _) wish) ?_ fun _ _ z => z
  · intro u s' air
    obtain ⟨a, B, sI, q, σ1, H1, cls, d, rfl, I1, nb, up, sky, na, os, ag, hb1, rfl, go⟩ := air
    have J := I1.ofTry I.ok
    have sk : Sky B (X.env :: X.outer) a (Zc cls none) X.env.locals s'.heap := by rw [← hst]; exact sky
    refine Sky.land Zc.steady frs0 hfr0 sk fun h1 fl1 up1 => ?_
    have J1 : Inv X ps σ1 H1 { s' with heap := h1 } := J.landed nb fl1.1 (up.trans up1) os ag
    obtain ⟨o1, x1, e1, z1, d1⟩ := fl1.there
    have nfr : a ∉ frs (X.env :: X.outer) := fun m => by
      obtain ⟨_, o', e', hn⟩ := fl1.2.2.1.mem m
      rw [e1] at e'
      cases e'
      exact hn _ d1
    have locIn : X.env.locals ∈ frs (X.env :: X.outer) := List.mem_filterMap.mpr ⟨_, List.mem_cons_self, hfr0⟩
    have nL : a ≠ X.env.locals := fun z => nfr (z ▸ locIn)
    have nF : a ∉ X.fs := fun m => by
      obtain ⟨e, m1, m2⟩ := List.mem_filterMap.mp m
      exact nfr (List.mem_filterMap.mpr ⟨e, .tail _ m1, m2⟩)
    have Ba : B.get? a = none := fl1.2.1
    have new : X.s_0.heap.get? a = none := by
      cases e : X.s_0.heap.get? a with
      | none => rfl
      | some o =>
        obtain ⟨o2, e2⟩ := J.base.there a o e (by rw [hex]; exact fun z => nomatch z)
        have := nb a o2 e2 (by rw [hst]; exact nfr)
        rw [Ba] at this
        cases this
    have nP : ∀ p ∈ X.pn ++ ps, p.1 ≠ a := fun p hp z => by
      obtain ⟨p1, _, p3, p4, _⟩ := J.pin p hp
      have := nb p.1 p.2 p1 (by
        rw [hst]
        intro m
        obtain ⟨e, m1, m2⟩ := List.mem_filterMap.mp m
        rcases List.mem_cons.mp m1 with r | r
        · rw [r, hfr0] at m2
          exact p3 (Option.some.inj m2).symm
        · exact p4 (List.mem_filterMap.mpr ⟨e, r, m2⟩))
      rw [z, Ba] at this
      cases this
    have T1 := J1.suite e1 d1 na nL nF
    refine wpAny_handleBy_cons (codeAny_handlers_test ?_) fun z => nomatch z
    have is : PySem.W.Looks (model X.prog X.w) h1 (typeOf (.ref a)) cls := fun _ _ _ _ k r => wpAny_typeOf_ref (k _ _ e1) (by rw [z1.1]; exact r)
    have fits := PySem.W.exm_one (M := model X.prog X.w) J1.kIn is hb1
    have look : ∀ {Q E : Value → Shared → Prop}, Q c { s' with heap := h1 } → wpAny (model X.prog X.w) (X.A.mark (some (.ref a))) (eval (.Name x np) X.env) Q E { s' with heap := h1 } := fun {Q E} r => by
      obtain ⟨c1, c2, c3⟩ := hc
      rcases c3 with c3 | ⟨c3, c4, c5⟩
      · exact ld_glob (X := X.suite a ((a, o1) :: (X.pn ++ ps))) T1 c1 c3 r c2
      · exact ld_blt (X := X.suite a ((a, o1) :: (X.pn ++ ps))) T1 c1 c3 c4 r c5 c2
    refine look (fits.here (codeAny_handlers_suite_as ?_))
    refine HandSPX.lands_againZ fl1 fun h2 fl2 up2 => ?_
    have J2 : Inv X ps σ1 H1 { s' with heap := h2 } := J.landed nb fl2.1 ((up.trans up1).trans up2) os ag
    obtain ⟨o2, x2, e2, z2, d2⟩ := fl2.there
    have T2 := J2.suite e2 d2 na nL nF
    refine store_ok (X := X.suite a ((a, o2) :: (X.pn ++ ps))) (v := .ref a) T2 hN hi (.inl hln) rfl (fun s3 T3 => ?_) (.inr hln)
    have hiσ : i < σ1.length := by rw [J2.len]; exact (List.getElem?_eq_some_iff.mp hi).1
    have suite : PSs (X.suite a ((a, o2) :: (X.pn ++ ps))) [.Assign [.Name y yp] (.Name n np2) pos2] (tAsg (tVar i) (gName j)) := pss_one (ps_set hN hj hly (pe_var hi hv hdn hcd) hsw hfy)
    refine wpAny_mono (suite.run [] s3 _ H1 { D with nx := fun σ' H' => D.nx (σ'.set i none) (upd H' a (.frz o2 (.ext fun _ => True))), rt := fun _ _ => False, bk := fun _ _ => False, ct := fun _ _ => False } T3 ⟨.ref a, List.getElem?_set_self hiσ, go a o2 x2 na z2 d2⟩) ?_ fun _ _ z => z.elim
    intro f s4 out
    cases f with
    | next =>
      obtain ⟨σ4, H4, T4, fin⟩ := out
      obtain ⟨p1, p2, _, _, p5⟩ := T4.pin (a, o2) (List.mem_append.mpr (.inl List.mem_cons_self))
      have J4 := T4.unsuite I.ok
      have nC : ∀ v k, X.env.cells.lookup v = some k → k ≠ a := fun v k e z => by
        obtain ⟨w, o', c1, c2⟩ := J4.cell v k e
        rw [z, p1] at c1
        cases c1
        exact p5 w c2
      exact gone_ok (keep_exc J4 p1 p2 new nL nC nP) hN hi hln fun s5 J5 => ⟨_, _, J5, fin⟩
    | ret v =>
      obtain ⟨_, _, _, _, _, no⟩ := out
      exact no.elim
    | brk =>
      obtain ⟨_, _, _, no⟩ := out
      exact no.elim
    | cont =>
      obtain ⟨_, _, _, no⟩ := out
      exact no.elim
  · intro f s1 out
    cases f with
    | next => exact let ⟨σ1, H1, J1, q⟩ := out; wpAny_execs_nil ⟨σ1, H1, J1.ofTry I.ok, q⟩
    | brk => exact let ⟨σ1, H1, J1, q⟩ := out; ⟨σ1, H1, J1.ofTry I.ok, q⟩
    | cont => exact let ⟨σ1, H1, J1, q⟩ := out; ⟨σ1, H1, J1.ofTry I.ok, q⟩
    | ret v => exact let ⟨w, σ1, H1, J1, r, q⟩ := out; ⟨w, σ1, H1, J1.ofTry I.ok, r, q⟩
end
end Fb
set_option maxHeartbeats 2000000
/-! FbS: the meaning of try: .. except X as e: v = e; isinstance of what was caught. -/
namespace Fb
open PySem PySem.Spec L2
variable [γ : GSt]

/-- what a try's body wishes; what it raises, it raises with the slots as they were -/
def WantX (K : PySem.W.Frag) (mg : Str → Option Value) (Wx : WX) (Z : Addr → Prop) (B : Hp) (σ : L2.St) (ρ : En) (Dn : Ends) : Fl → Prop
  | .ex n => ∀ H', StOk K Z B H' σ ρ → ∀ C, mg n = some (.ref C) → Wx (.ref C) none σ H'
  | o => Want K (fun _ _ => False) Z B Dn o
def SemX (K : PySem.W.Frag) (mg : Str → Option Value) (tb : WX → TS) (f : SF) : Prop :=
  ∀ (Wx : WX) (Z : Addr → Prop) (B : Hp) (σ : L2.St) (H : Hp) (ρ : En) (fl : Fl), StOk K Z B H σ ρ → f ρ = some fl → ∀ Dn : Ends, WantX K mg Wx Z B σ ρ Dn fl → tb Wx Dn σ H
structure GX (K : PySem.W.Frag) (X : Cx) (mg : Str → Option Value) (st : List Stmt) (tb : WX → TS) (f : SF) : Prop where
  p : ∀ (Wx : WX) (pn : List (Addr × Obj)) (xe : Value → Shared → Prop), Takes (X.tr pn xe) Wx → PassesOwn (model X.prog X.w) X.A X.env xe → PSs (X.tr pn xe) st (tb Wx)
  s : SemX K mg tb f
section
variable {K : PySem.W.Frag} {Z : Addr → Prop} {B H : Hp} {σ : L2.St} {ρ : En} {i : Nat}
theorem ow_setEmp {a : Addr} (h : Ow (σ.set i none) (ρ.set i .emp) a) : Ow σ ρ a := by
  obtain ⟨j, e, h1, h2⟩ := h
  have hj : j ≠ i := fun hj => by
    subst hj
    rw [List.getElem?_set] at h1
    simp only [if_true] at h1
    split at h1 <;> cases h1
  rw [set_get_ne hj] at h1 h2
  exact ⟨j, e, h1, h2⟩
/-- a slot is forgotten -/
theorem StOk.setEmp (S : StOk K Z B H σ ρ) : StOk K Z B H (σ.set i none) (ρ.set i .emp) := by
  have less : ∀ b, Pz Z (σ.set i none) (ρ.set i .emp) b → Pz Z σ ρ b := fun b q => q.imp id ow_setEmp
  have e : Sme (hide (Pz Z σ ρ) H) (hide (Pz Z (σ.set i none) (ρ.set i .emp)) H) := hide_mono (fun b _ _ q => less b q) fun _ _ _ q => q
  have E := S.env
  have ne : ∀ {j : Nat} {x : Sl}, (ρ.set i .emp)[j]? = some x → x ≠ .emp → j ≠ i := fun {j x} h q c => by
    subst c
    rw [List.getElem?_set] at h
    simp only [if_true] at h
    split at h
    · cases h
      exact q rfl
    · cases h
  refine ⟨⟨by rw [List.length_set, List.length_set]; exact E.len, fun j x hj => ?_, fun j x hj => ?_, fun j k x y b h1 h2 h3 h4 => ?_, E.zok, fun b q => E.zdis b (ow_setEmp q), E.tab⟩, S.base, fun b q => S.free b (ow_setEmp q)⟩
  · have c := ne hj (fun z => nomatch z)
    rw [set_get_ne c] at hj ⊢
    obtain ⟨w, h1, h2⟩ := E.sh j x hj
    exact ⟨w, h1, Rp.mono e _ _ h2⟩
  · have c := ne hj (fun z => nomatch z)
    rw [set_get_ne c] at hj ⊢
    obtain ⟨w, h1, h2⟩ := E.own j x hj
    exact ⟨w, h1, h2.via (fun _ q _ => q) e⟩
  · have c1 := ne h1 (fun z => nomatch z)
    have c2 := ne h2 (fun z => nomatch z)
    rw [set_get_ne c1] at h1 h3
    rw [set_get_ne c2] at h2 h4
    exact E.inj j k x y b h1 h2 h3 h4
end
/-- try: f, except .. as slot i: slot j = slot i; cx: the classes of what is caught -/
def sTry (i j : Nat) (cx : Str → Option Addr) (f : SF) : SF := fun ρ => match f ρ with
  | some (.ex n) => if i ≠ j ∧ j < ρ.length then (cx n).map fun C => .nx ((ρ.set j (.sh (.exc C))).set i .emp) else none
  | r => r
def sMethX (disp : Addr → Option FF) (fo : EF) (fa : AF) : SF := fun ρ => match fo ρ with
  | some ⟨.obj C, _⟩ => (disp C).bind fun F => (fa ρ).bind fun rs => match F ((⟨.obj C, .av⟩ :: rs).map R.d) with
    | some (.val _ _) => some (.nx ρ)
    | some (.exc n) => some (.ex n)
    | _ => none
  | _ => none
section
variable {K : PySem.W.Frag} {X : Cx} {mg : Str → Option Value} {W : Str → Hp → Prop} {tb tb2 : WX → TS} {f g : SF} {body : List Stmt} {x n y : Str} {c : Value} {i j : Nat} {np np2 yp pos pos' pos2 : Pos}
theorem ss_try {cx : Str → Option Addr} (hcx : ∀ n C, cx n = some C → mg n = some (.ref C) ∧ PySem.W.exmOne K (.ref C) c = some true) (h : SemX K mg tb f) : SemS K W (fun D σ H => tb (wKept K c i j D) D σ H) (sTry i j cx f) := by
  intro Z B σ H ρ fl S e Dn w
  unfold sTry at e
  split at e
  · rename_i m e1
    split at e
    · rename_i hc
      obtain ⟨C, e2, e⟩ := Option.map_eq_some_iff.mp e
      subst e
      obtain ⟨g1, g2⟩ := hcx m C e2
      refine h _ Z B σ H ρ _ S e1 Dn fun H' S' C' g1' => ?_
      rw [g1] at g1'
      cases g1'
      refine ⟨g2, rfl, fun a oe xs na z d => ?_⟩
      have S2 := S'.mono (same_upd (K := K) (o := .frz oe (.ext fun _ => True)) na)
      have nP : ¬ Pz Z σ ρ a := fun q => by
        obtain ⟨o, k1, k2, _⟩ := S2.env.pok a q
        rw [upd_same] at k1
        cases k1
        exact k2
      have S3 := S2.setSh (i := j) (v := .ref a) (d := .exc C) (.exc (hide_some.mpr ⟨nP, upd_same⟩) z d) hc.2
      have S4 := S3.setEmp (i := i)
      have e : ((σ.set i (some (.ref a))).set j (some (.ref a))).set i none = (σ.set j (some (.ref a))).set i none := by
        rw [List.set_comm _ _ hc.1, List.set_set]
      rw [e]
      exact w _ _ S4
    · cases e
  · rename_i hn
    refine h _ Z B σ H ρ fl S e Dn ?_
    cases fl with
    | ex m => exact absurd e (hn m)
    | nx ρ' => exact w
    | bk ρ' => exact w
    | ct ρ' => exact w
    | rt d fr => exact w
    | rn d => exact w
theorem gs_try (i j : Nat) {cx : Str → Option Addr} (hcx : ∀ n C, cx n = some C → mg n = some (.ref C) ∧ PySem.W.exmOne K (.ref C) c = some true) (hN : X.N.Nodup) (hb : GX K X mg body tb f) (hcg : mg x = some c)
    (hst : X.stack = X.env :: X.outer := by rfl) (hfr : X.env.frame = some X.env.locals := by rfl) (hex : X.ex = [] := by rfl) (hi : X.N[i]? = some n := by rfl) (hj : X.N[j]? = some y := by rfl) (hln : X.env.kindOf n = some .local := by rfl) (hly : Loc X.env.scope y := by first | exact Or.inl rfl | exact Or.inr rfl)
    (hg : Gl X x := by rfl) (hdx : (x == ("__debug__" : Str)) = false := by decide) (hv : Vis X.env.scope n := by first | exact Or.inl rfl | exact Or.inr (Or.inl rfl) | exact Or.inr (Or.inr rfl)) (hdn : (n == ("__debug__" : Str)) = false := by decide) (hcd : (n == ("__classdict__" : Str)) = false := by decide)
    (hsw : swapsWith (.Name n np2) (some (.Name y yp)) pos2.line X.env = pure false := by rfl) (hfy : X.fn y = true ∨ X.env.scope.names.lookup y = some .local := by first | exact .inl rfl | exact .inr rfl) (eK : X.K = K := by rfl) (eM : X.mg = mg := by rfl) :
    GS K X W (.Try body [.ExceptHandler (some (.Name x np)) (some n) [.Assign [.Name y yp] (.Name n np2) pos2] pos'] [] [] pos) (fun D σ H => tb (wKept K c i j D) D σ H) (sTry i j cx f) := by
  subst eK eM
  exact ⟨ps_try_kept hst hfr hex hN hi hj hln hly ⟨hg, hdx, .inl hcg⟩ hv hdn hcd hsw hfy hb.p, ss_try hcx hb.s⟩
variable {CX : CXT} {k m : Nat} {fa : AF} {ta : TA} {G : FF} {fn : Addr} {fd : FuncData} {ps : List Str} {p apos cpos : Pos} {e : Expr} {es : List Expr}
theorem sx_set (h : SemA K ta fa) (hn : ∀ ρ rs, fa ρ = some rs → rs.length = m) : SemX K mg (fun Wx => tAsg (tCallS (spD K mg m G) (WE Wx) ta) (gName i)) (sSetX i G fa) := by
  intro Wx Z B σ H ρ fl S e Dn w
  obtain ⟨rs, e1, e⟩ := Option.bind_eq_some_iff.mp e
  have hd : ∀ H, RpL K H [] [] := fun _ => .nil
  refine h Z σ H ρ rs S.env e1 _ fun vs H1 s1 r1 => ?_
  have S1 := S.mono s1
  have go : ∀ {o : Out} {Q : VK} {E0 : XK}, G (rs.map R.d) = some o → OutMet K mg (Pz Z σ ρ) H Q E0 (okL rs) o → spD K mg m G vs H1 Q E0 := fun {o Q E0} e2 q => by
    have z := spD_met (dvs := []) (dd := []) (G := G) (n := m) S1.env s1 r1 hd (by simpa using hn ρ rs e1) (by simpa using e2) q
    rwa [List.append_nil] at z
  split at e
  · rename_i d fr e2
    obtain ⟨ρ', e3, e⟩ := Option.map_eq_some_iff.mp e
    cases e
    exact go e2 fun v H2 s2 q => w _ H2 (put_ok S s2 q e3)
  · rename_i d e2
    obtain ⟨ρ', e3, e⟩ := Option.map_eq_some_iff.mp e
    cases e
    exact go e2 fun v H2 s2 q => w _ H2 (put_ok S s2 q e3)
  · rename_i x e2
    cases e
    exact go e2 fun C hC H2 s2 => w H2 (S.mono s2) C hC
  · cases e
theorem sx_call (h : SemA K ta fa) (hn : ∀ ρ rs, fa ρ = some rs → rs.length = m) : SemX K mg (fun Wx => tDrop (tCallS (spD K mg m G) (WE Wx) ta)) (sCallX G fa) := by
  intro Wx Z B σ H ρ fl S e Dn w
  obtain ⟨rs, e1, e⟩ := Option.bind_eq_some_iff.mp e
  have hd : ∀ H, RpL K H [] [] := fun _ => .nil
  refine h Z σ H ρ rs S.env e1 _ fun vs H1 s1 r1 => ?_
  have S1 := S.mono s1
  have go : ∀ {o : Out} {Q : VK} {E0 : XK}, G (rs.map R.d) = some o → OutMet K mg (Pz Z σ ρ) H Q E0 (okL rs) o → spD K mg m G vs H1 Q E0 := fun {o Q E0} e2 q => by
    have z := spD_met (dvs := []) (dd := []) (G := G) (n := m) S1.env s1 r1 hd (by simpa using hn ρ rs e1) (by simpa using e2) q
    rwa [List.append_nil] at z
  split at e
  · rename_i d fr e2
    cases e
    exact go e2 fun v H2 s2 _ => w σ H2 (S.mono s2)
  · rename_i d e2
    cases e
    exact go e2 fun v H2 s2 _ => w σ H2 (S.mono s2)
  · rename_i x e2
    cases e
    exact go e2 fun C hC H2 s2 => w H2 (S.mono s2) C hC
  · cases e
theorem gx_set {i : Nat} {z : Str} (F : FnOk X.prog X.w K mg X.base (L2.CX X.prog X.w) k fn fd ps (spD K mg m G)) (hr : Room k X.A) (hm : mg x = some (.ref fn)) (hk : PySem.W.keepIn K (.ref fn) = true) (hb : Binds K fd ps []) (hN : X.N.Nodup) (ha : ∀ pn xe, GA K (X.tr pn xe) (e :: es) ta fa)
    (hn : ArgN fa m) (hi : X.N[i]? = some z := by rfl) (hz : Loc X.env.scope z := by first | exact Or.inl rfl | exact Or.inr rfl) (hg : Gl X x := by rfl) (hdb : (x == ("__debug__" : Str)) = false := by decide) (he : starEach (e :: es) X.env = (false, eval e X.env) :: starEach es X.env := by rfl) (hpl : (backTo cpos (starEach es X.env)).any (·.1) = false := by rfl)
    (hsw : swapsWith (.Call (.Name x p) (e :: es) [] cpos) (some (.Name z yp)) pos.line X.env = pure false := by rfl) (hf : X.fn z = true ∨ X.env.scope.names.lookup z = some .local := by first | exact .inl rfl | exact .inr rfl) (eK : X.K = K := by rfl) (eM : X.mg = mg := by rfl) :
    GX K X mg [.Assign [.Name z yp] (.Call (.Name x p) (e :: es) [] cpos) pos] (fun Wx => tAsg (tCallS (spD K mg m G) (WE Wx) ta) (gName i)) (sSetX i G fa) := by
  subst eK eM
  refine ⟨fun Wx pn xe tk _ => pss_one ?_, sx_set (ha [] X.xe).s hn⟩
  exact ps_set (X := X.tr pn xe) hN hi hz (pe_callS (X := X.tr pn xe) F hr hg hm hk hb (fun σ => passAt tk σ) (ha pn xe).p hdb he hpl) hsw hf
theorem gx_call (F : FnOk X.prog X.w K mg X.base (L2.CX X.prog X.w) k fn fd ps (spD K mg m G)) (hr : Room k X.A) (hm : mg x = some (.ref fn)) (hk : PySem.W.keepIn K (.ref fn) = true) (hb : Binds K fd ps []) (ha : ∀ pn xe, GA K (X.tr pn xe) (e :: es) ta fa)
    (hn : ArgN fa m) (hg : Gl X x := by rfl) (hdb : (x == ("__debug__" : Str)) = false := by decide) (he : starEach (e :: es) X.env = (false, eval e X.env) :: starEach es X.env := by rfl) (hpl : (backTo cpos (starEach es X.env)).any (·.1) = false := by rfl)
    (hsw : swapsWith (.Call (.Name x p) (e :: es) [] cpos) none pos.line X.env = pure false := by rfl) (eK : X.K = K := by rfl) (eM : X.mg = mg := by rfl) :
    GX K X mg [.Expr (.Call (.Name x p) (e :: es) [] cpos) pos] (fun Wx => tDrop (tCallS (spD K mg m G) (WE Wx) ta)) (sCallX G fa) := by
  subst eK eM
  refine ⟨fun Wx pn xe tk _ => pss_one ?_, sx_call (ha [] X.xe).s hn⟩
  exact ps_expr (X := X.tr pn xe) (pe_callS (X := X.tr pn xe) F hr hg hm hk hb (fun σ => passAt tk σ) (ha pn xe).p hdb he hpl) hsw
def tMethXS (P : Program) (w : World) (K : PySem.W.Frag) (mg : Str → Option Value) (base : Heap) (k : Nat) (mt : Str) (n : Nat) (E : L2.St → XK) (ta : TE) (t : TA) : TE := fun σ H Q => ta σ H fun x H1 => ∃ a C dx F, x = .ref a ∧ H1 a = some (.ins C dx []) ∧ MOkX P w K mg base k mt n C F ∧ t σ H1 fun vs H2 => spD K mg n F (x :: vs) H2 Q (E σ)
theorem pe_methXS {X : Cx} {E : L2.St → XK} {o : Expr} {mt : Str} {tv : TE} {pl : Sem Bool} (he : PE X o tv) (hr : Room k X.A) (hp : ∀ σ, PassesAt (L2.CX X.prog X.w) X σ (E σ)) (ha : PA X (e :: es) ta)
    (hst : starEach (e :: es) X.env = (false, eval e X.env) :: starEach es X.env) (hpl : (backTo cpos (starEach es X.env)).any (·.1) = false)
    (ht : eval (.Call (.Attribute o mt apos) (e :: es) [] cpos) X.env = (do
      let ov ← eval o X.env
      standAt apos.atName
      let (f, first) ← holding [ov] (getMethod ov mt pl)
      callWith cpos f first (backTo cpos (starEach (e :: es) X.env)) (backToKw cpos (keywordEach [] X.env)))) :
    PE X (.Call (.Attribute o mt apos) (e :: es) [] cpos) (tMethXS X.prog X.w X.K X.mg X.base k mt m E tv ta) := by
  refine ⟨fun pins s σ H Q I h => ?_⟩
  refine PySem.W.methodCall_KW (pl := pl) (thn (he.run pins s σ H _ I h) fun u s1 got => ?_) ht
  obtain ⟨v, H1, I1, rv, a, C, dx, F, ev, ea, ⟨g, fd, ps, c, hm, hF, hb⟩, q⟩ := got
  subst ev
  have eu : u = Value.ref a := rv
  subst eu
  have args := ha.run cpos pins s1 σ H1 _ I1 q
  refine getmeth_ok I1 ea c hm rfl (PySem.W.callWith_K (first := [.ref a]) (h₀ := X.base) I.ok.mod.kin hm.kp (thn args fun us s2 got2 => ?_) hst hpl)
  obtain ⟨vs, H2, I2, r, q2⟩ := got2
  exact ⟨I2.kIn, run_fnS (us := .ref a :: us) (vs := .ref a :: vs) hF hr hb (hp σ) I2 (.cons rfl r) q2⟩
theorem sx_meth {P : Program} {w : World} {base : Heap} {mt : Str} {disp : Addr → Option FF} {fo : EF} {tv : TE} (hd : ∀ C F, disp C = some F → MOkX P w K mg base k mt m C F) (ho : SemE K tv fo) (h : SemA K ta fa) (hn : ∀ ρ rs, fa ρ = some rs → rs.length + 1 = m) :
    SemX K mg (fun Wx => tDrop (tMethXS P w K mg base k mt m (WE Wx) tv ta)) (sMethX disp fo fa) := by
  intro Wx Z B σ H ρ fl S e Dn wish
  unfold sMethX at e
  split at e
  · rename_i C mo e0
    obtain ⟨F, e1, e⟩ := Option.bind_eq_some_iff.mp e
    obtain ⟨rs, e2, e⟩ := Option.bind_eq_some_iff.mp e
    have go : ∀ {o : Out} {Q : VK}, F ((⟨.obj C, .av⟩ :: rs).map R.d) = some o → OutMet K mg (Pz Z σ ρ) H Q (WE Wx σ) (okL (⟨.obj C, .av⟩ :: rs)) o → tMethXS P w K mg base k mt m (WE Wx) tv ta σ H Q := fun {o Q} e3 q => by
      refine ho Z σ H ρ _ S.env e0 _ fun x H1 s1 r1 => ?_
      have rp := (r1.opd S.env.pok).rp
      cases rp with
      | obj s0 =>
        refine ⟨_, C, _, F, rfl, s0, hd C F e1, h Z σ H1 ρ rs (S.env.mono s1) e2 _ fun vs H2 s2 r2 => ?_⟩
        have s12 := s1.trans s2
        have E2 := S.env.mono s12
        have oo : Opd K (Pz Z σ ρ) H2 (.ref _) ⟨.obj C, .av⟩ := Rp.immK E2.pok.stup _ _ rfl (.obj (s2 _ _ s0))
        have e4 : F ((⟨.obj C, .av⟩ :: rs).map R.d ++ []) = some o := by rw [List.append_nil]; exact e3
        have z := spD_met (mg := mg) (E0 := WE Wx σ) (dvs := []) (dd := []) E2 s12 (.cons oo r2) (fun _ => .nil) (by first | exact hn ρ rs e2 | (rw [List.length_cons]; exact hn ρ rs e2)) e4 q
        rw [List.append_nil] at z
        exact z
    split at e
    · rename_i d fr e3
      cases e
      exact go e3 fun v H2 s2 _ => wish σ H2 (S.mono s2)
    · rename_i x e3
      cases e
      exact go e3 fun C' hC H2 s2 => wish H2 (S.mono s2) C' hC
    · cases e
  · cases e
theorem gx_meth {P : Program} {w : World} {base : Heap} {mt : Str} {o : Expr} {pl : Sem Bool} {disp : Addr → Option FF} {fo : EF} {tv : TE} (hd : ∀ C F, disp C = some F → MOkX P w K mg base k mt m C F) (hr : Room k X.A) (ho : ∀ pn xe, GE K (X.tr pn xe) o tv fo) (ha : ∀ pn xe, GA K (X.tr pn xe) (e :: es) ta fa) (hn : ∀ ρ rs, fa ρ = some rs → rs.length + 1 = m)
    (hst : starEach (e :: es) X.env = (false, eval e X.env) :: starEach es X.env := by rfl) (hpl : (backTo cpos (starEach es X.env)).any (·.1) = false := by rfl)
    (ht : eval (.Call (.Attribute o mt apos) (e :: es) [] cpos) X.env = (do
      let ov ← eval o X.env
      standAt apos.atName
      let (f, first) ← holding [ov] (getMethod ov mt pl)
      callWith cpos f first (backTo cpos (starEach (e :: es) X.env)) (backToKw cpos (keywordEach [] X.env))) := by rfl)
    (hsw : swapsWith (.Call (.Attribute o mt apos) (e :: es) [] cpos) none pos.line X.env = pure false := by rfl) (eK : X.K = K := by rfl) (eM : X.mg = mg := by rfl) (eP : X.prog = P := by rfl) (eW : X.w = w := by rfl) (eB : X.base = base := by rfl) :
    GX K X mg [.Expr (.Call (.Attribute o mt apos) (e :: es) [] cpos) pos] (fun Wx => tDrop (tMethXS P w K mg base k mt m (WE Wx) tv ta)) (sMethX disp fo fa) := by
  subst eK eM eP eW eB
  refine ⟨fun Wx pn xe tk _ => pss_one ?_, sx_meth hd (ho [] X.xe).s (ha [] X.xe).s hn⟩
  exact ps_expr (X := X.tr pn xe) (pe_methXS (X := X.tr pn xe) (pl := pl) (ho pn xe).p hr (fun σ => passAt tk σ) (ha pn xe).p hst hpl ht) hsw
theorem sx_if {ct : TT} {cf : TF} (hc : SemT K ct cf) (h1 : SemX K mg tb f) (h2 : SemX K mg tb2 g) : SemX K mg (fun Wx => tIfS ct (tb Wx) (tb2 Wx)) (sIf cf f g) := by
  intro Wx Z B σ H ρ fl S e Dn w
  have later : ∀ {H'}, Same K H H' → WantX K mg Wx Z B σ ρ Dn fl := fun _ => w
  unfold sIf at e
  split at e
  · rename_i e1
    refine hc Z σ H ρ _ S.env e1 _ fun H' s => ?_
    rw [if_pos rfl]
    exact h1 Wx Z B σ H' ρ fl (S.mono s) e Dn w
  · rename_i e1
    refine hc Z σ H ρ _ S.env e1 _ fun H' s => ?_
    rw [if_neg Bool.false_ne_true]
    exact h2 Wx Z B σ H' ρ fl (S.mono s) e Dn w
  · cases e
theorem gx_if {ce : Expr} {a b : List Stmt} {ct : TT} {cf : TF} (hc : ∀ pn xe, GT K (X.tr pn xe) ce ct cf) (ha : GX K X mg a tb f) (hb : GX K X mg b tb2 g) : GX K X mg [.If ce a b pos] (fun Wx => tIfS ct (tb Wx) (tb2 Wx)) (sIf cf f g) :=
  ⟨fun Wx pn xe tk po => pss_one (ps_if (hc pn xe).p (ha.p Wx pn xe tk po) (hb.p Wx pn xe tk po)), sx_if (hc [] X.xe).s ha.s hb.s⟩
end

/-! ### isinstance(e, C), e what was caught -/
def eIsE (f : Addr → Option Bool) (fa : EF) : EF := fun ρ => match fa ρ with
  | some ⟨.exc C, _⟩ => (f C).map ofB
  | _ => none
/-- what is known of an exception's class when isinstance asks -/
structure IsiE (K : PySem.W.Frag) (cv : Value) (C : Addr) (b : Bool) : Prop where
  ex : ExcC K C
  is : PySem.W.kitOne K (.ref C) cv = some b
def rIsEx (K : PySem.W.Frag) : List V → Hp → VK → Prop := fun xs H Q => ∃ (a C : Addr) (oe : Obj) (vs : Array Value) (φ : Heap → Prop) (c : V) (cv : Value) (b : Bool), xs = [.ref a, c] ∧ H a = some (.frz oe (.ext φ)) ∧ Zc (.ref C) none oe ∧ oe.data = .fields vs ∧
  ExcC K C ∧ (∀ u, RelV c u → u = cv) ∧ PySem.W.kitOne K (.ref C) cv = some b ∧ Q (.bl b) H
section
variable {X : Cx} {K : PySem.W.Frag} {mg : Str → Option Value} {ta : TE} {fa : EF} {a : Expr} {p p2 pos : Pos} {x : Str} {W : Addr}
theorem call_isEx : CallR X (.builtin "isinstance") (rIsEx X.K) := by
  intro pins s σ H xs us Q I r h
  obtain ⟨a, C, oe, vs, φ, c, cv, b, rfl, ha, hz, hv, E, hc, e, q⟩ := h
  cases r with
  | cons rx rr =>
    cases rr with
    | cons rt rr =>
      cases rr
      cases rx
      have ec := hc _ rt
      subst ec
      have hget : s.heap.get? a = some oe := (I.hok a _ ha).1
      obtain ⟨h1, h2⟩ := hz
      have J : PySem.W.InstAt s.heap a oe C none := by
        cases oe with
        | mk oc od dt sl =>
          dsimp only at h1 h2 hv
          subst h1 h2 hv
          exact ⟨hget, rfl, rfl, trivial⟩
      exact PySem.W.kia_one (PySem.W.handS_kitx_exc E.hg E.hk E.hs E.hd E.ha E.hn E.ht E.hm) I.kIn J e (fun z => nomatch z) fun tk => ⟨.bl b, H, I.kept (t' := tk) fun _ _ z => z, rfl, q⟩
theorem se_isE {f : Addr → Option Bool} {cvv : V} {cv : Value} (hcv : ∀ u, RelV cvv u → u = cv) (hf : ∀ C b, f C = some b → IsiE K cv C b) (h : SemE K ta fa) : SemE K (tCB (rIsEx K) (tCons ta (tCons (tC cvv) tNil))) (eIsE f fa) := by
  intro Z σ H ρ r E e Q q
  unfold eIsE at e
  split at e
  · rename_i C m e0
    obtain ⟨b, e1, e⟩ := Option.map_eq_some_iff.mp e
    subst e
    refine h Z σ H ρ _ E e0 _ fun x H1 s1 r1 => ?_
    have rp := (r1.opd E.pok).rp
    cases rp with
    | exc s0 z d =>
      have i := hf C b e1
      exact ⟨_, C, _, _, _, cvv, cv, b, rfl, s0, z, d, i.ex, hcv, i.is, q _ H1 s1 (.bl b)⟩
  · cases e
theorem ge_isE {f : Addr → Option Bool} (hf : ∀ C b, f C = some b → IsiE K (.ref W) C b) (hm : mg "isinstance" = none) (hw : mg x = some (.ref W)) (ha : GE K X a ta fa) (hg : Gl X "isinstance" := by rfl) (hg2 : Gl X x := by rfl)
    (hb : bootBuiltins "isinstance" = some (.builtin "isinstance") := by decide +kernel) (hdb : (x == ("__debug__" : Str)) = false := by decide)
    (h1 : starEach [a, .Name x p2] X.env = (false, eval a X.env) :: starEach [.Name x p2] X.env := by rfl) (h2 : starEach [.Name x p2] X.env = (false, eval (.Name x p2) X.env) :: starEach [] X.env := by rfl) (hpl : (backTo pos (starEach [.Name x p2] X.env)).any (·.1) = false := by rfl) (eK : X.K = K := by rfl) (eM : X.mg = mg := by rfl) :
    GE K X (.Call (.Name "isinstance" p) [a, .Name x p2] [] pos) (tCB (rIsEx K) (tCons ta (tCons (tC (.ref W)) tNil))) (eIsE f fa) := by
  subst eK eM
  exact ⟨pe_callB call_isEx hg hm hb (pa_cons ha.p (pa_cons (pe_glob (v := .ref W) hg2 hw rfl hdb) pa_nil h2) h1) (by decide) (by decide) h1 hpl, se_isE (fun u r => r) hf ha.s⟩
theorem ge_isEB {T : String} {f : Addr → Option Bool} (hf : ∀ C b, f C = some b → IsiE K (.type T) C b) (hm : X.mg "isinstance" = none) (hm2 : X.mg x = none) (hv : bootBuiltins x = some (.type T)) (ha : GE K X a ta fa) (hg : Gl X "isinstance" := by rfl) (hg2 : Gl X x := by rfl)
    (hb : bootBuiltins "isinstance" = some (.builtin "isinstance") := by decide +kernel) (hn : x ≠ "__name__" := by decide) (hdb : (x == ("__debug__" : Str)) = false := by decide)
    (h1 : starEach [a, .Name x p2] X.env = (false, eval a X.env) :: starEach [.Name x p2] X.env := by rfl) (h2 : starEach [.Name x p2] X.env = (false, eval (.Name x p2) X.env) :: starEach [] X.env := by rfl) (hpl : (backTo pos (starEach [.Name x p2] X.env)).any (·.1) = false := by rfl) (hk : X.K = K := by rfl) :
    GE K X (.Call (.Name "isinstance" p) [a, .Name x p2] [] pos) (tCB (rIsEx K) (tCons ta (tCons (tC (.ty T)) tNil))) (eIsE f fa) := by
  subst hk
  exact ⟨pe_callB call_isEx hg hm hb (pa_cons ha.p (pa_cons (pe_bltn (v := .ty T) hg2 hm2 hv rfl hn hdb) pa_nil h2) h1) (by decide) (by decide) h1 hpl, se_isE (fun u r => r) hf ha.s⟩
end
@[simp] theorem ev_try {i j : Nat} {cx : Str → Option Addr} {f : SF} {ρ : En} : sTry i j cx f ρ = match f ρ with
  | some (.ex n) => if i ≠ j ∧ j < ρ.length then (cx n).map fun C => .nx ((ρ.set j (.sh (.exc C))).set i .emp) else none
  | r => r := (rfl)
@[simp] theorem ev_methX {disp : Addr → Option FF} {fo : EF} {fa : AF} {ρ : En} : sMethX disp fo fa ρ = match fo ρ with
  | some ⟨.obj C, _⟩ => (disp C).bind fun F => (fa ρ).bind fun rs => match F ((⟨.obj C, .av⟩ :: rs).map R.d) with
    | some (.val _ _) => some (.nx ρ)
    | some (.exc n) => some (.ex n)
    | _ => none
  | _ => none := (rfl)
@[simp] theorem ev_isE {f : Addr → Option Bool} {fa : EF} {ρ : En} : eIsE f fa ρ = match fa ρ with
  | some ⟨.exc C, _⟩ => (f C).map ofB
  | _ => none := (rfl)
@[simp] theorem ev_setX {i : Nat} {G : FF} {fa : AF} {ρ : En} : sSetX i G fa ρ = (fa ρ).bind fun rs => match G (rs.map R.d) with
  | some (.val d fr) => (put i ⟨d, cMd (okL rs) fr d⟩ ρ).map .nx
  | some (.nw d) => (put i ⟨d, .av⟩ ρ).map .nx
  | some (.exc n) => some (.ex n)
  | none => none := (rfl)
end Fb
set_option maxHeartbeats 2000000
/-! FbT: x = f(a, x, b), where f takes the list x over and may change it; min of a list. -/
namespace Fb
open PySem PySem.Spec L2
variable [γ : GSt]

/-- the abstract heap without a -/
def offH (H : Hp) (a : Addr) : Hp := fun b => if b = a then none else H b
theorem offH_self {H : Hp} {a : Addr} : offH H a a = none := by
  unfold offH
  rw [if_pos rfl]
theorem offH_ne {H : Hp} {a b : Addr} (h : b ≠ a) : offH H a b = H b := by
  unfold offH
  rw [if_neg h]
theorem offH_some {H : Hp} {a b : Addr} {o : HO} (h : offH H a b = some o) : b ≠ a ∧ H b = some o := by
  by_cases c : b = a
  · rw [c, offH_self] at h
    cases h
  · rw [offH_ne c] at h
    exact ⟨c, h⟩
theorem offH_sme {H : Hp} {a : Addr} : Sme (offH H a) H := Sme.of fun b o h => (offH_some h).2
/-- a def that takes its argument j over -/
def spT (K : PySem.W.Frag) (n j : Nat) (G : FF) : Sp := fun vs H Q _ => vs.length = n ∧ TabsK K H ∧ ∃ (Z : Addr → Prop) (ds : List D) (dj : D) (a : Addr) (d' : D), POk Z H ∧ ¬ Z a ∧ ds.length = n ∧ vs[j]? = some (.ref a) ∧ ds[j]? = some dj ∧ OwnRp K (fun b => Z b ∨ b = a) H a dj ∧
  (∀ (i : Nat) (v : V) (d : D), i ≠ j → vs[i]? = some v → ds[i]? = some d → Rp K (hide (fun b => Z b ∨ b = a) H) v d) ∧ G ds = some (.val d' true) ∧ ∀ v H', RetOk K Z (offH H a) H' v d' true → Q v H'
/-- what its body makes of its arguments -/
def fnT (m j : Nat) (body : SF) : FF := fun ds => match ds[j]? with
  | some d => (match body ((ds.map Sl.sh).set j (.own d) ++ List.replicate m .emp) with
    | some (.rt d fr) => some (.val d fr)
    | _ => none)
  | none => none
section
variable {K : PySem.W.Frag} {mg : Str → Option Value} {P : Program} {w : World} {base : Heap}
theorem start_okT {Z : Addr → Prop} {H : Hp} {N : List Str} {vs : List V} {ds : List D} {m j : Nat} {a : Addr} {dj : D} (hm : N.length = vs.length + m) (hl : vs.length = ds.length) (hZ : POk Z H) (hT : TabsK K H) (na : ¬ Z a) (h1 : vs[j]? = some (.ref a)) (h2 : ds[j]? = some dj)
    (h3 : OwnRp K (fun b => Z b ∨ b = a) H a dj) (h4 : ∀ (i : Nat) (v : V) (d : D), i ≠ j → vs[i]? = some v → ds[i]? = some d → Rp K (hide (fun b => Z b ∨ b = a) H) v d) : StOk K Z (offH H a) H (L2.start N vs) ((ds.map Sl.sh).set j (.own dj) ++ List.replicate m .emp) := by
  have sl : (L2.start N vs).length = vs.length + m := by
    unfold L2.start
    rw [List.length_append, List.length_map, List.length_replicate]
    omega
  have hj : j < ds.length := (List.getElem?_eq_some_iff.mp h2).1
  have ln : ((ds.map Sl.sh).set j (.own dj)).length = ds.length := by rw [List.length_set, List.length_map]
  have sg : ∀ {i : Nat} {v : V}, vs[i]? = some v → (L2.start N vs)[i]? = some (some v) := fun {i v} e => by
    unfold L2.start
    rw [List.getElem?_append_left (by rw [List.length_map]; exact (List.getElem?_eq_some_iff.mp e).1), List.getElem?_map, e]
    rfl
  have rep : ∀ {i : Nat} {x : Sl}, ds.length ≤ i → ((ds.map Sl.sh).set j (.own dj) ++ List.replicate m .emp)[i]? = some x → x = .emp := fun {i x} c q => by
    rw [List.getElem?_append_right (by rw [ln]; exact c)] at q
    exact (List.mem_replicate.mp (List.mem_of_getElem? q)).2
  have own : ∀ {i : Nat} {d : D}, ((ds.map Sl.sh).set j (.own dj) ++ List.replicate m .emp)[i]? = some (.own d) → i = j ∧ d = dj := fun {i d} q => by
    by_cases c : i < ds.length
    · rw [List.getElem?_append_left (by rw [ln]; exact c)] at q
      by_cases e : i = j
      · rw [e, List.getElem?_set_self (by rw [List.length_map]; exact hj)] at q
        cases q
        exact ⟨e, rfl⟩
      · rw [set_get_ne e, List.getElem?_map] at q
        obtain ⟨x, _, z⟩ := Option.map_eq_some_iff.mp q
        cases z
    · have := rep (by omega) q
      cases this
  have ow : ∀ b, Ow (L2.start N vs) ((ds.map Sl.sh).set j (.own dj) ++ List.replicate m .emp) b → b = a := fun b ⟨i, d, q1, q2⟩ => by
    obtain ⟨rfl, _⟩ := own q1
    rw [sg h1] at q2
    cases q2
    rfl
  have pz : ∀ b, Pz Z (L2.start N vs) ((ds.map Sl.sh).set j (.own dj) ++ List.replicate m .emp) b → Z b ∨ b = a := fun b q => q.imp id (ow b)
  refine ⟨⟨?_, fun i d q => ?_, fun i d q => ?_, fun i k d e b q1 q2 _ _ => (own q1).1.trans (own q2).1.symm, hZ, fun b q => (ow b q) ▸ na, hT⟩, offH_sme, fun b q => (ow b q) ▸ offH_self⟩
  · rw [sl, List.length_append, ln, List.length_replicate, hl]
  · by_cases c : i < ds.length
    · rw [List.getElem?_append_left (by rw [ln]; exact c)] at q
      have e : i ≠ j := fun e => by
        rw [e, List.getElem?_set_self (by rw [List.length_map]; exact hj)] at q
        cases q
      rw [set_get_ne e, List.getElem?_map] at q
      obtain ⟨x, q1, z⟩ := Option.map_eq_some_iff.mp q
      cases z
      have hv : vs[i]? = some vs[i] := List.getElem?_eq_getElem (by omega)
      exact ⟨_, sg hv, Rp.mono (hide_mono (fun b _ _ z => pz b z) fun _ _ _ z => z) _ _ (h4 i _ d e hv q1)⟩
    · have := rep (by omega) q
      cases this
  · obtain ⟨rfl, rfl⟩ := own q
    exact ⟨a, sg h1, h3.less pz⟩
theorem fn_okT {x qual : Str} {st : Stmt} {f : Addr} {fd : FuncData} {N ps : List Str} {k m : Nat} (j : Nat) {body : SF} (F : Fun K x qual st f fd) (S : FnScope N ps (defScope st)) (hm : N.length = ps.length + m)
    (hb : ∀ (cdv : Value) (A : Around) (outer : List Env) (s : Shared) (H : Hp) (E : XK), Room k (A.deeper (PyProof.Rows.envOfC qual (defScope st) s.heap.objs.size f cdv)) → ∃ t, GSs K (cxOf CX0 P w K mg base N qual (defScope st) f cdv A outer s H E).nox (WN mg E) (defBody st) t body) :
    FnOk P w K mg base CX0 (k + 1) f fd ps (spT K ps.length j (fnT m j body)) := by
  refine F.ok S (fun vs H Q E h => h.1) (fun cdv A outer s H vs Q E hr h => ?_)
  obtain ⟨hl, hT, Z, ds, dj, a, d', hZ, na, hd, h1, h2, h3, h4, ho, q⟩ := h
  obtain ⟨t, g⟩ := hb cdv A outer s H E hr
  unfold fnT at ho
  rw [h2] at ho
  dsimp only at ho
  split at ho
  · rename_i d fr e1
    cases ho
    exact ⟨t, g.p, g.s Z (offH H a) _ H _ _ (start_okT (by rw [hl]; exact hm) (hl.trans hd.symm) hZ hT na h1 h2 h3 h4) e1 _ fun v H' r => q v H' r⟩
  · cases ho
end
/-- slot i = f(f0, slot i, f2) -/
def sTake (i : Nat) (G : FF) (f0 f2 : EF) : SF := fun ρ => match ρ[i]? with
  | some (.own d) => (f0 ρ).bind fun r0 => (f2 ρ).bind fun r2 => if okR r0 = true ∧ okR r2 = true then (match G [r0.d, d, r2.d] with
    | some (.val d' true) => some (.nx (ρ.set i (.own d')))
    | _ => none) else none
  | _ => none
section
variable {K : PySem.W.Frag} {mg : Str → Option Value} {X : Cx} {W : Str → Hp → Prop} {te0 te2 : TE} {f0 f2 : EF} {G : FF} {i : Nat}
theorem ss_take (h0 : SemE K te0 f0) (h2 : SemE K te2 f2) : SemS K W (tAsg (tCall (spT K 3 1 G) [] E0 (tCons te0 (tCons (tVar i) (tCons te2 tNil)))) (gName i)) (sTake i G f0 f2) := by
  intro Z B σ H ρ fl S e Dn w
  unfold sTake at e
  split at e
  · rename_i d es
    obtain ⟨r0, e0, e⟩ := Option.bind_eq_some_iff.mp e
    obtain ⟨r2, e2, e⟩ := Option.bind_eq_some_iff.mp e
    split at e
    · rename_i hc
      split at e
      · rename_i d' eG
        cases e
        obtain ⟨a, ha, _⟩ := S.env.own i d es
        have hi : i < ρ.length := (List.getElem?_eq_some_iff.mp es).1
        refine h0 Z σ H ρ r0 S.env e0 _ fun v0 H1 s1 q0 => ⟨.ref a, ha, h2 Z σ H1 ρ r2 (S.env.mono s1) e2 _ fun v2 H2 s2 q2 => ?_⟩
        have S2 := (S.mono s1).mono s2
        have E := S2.env
        have owa : Ow σ ρ a := ⟨i, d, es, ha⟩
        obtain ⟨a', ha', ho⟩ := E.own i d es
        rw [ha] at ha'
        cases ha'
        have Ba : B a = none := S2.free a owa
        have nZ : ¬ Z a := E.zdis a owa
        have pz0 : ∀ b, ((Pz Z σ ρ b ∧ b ≠ a) ∨ b = a) → Pz Z σ ρ b := fun b q => q.elim (fun z => z.1) fun z => z ▸ .inr owa
        have hm : Sme (hide (Pz Z σ ρ) H2) (hide (fun b => (Pz Z σ ρ b ∧ b ≠ a) ∨ b = a) H2) := hide_mono (fun b _ _ z => pz0 b z) fun _ _ _ z => z
        have p0 : Rp K (hide (Pz Z σ ρ) H2) v0 r0.d := Rp.mono (same_hide s2.toSme) _ _ ((q0.opd S.env.pok).okR (S.env.mono s1).pok hc.1)
        have p2 : Rp K (hide (Pz Z σ ρ) H2) v2 r2.d := (q2.opd (S.env.mono s1).pok).okR E.pok hc.2
        refine ⟨rfl, E.tab, fun b => Pz Z σ ρ b ∧ b ≠ a, [r0.d, d, r2.d], d, a, d', ⟨fun b q => E.pok b q.1, fun b kvs q => ⟨⟨(E.pok.gh b kvs q).1, fun c => E.zdis a owa (by rw [← c]; exact (E.zok.gh b kvs q).1)⟩, (E.pok.gh b kvs q).2⟩⟩, fun q => q.2 rfl, rfl, rfl, rfl, ho.less pz0, fun k v x hk k1 k2 => ?_, eG, fun v H' ret => ?_⟩
        · match k, hk with
          | 0, _ => cases k1; cases k2; exact Rp.mono hm _ _ p0
          | 2, _ => cases k1; cases k2; exact Rp.mono hm _ _ p2
          | k + 3, _ => simp at k2
        · obtain ⟨b1, b2, a', rfl, n1, own'⟩ := ret
          -- what is kept
          have keep : ∀ b o, b ≠ a → H2 b = some o → NT o → H' b = some o := fun b o c q nt => b1.get b o (by rw [offH_ne c]; exact q) nt
          have keepT : ∀ b ps, b ≠ a → H2 b = some (.tbl ps) → ∃ ps', H' b = some (.tbl ps') := fun b ps c q => b1.tb b ps (by rw [offH_ne c]; exact q)
          have gone : ∀ b o, b ≠ a → H2 b = some o → b ≠ a' := fun b o c q z => by
            rw [z] at q c
            rw [offH_ne c, q] at n1
            cases n1
          have ow' : ∀ b, Ow (σ.set i (some (.ref a'))) (ρ.set i (.own d')) b → b = a' ∨ (Ow σ ρ b ∧ b ≠ a) := fun b ⟨k, x, k1, k2⟩ => by
            by_cases c : k = i
            · rw [c, List.getElem?_set_self (by rw [E.len]; exact hi)] at k2
              cases k2
              exact .inl rfl
            · rw [set_get_ne c] at k1 k2
              exact .inr ⟨⟨k, x, k1, k2⟩, fun z => c (E.inj k i x d b k1 es k2 (by rw [z]; exact ha))⟩
          have pz' : ∀ b, Pz Z (σ.set i (some (.ref a'))) (ρ.set i (.own d')) b → (Pz Z σ ρ b ∧ b ≠ a) ∨ b = a' := fun b q => q.elim (fun z => .inl ⟨.inl z, fun c => nZ (c ▸ z)⟩) fun z => (ow' b z).elim .inr fun y => .inl ⟨.inr y.1, y.2⟩
          have npa : ∀ b, ¬ Pz Z σ ρ b → b ≠ a := fun b q c => q (c ▸ .inr owa)
          have hs : Sme (hide (Pz Z σ ρ) H2) (hide (Pz Z (σ.set i (some (.ref a'))) (ρ.set i (.own d'))) H') := ⟨fun b o q nt => by
            obtain ⟨q1, q2⟩ := hide_some.mp q
            exact hide_some.mpr ⟨fun z => (pz' b z).elim (fun y => q1 y.1) (gone b o (npa b q1) q2), keep b o (npa b q1) q2 nt⟩, fun b ps q => by
            obtain ⟨q1, q2⟩ := hide_some.mp q
            obtain ⟨ps', z⟩ := keepT b ps (npa b q1) q2
            exact ⟨ps', hide_some.mpr ⟨fun z => (pz' b z).elim (fun y => q1 y.1) (gone b _ (npa b q1) q2), z⟩⟩⟩
          have pa : ∀ b, Pz Z σ ρ b → b ≠ a → b ≠ a' := fun b q c => let ⟨o, k1, _⟩ := E.pok b q; gone b o c k1
          refine w _ H' ⟨⟨by rw [List.length_set, List.length_set]; exact E.len, fun k x hk => ?_, fun k x hk => ?_, fun k l x y b k1 k2 k3 k4 => ?_, ⟨fun b q => ?_, fun b kvs q => ⟨(E.zok.gh b kvs q).1, keep b _ (fun c => nZ (c ▸ (E.zok.gh b kvs q).1)) (E.zok.gh b kvs q).2 trivial⟩⟩, fun b q z => ?_, b2⟩, ⟨fun b o q nt => ?_, fun b ps q => ?_⟩, fun b q => ?_⟩
          · have c : k ≠ i := fun c => by
              rw [c, List.getElem?_set_self hi] at hk
              cases hk
            rw [set_get_ne c] at hk ⊢
            obtain ⟨v, k1, k2⟩ := E.sh k x hk
            exact ⟨v, k1, Rp.mono hs _ _ k2⟩
          · by_cases c : k = i
            · subst c
              rw [List.getElem?_set_self hi] at hk
              cases hk
              exact ⟨a', List.getElem?_set_self (by rw [E.len]; exact hi), own'.less pz'⟩
            · rw [set_get_ne c] at hk ⊢
              obtain ⟨b, k1, k2⟩ := E.own k x hk
              have nb : b ≠ a := fun z => c (E.inj k i x d b hk es k1 (by rw [z]; exact ha))
              exact ⟨b, k1, k2.via (fun o q nt => keep b o nb q nt) hs⟩
          · have key : ∀ m z, m ≠ i → (ρ.set i (.own d'))[m]? = some (.own z) → (σ.set i (some (.ref a')))[m]? = some (some (.ref b)) → b ≠ a' := fun m z c y1 y2 => by
              rw [set_get_ne c] at y1 y2
              exact pa b (.inr ⟨m, z, y1, y2⟩) fun y => c (E.inj m i z d b y1 es y2 (by rw [y]; exact ha))
            have at_i : ∀ m, m = i → (σ.set i (some (.ref a')))[m]? = some (some (.ref b)) → b = a' := fun m c y => by
              rw [c, List.getElem?_set_self (by rw [E.len]; exact hi)] at y
              cases y
              rfl
            by_cases c1 : k = i
            · by_cases c2 : l = i
              · rw [c1, c2]
              · exact absurd (at_i k c1 k3) (key l y c2 k2 k4)
            · by_cases c2 : l = i
              · exact absurd (at_i l c2 k4) (key k x c1 k1 k3)
              · rw [set_get_ne c1] at k1 k3
                rw [set_get_ne c2] at k2 k4
                exact E.inj k l x y b k1 k2 k3 k4
          · obtain ⟨o, k1, k2, k3⟩ := E.zok b q
            exact ⟨o, keep b o (fun c => nZ (c ▸ q)) k1 (Mut.nt k2), k2, k3⟩
          · rcases ow' b q with c | ⟨y1, y2⟩
            · exact pa b (.inl z) (fun y => nZ (y ▸ z)) c
            · exact E.zdis b y1 z
          · exact keep b o (fun c => by rw [c, Ba] at q; cases q) (S2.base.get b o q nt) nt
          · obtain ⟨ps', z⟩ := S2.base.tb b ps q
            exact keepT b ps' (fun c => by rw [c, Ba] at q; cases q) z
          · rcases ow' b q with c | ⟨y1, y2⟩
            · cases hB : B b with
              | none => rfl
              | some o =>
                have nb : b ≠ a := fun z => by rw [z, Ba] at hB; cases hB
                exfalso
                cases o with
                | tbl ps =>
                  obtain ⟨ps', z⟩ := S2.base.tb b ps hB
                  exact gone b _ nb z c
                | _ => exact gone b _ nb (S2.base.get b _ hB trivial) c
            · exact S2.free b y1
      · cases e
    · cases e
  · cases e
theorem gs_take {k : Nat} {f : Addr} {fd : FuncData} {ps : List Str} {x z : Str} {a0 a2 : Expr} {p yp zp cpos pos : Pos} (i : Nat) (F : FnOk X.prog X.w K mg X.base CX0 k f fd ps (spT K 3 1 G)) (hr : Room k X.A) (hm : mg x = some (.ref f)) (hk : PySem.W.keepIn K (.ref f) = true) (hb : Binds K fd ps []) (hN : X.N.Nodup)
    (h0 : GE K X a0 te0 f0) (h2 : GE K X a2 te2 f2) (hi : X.N[i]? = some z := by rfl) (hz : Loc X.env.scope z := by first | exact Or.inl rfl | exact Or.inr rfl) (hv : Vis X.env.scope z := by first | exact Or.inl rfl | exact Or.inr (Or.inl rfl) | exact Or.inr (Or.inr rfl)) (hdz : (z == ("__debug__" : Str)) = false := by decide) (hcz : (z == ("__classdict__" : Str)) = false := by decide)
    (hg : Gl X x := by rfl) (hdb : (x == ("__debug__" : Str)) = false := by decide) (n0 : starEach [a0, .Name z zp, a2] X.env = (false, eval a0 X.env) :: starEach [.Name z zp, a2] X.env := by rfl) (n1 : starEach [.Name z zp, a2] X.env = (false, eval (.Name z zp) X.env) :: starEach [a2] X.env := by rfl) (n2 : starEach [a2] X.env = (false, eval a2 X.env) :: starEach [] X.env := by rfl)
    (hpl : (backTo cpos (starEach [.Name z zp, a2] X.env)).any (·.1) = false := by rfl) (hsw : swapsWith (.Call (.Name x p) [a0, .Name z zp, a2] [] cpos) (some (.Name z yp)) pos.line X.env = pure false := by rfl) (hf : X.fn z = true ∨ X.env.scope.names.lookup z = some .local := by first | exact .inl rfl | exact .inr rfl) (eK : X.K = K := by rfl) (eM : X.mg = mg := by rfl) :
    GS K X W (.Assign [.Name z yp] (.Call (.Name x p) [a0, .Name z zp, a2] [] cpos) pos) (tAsg (tCall (spT K 3 1 G) [] E0 (tCons te0 (tCons (tVar i) (tCons te2 tNil)))) (gName i)) (sTake i G f0 f2) := by
  subst eK eM
  exact ⟨ps_set hN hi hz (pe_call F hr hg hm hk hb .nil pass0 (pa_cons h0.p (pa_cons (pe_var hi hv hdz hcz) (pa_cons h2.p pa_nil n2) n1) n0) hdb n0 hpl) hsw hf, ss_take h0.s h2.s⟩
end
@[simp] theorem ev_take {i : Nat} {G : FF} {f0 f2 : EF} {ρ : En} : sTake i G f0 f2 ρ = match ρ[i]? with
  | some (.own d) => (f0 ρ).bind fun r0 => (f2 ρ).bind fun r2 => if okR r0 = true ∧ okR r2 = true then (match G [r0.d, d, r2.d] with
    | some (.val d' true) => some (.nx (ρ.set i (.own d')))
    | _ => none) else none
  | _ => none := (rfl)
/-! ### min of a list of ints -/
def minL (n : Int) (r : List Int) : Int := r.foldl (fun a b => if b < a then b else a) n
theorem minL_le : ∀ (r : List Int) (n : Int), minL n r ≤ n ∧ (∀ x ∈ r, minL n r ≤ x) ∧ (minL n r = n ∨ minL n r ∈ r)
  | [], n => ⟨Int.le_refl n, fun _ h => (by cases h), .inl rfl⟩
  | b :: r, n => by
    obtain ⟨h1, h2, h3⟩ := minL_le r (if b < n then b else n)
    have e : minL n (b :: r) = minL (if b < n then b else n) r := rfl
    rw [e]
    by_cases c : b < n
    · rw [if_pos c] at h1 h2 h3 ⊢
      refine ⟨by omega, fun x hx => ?_, .inr ?_⟩
      · rcases List.mem_cons.mp hx with z | z
        · rw [z]; exact h1
        · exact h2 x z
      · rcases h3 with z | z
        · rw [z]; exact List.mem_cons_self
        · exact List.mem_cons_of_mem _ z
    · rw [if_neg c] at h1 h2 h3 ⊢
      refine ⟨h1, fun x hx => ?_, h3.imp id (List.mem_cons_of_mem _)⟩
      rcases List.mem_cons.mp hx with z | z
      · rw [z]; omega
      · exact h2 x z
def cMin1 : CF := fun as => match as with
  | [⟨.lst ds, _⟩] => (intsD ds).bind fun ns => match ns with
    | n :: r => some ⟨.int (minL n r), .av⟩
    | [] => none
  | _ => none
theorem sc_min1 {K : PySem.W.Frag} : SemC K (rMin K) cMin1 := by
  intro P H xs as c hP hA h Q q
  unfold cMin1 at h
  split at h
  · obtain ⟨ns, e, h'⟩ := Option.bind_eq_some_iff.mp h
    clear h
    cases intsD_some e
    split at h'
    · rename_i n r
      cases h'
      obtain ⟨x, rfl, ha⟩ := hA.one
      obtain ⟨p, vs, rfl, h1, h2, h3⟩ := ha.lst
      have := h2.ints (ns := n :: r)
      subst this
      obtain ⟨k1, k2, k3⟩ := minL_le r n
      refine ⟨p, n :: r, rfl, SqL.of h1, by simp, fun m hm hle => ?_⟩
      have e : m = minL n r := by
        have a1 : m ≤ minL n r := hle _ (k3.elim (fun z => by rw [z]; exact List.mem_cons_self) fun z => List.mem_cons_of_mem _ z)
        have a2 : minL n r ≤ m := (List.mem_cons.mp hm).elim (fun z => by rw [z]; exact k1) (k2 m)
        omega
      rw [e]
      exact q _ H (Same.refl H) (.int _)
    · cases h'
  · cases h
@[simp] theorem ev_min1 {ds : List D} {m : Md} : cMin1 [⟨.lst ds, m⟩] = (intsD ds).bind fun ns => match ns with
    | n :: r => some ⟨.int (minL n r), .av⟩
    | [] => none := (rfl)
end Fb
set_option maxHeartbeats 2000000
/-! FbU: own dicts with int or text keys: {}, d[k], d.get(k, x), d[k] = v, k in d, a walk over the keys. -/
namespace Fb
open PySem PySem.Spec L2
variable [γ : GSt]

def valE (kvs : List (Key × D)) (k : Key) : Option D := (kvs.find? fun kv => decide (kv.1 = k)).map (·.2)
def putE (kvs : List (Key × D)) (k : Key) (v : D) : List (Key × D) :=
  if (kvs.any fun kv => decide (kv.1 = k)) = true then kvs.map (fun kv => if kv.1 = k then (kv.1, v) else kv) else kvs ++ [(k, v)]
section
variable {K : PySem.W.Frag} {P P' Z : Addr → Prop} {H H' : Hp} {σ : L2.St} {ρ : En}
theorem RpK.val : ∀ {vs : List (Key × V)} {ds : List (Key × D)} (k : Key), RpK K H vs ds → (∀ d, valE ds k = some d → ∃ v, valV vs k = some v ∧ Rp K H v d) ∧ (valE ds k = none → valV vs k = none)
  | _, _, k, .nil => ⟨fun d e => (by cases e), fun _ => rfl⟩
  | (k', v) :: vs, (_, d) :: ds, k, .cons h t => by
    by_cases c : k' = k
    · subst c
      have this : valE ((k', d) :: ds) k' = some d := by simp [valE, List.find?_cons]
      refine ⟨fun d' e => ?_, fun e => ?_⟩
      · rw [this] at e
        cases e
        exact ⟨v, valV_pos rfl, h⟩
      · rw [this] at e
        cases e
    · have e1 : valE ((k', d) :: ds) k = valE ds k := by simp [valE, List.find?_cons, c]
      have e2 : valV ((k', v) :: vs) k = valV vs k := valV_neg c
      rw [e1, e2]
      exact RpK.val k t
theorem RpK.any {k : Key} : ∀ {vs : List (Key × V)} {ds : List (Key × D)}, RpK K H vs ds → (vs.any fun kv => decide (kv.1 = k)) = ds.any fun kv => decide (kv.1 = k)
  | _, _, .nil => rfl
  | _, _, .cons h t => by rw [List.any_cons, List.any_cons, RpK.any t]
theorem RpK.snoc {k : Key} {v : V} {d : D} (h : Rp K H v d) : ∀ {vs : List (Key × V)} {ds : List (Key × D)}, RpK K H vs ds → RpK K H (vs ++ [(k, v)]) (ds ++ [(k, d)])
  | _, _, .nil => .cons h .nil
  | _, _, .cons h1 t => .cons h1 (RpK.snoc h t)
theorem RpK.repl {k : Key} {v : V} {d : D} (h : Rp K H v d) : ∀ {vs : List (Key × V)} {ds : List (Key × D)}, RpK K H vs ds → RpK K H (vs.map fun kv => if kv.1 = k then (kv.1, v) else kv) (ds.map fun kv => if kv.1 = k then (kv.1, d) else kv)
  | _, _, .nil => .nil
  | (k', v') :: vs, (_, d') :: ds, .cons h1 t => by
    rw [List.map_cons, List.map_cons]
    by_cases c : k' = k
    · simp only [c, if_true]
      exact .cons h (RpK.repl h t)
    · simp only [c, if_false]
      exact .cons h1 (RpK.repl h t)
theorem RpK.put {k : Key} {v : V} {d : D} (h : Rp K H v d) {vs : List (Key × V)} {ds : List (Key × D)} (t : RpK K H vs ds) : RpK K H (putK vs k v) (putE ds k d) := by
  unfold putK putE
  rw [RpK.any t]
  split
  · exact RpK.repl h t
  · exact RpK.snoc h t
theorem RpK.length : ∀ {vs : List (Key × V)} {ds : List (Key × D)}, RpK K H vs ds → vs.length = ds.length
  | _, _, .nil => rfl
  | _, _, .cons _ t => congrArg (· + 1) (RpK.length t)
theorem RpK.get : ∀ {vs : List (Key × V)} {ds : List (Key × D)} {i : Nat} {k : Key} {v : V}, RpK K H vs ds → vs[i]? = some (k, v) → ∃ d, ds[i]? = some (k, d) ∧ Rp K H v d
  | _, _, i, k, v, .nil, e => by simp at e
  | _, _, 0, k, v, .cons h t, e => by
    cases Option.some.inj e
    exact ⟨_, rfl, h⟩
  | _, _, i + 1, k, v, .cons h t, e => RpK.get (i := i) t e
theorem Opd.dK {ds : List (Key × D)} {m : Md} {v : V} (h : Opd K P H v ⟨.dK ds, m⟩) : ∃ a vs, v = .ref a ∧ Rd H a (.dK vs) ∧ RpK K H vs ds := by
  cases m with
  | top => obtain ⟨a, h1, vs, h2, h3⟩ := h; exact ⟨a, vs, h1, .inl h2, RpK.mono (hide_same H) _ _ h3⟩
  | bor =>
    cases h with
    | dK s r => exact ⟨_, _, rfl, s, r⟩
  | av =>
    cases h with
    | dK s r => exact ⟨_, _, rfl, (hide_same H).rdT s, RpK.mono (hide_same H) _ _ r⟩
  | fr =>
    cases h with
    | dK s r => exact ⟨_, _, rfl, (hide_same H).rdT s, RpK.mono (hide_same H) _ _ r⟩
end
def eDictE : EF := fun _ => some ⟨.dK [], .fr⟩
def eGetE (fa fb : EF) : EF := fun ρ => (fa ρ).bind fun a => (fb ρ).bind fun b => match a.d with
  | .dK kvs => (keyD b.d).bind fun k => (valE kvs k).map fun d => ⟨d, md (imm d)⟩
  | _ => none
def eGet2E (fa fb fc : EF) : EF := fun ρ => (fa ρ).bind fun a => (fb ρ).bind fun b => (fc ρ).bind fun c => match a.d with
  | .dK kvs => (keyD b.d).bind fun k => match valE kvs k with
    | some d => some ⟨d, md (imm d)⟩
    | none => some ⟨c.d, md (okR c)⟩
  | _ => none
def eInE (neg : Bool) (fb fa : EF) : EF := fun ρ => (fb ρ).bind fun b => (fa ρ).bind fun a => match a.d with
  | .dK kvs => (keyD b.d).map fun k => ofB (if neg then !(valE kvs k).isSome else (valE kvs k).isSome)
  | _ => none
def sPutE (i : Nat) (fk fv : EF) : SF := fun ρ => (fv ρ).bind fun r => match ρ[i]? with
  | some (.own (.dK kvs)) => (fk ρ).bind fun k => (keyD k.d).bind fun q => if okR r && decide (kvs.length < 100000) then some (.nx (ρ.set i (.own (.dK (putE kvs q r.d))))) else none
  | _ => none
section
variable {X : Cx} {K : PySem.W.Frag} {W : Str → Hp → Prop} {td ty tx tv : TE} {fa fb fc : EF} {o i e f value : Expr} {pos pos' : Pos}
theorem se_dictE : SemE K tDNewK eDictE := by
  intro Z σ H ρ r E h Q q p hp
  cases h
  exact q _ _ (same_upd hp) ⟨p, rfl, hp, [], upd_same, .nil⟩
theorem ge_dictE : GE K X (.Dict [] [] pos) tDNewK eDictE := ⟨pe_dnewK, se_dictE⟩
theorem se_getE (ha : SemE K td fa) (hb : SemE K ty fb) : SemE K (tDGet td ty) (eGetE fa fb) := by
  intro Z σ H ρ c E h Q q
  obtain ⟨a, h1, h⟩ := Option.bind_eq_some_iff.mp h
  obtain ⟨b, h2, h⟩ := Option.bind_eq_some_iff.mp h
  refine ha Z σ H ρ a E h1 _ fun x H1 s1 r1 => ?_
  refine hb Z σ H1 ρ b (E.mono s1) h2 _ fun y H2 s2 r2 => ?_
  have oa := (r1.opd E.pok).mono s2.toSme
  have ob := r2.opd (E.mono s1).pok
  obtain ⟨ad, am⟩ := a
  dsimp only at h
  split at h
  · rename_i kvs
    obtain ⟨k, e1, h⟩ := Option.bind_eq_some_iff.mp h
    obtain ⟨d, e2, h⟩ := Option.map_eq_some_iff.mp h
    subst h
    obtain ⟨p, vs, rfl, g1, g2⟩ := oa.dK
    have ey := keyD_rp ob.rp e1
    subst ey
    obtain ⟨v, v1, v2⟩ := (RpK.val k g2).1 d e2
    refine ⟨p, v, rfl, ?_, q v H2 (s1.trans s2) (opd_res (rp_md (E.mono (s1.trans s2)).pok v2))⟩
    have : DGet H2 p (kV k) (valV vs k) := .inl ⟨vs, k, g1, rfl, rfl⟩
    rw [v1] at this
    exact this
  · cases h
theorem ge_getE (hr : X.A.units + 1 < cLine) (ha : GE K X o td fa) (hb : GE K X i ty fb) (hs : NoSl i := by intro _ _; rfl) : GE K X (.Subscript o i pos) (tDGet td ty) (eGetE fa fb) := ⟨pe_dget hr ha.p hb.p hs, se_getE ha.s hb.s⟩
theorem se_get2E (ha : SemE K td fa) (hb : SemE K ty fb) (hc : SemE K tx fc) : SemE K (tDGet2 td ty tx) (eGet2E fa fb fc) := by
  intro Z σ H ρ r E h Q q
  obtain ⟨a, h1, h⟩ := Option.bind_eq_some_iff.mp h
  obtain ⟨b, h2, h⟩ := Option.bind_eq_some_iff.mp h
  obtain ⟨c, h3, h⟩ := Option.bind_eq_some_iff.mp h
  refine ha Z σ H ρ a E h1 _ fun x H1 s1 r1 => ?_
  obtain ⟨ad, am⟩ := a
  cases ad with
  | dK kvs =>
    obtain ⟨k, e1, h⟩ := Option.bind_eq_some_iff.mp h
    have oa := r1.opd E.pok
    obtain ⟨p, vs0, rfl, g0, _⟩ := oa.dK
    refine ⟨p, rfl, .inl ⟨_, g0⟩, ?_⟩
    refine hb Z σ H1 ρ _ (E.mono s1) h2 _ fun y H2 s2 r2 => ?_
    refine hc Z σ H2 ρ _ (E.mono (s1.trans s2)) h3 _ fun z H3 s3 r3 => ?_
    have s13 := (s1.trans s2).trans s3
    have oa3 := (oa.mono s2.toSme).mono s3.toSme
    have ob := (r2.opd (E.mono s1).pok).mono s3.toSme
    have oc := r3.opd (E.mono (s1.trans s2)).pok
    obtain ⟨p', vs, ep, g1, g2⟩ := oa3.dK
    cases ep
    have ey := keyD_rp ob.rp e1
    subst ey
    have dg : DGet H3 p (kV k) (valV vs k) := .inl ⟨vs, k, g1, rfl, rfl⟩
    cases ev : valE kvs k with
    | some d =>
      rw [ev] at h
      cases h
      obtain ⟨v, v1, v2⟩ := (RpK.val k g2).1 d ev
      rw [v1] at dg
      exact ⟨_, dg, q v H3 s13 (opd_res (rp_md (E.mono s13).pok v2))⟩
    | none =>
      rw [ev] at h
      cases h
      rw [(RpK.val k g2).2 ev] at dg
      exact ⟨_, dg, q z H3 s13 (opd_res (Opd.md (fun w => oc.okR (E.mono s13).pok w) oc.rp))⟩
  | _ => cases h
theorem ge_get2E {apos cpos : Pos} (hr : X.A.units + 1 < cLine) (ha : GE K X o td fa) (hb : GE K X e ty fb) (hc : GE K X f tx fc) (m : M2 X o "get" apos e f cpos := by exact ⟨by rfl, by rfl, by rfl, by rfl⟩) : GE K X (.Call (.Attribute o "get" apos) [e, f] [] cpos) (tDGet2 td ty tx) (eGet2E fa fb fc) := ⟨pe_dget2 hr ha.p hb.p hc.p m, se_get2E ha.s hb.s hc.s⟩
theorem ss_putE {j : Nat} {fk fv : EF} (hk : SemE K ty fk) (hv : SemE K tv fv) : SemS K W (L2.sDPut (tVar j) ty tv) (sPutE j fk fv) := by
  intro Z B σ H ρ fl S e Dn w
  obtain ⟨r, e1, e⟩ := Option.bind_eq_some_iff.mp e
  refine hv Z σ H ρ r S.env e1 _ fun v H1 s1 rv => ?_
  split at e
  · rename_i kvs e0
    obtain ⟨k, e2, e⟩ := Option.bind_eq_some_iff.mp e
    obtain ⟨kk, e3, e⟩ := Option.bind_eq_some_iff.mp e
    split at e
    · rename_i hc
      rw [Bool.and_eq_true, decide_eq_true_eq] at hc
      cases e
      obtain ⟨a, a1, a2⟩ := S.env.own j _ e0
      refine ⟨.ref a, a1, ?_⟩
      refine hk Z σ H1 ρ k (S.mono s1).env e2 _ fun y H2 s2 rk => ?_
      have S2 := S.mono (s1.trans s2)
      have ey := keyD_rp (rk.opd (S.mono s1).env.pok).rp e3
      subst ey
      obtain ⟨a', b1, vs, b2, b3⟩ := S2.env.own j _ e0
      rw [a1] at b1
      cases b1
      have hd := ((rv.opd S.env.pok).mono s2).okR S2.env.pok hc.1
      have pa : Pz Z σ ρ a := .inr ⟨j, _, e0, a1⟩
      have sm : Sme (hide (Pz Z σ ρ) H2) (hide (Pz Z σ ρ) (upd H2 a (.dK (putK vs kk v)))) := hide_mono (fun _ _ _ z => z) fun b o z hb => by
        rw [upd_ne fun c => z (by rw [c]; exact pa)]
        exact hb
      refine ⟨a, _, rfl, DPut.k b2 (by rw [RpK.length b3]; exact Nat.lt_trans hc.2 (by decide)), ?_⟩
      refine w σ _ (S2.upd e0 a1 ⟨_, upd_same, ?_⟩)
      exact RpK.mono sm _ _ (RpK.put hd b3)
    · cases e
  · cases e
theorem gs_putE (j : Nat) {x : Str} {ke : Expr} {fk fv : EF} (hr : X.A.units + 1 < cLine) (hk : GE K X ke ty fk) (hv : GE K X value tv fv) (hN : X.N[j]? = some x := by rfl) (hvi : Vis X.env.scope x := by first | exact Or.inl rfl | exact Or.inr (Or.inl rfl) | exact Or.inr (Or.inr rfl)) (hd : (x == ("__debug__" : Str)) = false := by decide)
    (hcd : (x == ("__classdict__" : Str)) = false := by decide) {np sp : Pos} (hs : swapsWith value (some (.Subscript (.Name x np) ke sp)) pos.line X.env = pure false := by rfl) :
    GS K X W (.Assign [.Subscript (.Name x np) ke sp] value pos) (L2.sDPut (tVar j) ty tv) (sPutE j fk fv) := ⟨ps_dput hr (pe_var hN hvi hd hcd) hk.p hv.p hs, ss_putE hk.s hv.s⟩
theorem se_inE (hb : SemE K ty fb) (ha : SemE K td fa) : SemE K (tDIn ty td) (eInE false fb fa) := by
  intro Z σ H ρ c E h Q q
  obtain ⟨b, h2, h⟩ := Option.bind_eq_some_iff.mp h
  obtain ⟨a, h1, h⟩ := Option.bind_eq_some_iff.mp h
  refine hb Z σ H ρ b E h2 _ fun y H1 s1 r1 => ?_
  refine ha Z σ H1 ρ a (E.mono s1) h1 _ fun x H2 s2 r2 => ?_
  have ob := (r1.opd E.pok).mono s2.toSme
  have oa := r2.opd (E.mono s1).pok
  obtain ⟨ad, am⟩ := a
  dsimp only at h
  split at h
  · rename_i kvs
    obtain ⟨k, e1, h⟩ := Option.map_eq_some_iff.mp h
    subst h
    obtain ⟨p, vs, rfl, g1, g2⟩ := oa.dK
    have ey := keyD_rp ob.rp e1
    subst ey
    refine ⟨p, valV vs k, rfl, .inl ⟨vs, k, g1, rfl, rfl⟩, ?_⟩
    have es : (valV vs k).isSome = (valE kvs k).isSome := by
      cases ev : valE kvs k with
      | some d =>
        obtain ⟨v, v1, _⟩ := (RpK.val k g2).1 d ev
        rw [v1]
        rfl
      | none =>
        rw [(RpK.val k g2).2 ev]
        rfl
    rw [es]
    exact q _ H2 (s1.trans s2) (.bl _)
  · cases h
theorem se_ninE (hb : SemE K ty fb) (ha : SemE K td fa) : SemE K (tDNotIn ty td) (eInE true fb fa) := by
  intro Z σ H ρ c E h Q q
  obtain ⟨b, h2, h⟩ := Option.bind_eq_some_iff.mp h
  obtain ⟨a, h1, h⟩ := Option.bind_eq_some_iff.mp h
  refine hb Z σ H ρ b E h2 _ fun y H1 s1 r1 => ?_
  refine ha Z σ H1 ρ a (E.mono s1) h1 _ fun x H2 s2 r2 => ?_
  have ob := (r1.opd E.pok).mono s2.toSme
  have oa := r2.opd (E.mono s1).pok
  obtain ⟨ad, am⟩ := a
  dsimp only at h
  split at h
  · rename_i kvs
    obtain ⟨k, e1, h⟩ := Option.map_eq_some_iff.mp h
    subst h
    obtain ⟨p, vs, rfl, g1, g2⟩ := oa.dK
    have ey := keyD_rp ob.rp e1
    subst ey
    refine ⟨p, valV vs k, rfl, .inl ⟨vs, k, g1, rfl, rfl⟩, ?_⟩
    have es : (valV vs k).isSome = (valE kvs k).isSome := by
      cases ev : valE kvs k with
      | some d =>
        obtain ⟨v, v1, _⟩ := (RpK.val k g2).1 d ev
        rw [v1]
        rfl
      | none =>
        rw [(RpK.val k g2).2 ev]
        rfl
    rw [es]
    exact q _ H2 (s1.trans s2) (.bl _)
  · cases h
theorem ge_inE (hr : X.A.units + 1 < cLine) (hb : GE K X i ty fb) (ha : GE K X o td fa) (hm : behindInMarks .In o = false := by first | exact nobehind _ (by decide) (by decide) | rfl) : GE K X (.Compare i [.In] [o] pos) (tDIn ty td) (eInE false fb fa) := ⟨pe_cmp (pc_din hr hb.p ha.p) hm, se_inE hb.s ha.s⟩
theorem gt_inE (hr : X.A.units + 1 < cLine) (hb : GE K X i ty fb) (ha : GE K X o td fa) (hm : behindInMarks .In o = false := by first | exact nobehind _ (by decide) (by decide) | rfl) : GT K X (.Compare i [.In] [o] pos) (tB (tDIn ty td)) (toB (eInE false fb fa)) := ⟨pt_cmp (pc_din hr hb.p ha.p) hm, st_B (se_inE hb.s ha.s)⟩
theorem ge_ninE (hr : X.A.units + 1 < cLine) (hb : GE K X i ty fb) (ha : GE K X o td fa) (hm : behindInMarks .NotIn o = false := by first | exact nobehind _ (by decide) (by decide) | rfl) : GE K X (.Compare i [.NotIn] [o] pos) (tDNotIn ty td) (eInE true fb fa) := ⟨pe_cmp (pc_dnotin hr hb.p ha.p) hm, se_ninE hb.s ha.s⟩
theorem gt_ninE (hr : X.A.units + 1 < cLine) (hb : GE K X i ty fb) (ha : GE K X o td fa) (hm : behindInMarks .NotIn o = false := by first | exact nobehind _ (by decide) (by decide) | rfl) : GT K X (.Compare i [.NotIn] [o] pos) (tB (tDNotIn ty td)) (toB (eInE true fb fa)) := ⟨pt_cmp (pc_dnotin hr hb.p ha.p) hm, st_B (se_ninE hb.s ha.s)⟩
end
/-! ### a walk over the keys; the dict is locked meanwhile, and shared behind it -/
/-- a dict is locked -/
def Lck (G G' : Hp) : Prop := ∀ b o, G b = some o → (G' b = some o ∨ ∃ od vs, o = .dK vs ∧ G' b = some (.frz od (.dK vs)))
section
variable {K : PySem.W.Frag} {G G' : Hp}
theorem Lck.get (e : Lck G G') {b : Addr} {o : HO} (h : G b = some o) (n : ∀ vs, o ≠ .dK vs) : G' b = some o := by
  rcases e b o h with z | ⟨od, vs, z, _⟩
  · exact z
  · exact absurd z (n vs)
theorem Lck.rdT (e : Lck G G') {b : Addr} {xs : List (List Key × V)} (h : Rd G b (.dT xs)) : Rd G' b (.dT xs) := h.elim (fun z => .inl (e.get z fun _ q => by cases q)) fun ⟨o, z⟩ => .inr ⟨o, e.get z fun _ q => by cases q⟩
theorem Lck.rdL (e : Lck G G') {b : Addr} {xs : List V} (h : Rd G b (.lst xs)) : Rd G' b (.lst xs) := h.elim (fun z => .inl (e.get z fun _ q => by cases q)) fun ⟨o, z⟩ => .inr ⟨o, e.get z fun _ q => by cases q⟩
theorem Lck.rdK (e : Lck G G') {b : Addr} {xs : List (Key × V)} (h : Rd G b (.dK xs)) : Rd G' b (.dK xs) := by
  rcases h with z | ⟨o, z⟩
  · rcases e b _ z with q | ⟨od, vs, q, w⟩
    · exact .inl q
    · cases q
      exact .inr ⟨od, w⟩
  · exact .inr ⟨o, e.get z fun _ q => by cases q⟩
mutual
theorem Rp.lck (e : Lck G G') : ∀ (d : D) (v : V), Rp K G v d → Rp K G' v d
  | .non, _, h => by cases h; exact .non
  | .bl b, _, h => by cases h; exact .bl b
  | .int b, _, h => by cases h; exact .int b
  | .str b, _, h => by cases h; exact .str b
  | .tup ds, _, h => by
    cases h with
    | tup s r => exact .tup (e.get s fun _ q => by cases q) (RpL.lck e ds _ r)
  | .lst ds, _, h => by
    cases h with
    | lst s r => exact .lst (e.get s fun _ q => by cases q) (RpL.lck e ds _ r)
  | .dT ds, _, h => by
    cases h with
    | dT s r => exact .dT (e.rdT s) (RpT.lck e ds _ r)
  | .dK ds, _, h => by
    cases h with
    | dK s r => exact .dK (e.rdK s) (RpK.lck e ds _ r)
  | .obj C, _, h => by
    cases h with
    | obj s => exact .obj (e.get s fun _ q => by cases q)
  | .exc C, _, h => by
    cases h with
    | exc s z d => exact .exc (e.get s fun _ q => by cases q) z d
  | .ro ns, _, h => by
    cases h with
    | ro s =>
      rcases s with s | s
      · exact .ro (.inl (e.rdL s))
      · exact .ro (.inr s)
  | .rf a, _, h => by cases h; exact .rf a
  | .bx C roll k, _, h => by
    cases h with
    | bx s q => exact .bx (e.get s fun _ q => by cases q) (e.get q fun _ q => by cases q)
theorem RpL.lck (e : Lck G G') : ∀ (ds : List D) (vs : List V), RpL K G vs ds → RpL K G' vs ds
  | [], _, h => by cases h; exact .nil
  | d :: ds, _, h => by
    cases h with
    | cons h1 h2 => exact .cons (Rp.lck e d _ h1) (RpL.lck e ds _ h2)
theorem RpT.lck (e : Lck G G') : ∀ (ds : List (List Key × D)) (vs : List (List Key × V)), RpT K G vs ds → RpT K G' vs ds
  | [], _, h => by cases h; exact .nil
  | (k, d) :: ds, _, h => by
    cases h with
    | cons h1 h2 => exact .cons (Rp.lck e d _ h1) (RpT.lck e ds _ h2)
theorem RpK.lck (e : Lck G G') : ∀ (ds : List (Key × D)) (vs : List (Key × V)), RpK K G vs ds → RpK K G' vs ds
  | [], _, h => by cases h; exact .nil
  | (k, d) :: ds, _, h => by
    cases h with
    | cons h1 h2 => exact .cons (Rp.lck e d _ h1) (RpK.lck e ds _ h2)
end
end
/-- a dict is unlocked -/
def Unl (G G' : Hp) : Prop := ∀ b o, G b = some o → (G' b = some o ∨ ∃ od vs, o = .frz od (.dK vs) ∧ G' b = some (.dK vs))
section
variable {K : PySem.W.Frag} {G G' : Hp}
theorem Unl.get (e : Unl G G') {b : Addr} {o : HO} (h : G b = some o) (n : ∀ od vs, o ≠ .frz od (.dK vs)) : G' b = some o := by
  rcases e b o h with z | ⟨od, vs, z, _⟩
  · exact z
  · exact absurd z (n od vs)
theorem Unl.rdT (e : Unl G G') {b : Addr} {xs : List (List Key × V)} (h : Rd G b (.dT xs)) : Rd G' b (.dT xs) := h.elim (fun z => .inl (e.get z fun _ _ q => by cases q)) fun ⟨o, z⟩ => .inr ⟨o, e.get z fun _ _ q => by cases q⟩
theorem Unl.rdL (e : Unl G G') {b : Addr} {xs : List V} (h : Rd G b (.lst xs)) : Rd G' b (.lst xs) := h.elim (fun z => .inl (e.get z fun _ _ q => by cases q)) fun ⟨o, z⟩ => .inr ⟨o, e.get z fun _ _ q => by cases q⟩
theorem Unl.rdK (e : Unl G G') {b : Addr} {xs : List (Key × V)} (h : Rd G b (.dK xs)) : Rd G' b (.dK xs) := by
  rcases h with z | ⟨o, z⟩
  · exact .inl (e.get z fun _ _ q => by cases q)
  · rcases e b _ z with q | ⟨od, vs, q, w⟩
    · exact .inr ⟨o, q⟩
    · cases q
      exact .inl w
mutual
theorem Rp.unl (e : Unl G G') : ∀ (d : D) (v : V), Rp K G v d → Rp K G' v d
  | .non, _, h => by cases h; exact .non
  | .bl b, _, h => by cases h; exact .bl b
  | .int b, _, h => by cases h; exact .int b
  | .str b, _, h => by cases h; exact .str b
  | .tup ds, _, h => by
    cases h with
    | tup s r => exact .tup (e.get s fun _ _ q => by cases q) (RpL.unl e ds _ r)
  | .lst ds, _, h => by
    cases h with
    | lst s r => exact .lst (e.get s fun _ _ q => by cases q) (RpL.unl e ds _ r)
  | .dT ds, _, h => by
    cases h with
    | dT s r => exact .dT (e.rdT s) (RpT.unl e ds _ r)
  | .dK ds, _, h => by
    cases h with
    | dK s r => exact .dK (e.rdK s) (RpK.unl e ds _ r)
  | .obj C, _, h => by
    cases h with
    | obj s => exact .obj (e.get s fun _ _ q => by cases q)
  | .exc C, _, h => by
    cases h with
    | exc s z d => exact .exc (e.get s fun _ _ q => by cases q) z d
  | .ro ns, _, h => by
    cases h with
    | ro s =>
      rcases s with s | s
      · exact .ro (.inl (e.rdL s))
      · exact .ro (.inr s)
  | .rf a, _, h => by cases h; exact .rf a
  | .bx C roll k, _, h => by
    cases h with
    | bx s q => exact .bx (e.get s fun _ _ q => by cases q) (e.get q fun _ _ q => by cases q)
theorem RpL.unl (e : Unl G G') : ∀ (ds : List D) (vs : List V), RpL K G vs ds → RpL K G' vs ds
  | [], _, h => by cases h; exact .nil
  | d :: ds, _, h => by
    cases h with
    | cons h1 h2 => exact .cons (Rp.unl e d _ h1) (RpL.unl e ds _ h2)
theorem RpT.unl (e : Unl G G') : ∀ (ds : List (List Key × D)) (vs : List (List Key × V)), RpT K G vs ds → RpT K G' vs ds
  | [], _, h => by cases h; exact .nil
  | (k, d) :: ds, _, h => by
    cases h with
    | cons h1 h2 => exact .cons (Rp.unl e d _ h1) (RpT.unl e ds _ h2)
theorem RpK.unl (e : Unl G G') : ∀ (ds : List (Key × D)) (vs : List (Key × V)), RpK K G vs ds → RpK K G' vs ds
  | [], _, h => by cases h; exact .nil
  | (k, d) :: ds, _, h => by
    cases h with
    | cons h1 h2 => exact .cons (Rp.unl e d _ h1) (RpK.unl e ds _ h2)
end
end
def sForE (i : Nat) (tgt : GF) (body : SF) : SF := fun ρ => match ρ[i]? with
  | some (.own (.dK kvs)) => (match loopF tgt body (kvs.map fun kv => unKey kv.1) (ρ.set i (.sh (.dK kvs))) with
    | some (.nx ρ') => some (.nx ρ')
    | _ => none)
  | _ => none
section
variable {K : PySem.W.Frag} {W : Str → Hp → Prop} {X : Cx} {i : Nat} {g : TG} {tgt : GF} {tb : TS} {body : SF} {Z : Addr → Prop} {B H : Hp} {σ : L2.St} {ρ : En}
theorem jok_keysE {G G2 H : Hp} {a : Addr} {o : Obj} {vs : List (Key × V)} {kvs : List (Key × D)} (h1 : G a = some (.frz o (.dK vs))) (h2 : RpK K H vs kvs) : JOk2 K G G2 (Itk a o vs) (kvs.map fun kv => unKey kv.1) where
  go := fun i H hi s => ⟨s _ _ h1, by rw [RpK.length h2]; simpa using hi⟩
  stop := fun i H hi s => ⟨s _ _ h1, by rw [RpK.length h2]; simpa using hi⟩
  yld := fun i d H2 x H' hd s y => by
    obtain ⟨e, k, v, y1, y2⟩ := y
    subst e
    obtain ⟨d', z1, z2⟩ := RpK.get h2 y1
    rw [List.getElem?_map, z1] at hd
    cases Option.some.inj hd
    subst y2
    exact ⟨Same.refl _, fun P hP _ => unKey_rp k⟩
theorem unl_upd {P : Addr → Prop} {H' : Hp} {a : Addr} {od : Obj} {vs : List (Key × V)} (ha : H' a = some (.frz od (.dK vs))) : Unl (hide P H') (hide P (upd H' a (.dK vs))) := fun b o q => by
  obtain ⟨q1, q2⟩ := hide_some.mp q
  by_cases c : b = a
  · subst c
    rw [ha] at q2
    cases q2
    exact .inr ⟨od, vs, rfl, hide_some.mpr ⟨q1, upd_same⟩⟩
  · exact .inl (hide_some.mpr ⟨q1, by rw [upd_ne c]; exact q2⟩)
/-- behind the walk -/
theorem unl_env {H' : Hp} {σ' : L2.St} {ρ' : En} {B' B0 : Hp} {a : Addr} {od : Obj} {vs : List (Key × V)} (S : StOk K Z B' H' σ' ρ') (ha : H' a = some (.frz od (.dK vs))) (hB0 : Sme B0 B') (hBa : B0 a = none) : StOk K Z B0 (upd H' a (.dK vs)) σ' ρ' := by
  have E := S.env
  have u : Unl (hide (Pz Z σ' ρ') H') (hide (Pz Z σ' ρ') (upd H' a (.dK vs))) := unl_upd ha
  have ne : ∀ {b : Addr} {o : HO}, H' b = some o → (∀ od u, o ≠ .frz od u) → b ≠ a := fun {b o} q n c => by
    rw [c, ha] at q
    cases q
    exact n _ _ rfl
  refine ⟨⟨E.len, fun j d h => ?_, fun j d h => ?_, E.inj, ⟨fun b q => ?_, fun b kvs q => ⟨(E.zok.gh b kvs q).1, by rw [upd_ne (ne (E.zok.gh b kvs q).2 fun _ _ z => by cases z)]; exact (E.zok.gh b kvs q).2⟩⟩, E.zdis, E.tab.upd ha trivial⟩, (hB0.trans S.base).updN hBa, fun b q => Sme.none hB0 (S.free b q)⟩
  · obtain ⟨v, k1, k2⟩ := E.sh j d h
    exact ⟨v, k1, Rp.unl u _ _ k2⟩
  · obtain ⟨b, k1, k2⟩ := E.own j d h
    refine ⟨b, k1, ?_⟩
    cases d with
    | lst ds =>
      obtain ⟨us, w1, w2⟩ := k2
      exact ⟨us, by rw [upd_ne (ne w1 fun _ _ z => by cases z)]; exact w1, RpL.unl u _ _ w2⟩
    | dT ds =>
      obtain ⟨us, w1, w2⟩ := k2
      exact ⟨us, by rw [upd_ne (ne w1 fun _ _ z => by cases z)]; exact w1, RpT.unl u _ _ w2⟩
    | dK ds =>
      obtain ⟨us, w1, w2⟩ := k2
      exact ⟨us, by rw [upd_ne (ne w1 fun _ _ z => by cases z)]; exact w1, RpK.unl u _ _ w2⟩
    | _ => exact k2.elim
  · obtain ⟨o, k1, k2, k3⟩ := E.zok b q
    refine ⟨o, ?_, k2, k3⟩
    rw [upd_ne (ne k1 fun _ _ z => by rw [z] at k2; exact k2)]
    exact k1
theorem ss_forE (hg : SemGK K [i] g tgt) (hb : SemSK K W [i] tb body) : SemS K W (tLock (tFor (iKeys (tVar i)) g tb)) (sForE i tgt body) := by
  intro Z B σ H ρ fl S e Dn w
  unfold sForE at e
  split at e
  · rename_i kvs e0
    split at e
    · rename_i ρz ez
      cases e
      have E := S.env
      obtain ⟨a, a1, vs, a2, a3⟩ := E.own i _ e0
      have owa : Ow σ ρ a := ⟨i, _, e0, a1⟩
      refine ⟨a, .dK vs, a2, trivial, fun od => ?_⟩
      have hl : i < ρ.length := (List.getElem?_eq_some_iff.mp e0).1
      -- shared, then locked
      have SF := S.freeze e0
      have nOw : ¬ Ow σ (ρ.set i (.sh (.dK kvs))) a := fun ⟨j, d, h1, h2⟩ => by
        by_cases c : j = i
        · subst c
          rw [List.getElem?_set_self hl] at h1
          cases h1
        · rw [set_get_ne c] at h1
          exact c (E.inj j i d _ a h1 e0 h2 a1)
      obtain ⟨ρL, eL⟩ : ∃ x, x = ρ.set i (.sh (.dK kvs)) := ⟨_, rfl⟩
      rw [← eL] at SF nOw ez
      have EF := SF.env
      have nPa : ¬ Pz Z σ ρL a := fun z => z.elim (fun z => E.zdis a owa z) nOw
      have Ba : B a = none := S.free a owa
      obtain ⟨HL, eH⟩ : ∃ x, x = upd H a (.frz od (.dK vs)) := ⟨_, rfl⟩
      have HLa : HL a = some (.frz od (.dK vs)) := by rw [eH]; exact upd_same
      rw [← eH]
      have lk : ∀ {b o}, H b = some o → (∀ vs, o ≠ .dK vs) → HL b = some o := fun {b o} q n => by
        rw [eH, upd_ne fun c => by rw [c, a2] at q; cases q; exact n _ rfl]
        exact q
      have lkn : ∀ {b : Addr}, b ≠ a → HL b = H b := fun {b} c => by rw [eH, upd_ne c]
      have lr : ∀ (d : D) (v : V), Rp K (hide (Pz Z σ ρL) H) v d → Rp K (hide (Pz Z σ ρL) HL) v d := fun d v r => Rp.lck (fun b o q => by
        obtain ⟨q1, q2⟩ := hide_some.mp q
        by_cases c : b = a
        · subst c
          rw [a2] at q2
          cases q2
          exact .inr ⟨od, vs, rfl, hide_some.mpr ⟨q1, HLa⟩⟩
        · exact .inl (hide_some.mpr ⟨q1, by rw [lkn c]; exact q2⟩)) d v r
      have lrL : ∀ (d : List D) (v : List V), RpL K (hide (Pz Z σ ρL) H) v d → RpL K (hide (Pz Z σ ρL) HL) v d := fun d v r => RpL.lck (fun b o q => by
        obtain ⟨q1, q2⟩ := hide_some.mp q
        by_cases c : b = a
        · subst c
          rw [a2] at q2
          cases q2
          exact .inr ⟨od, vs, rfl, hide_some.mpr ⟨q1, HLa⟩⟩
        · exact .inl (hide_some.mpr ⟨q1, by rw [lkn c]; exact q2⟩)) d v r
      have lrT : ∀ (d : List (List Key × D)) (v : List (List Key × V)), RpT K (hide (Pz Z σ ρL) H) v d → RpT K (hide (Pz Z σ ρL) HL) v d := fun d v r => RpT.lck (fun b o q => by
        obtain ⟨q1, q2⟩ := hide_some.mp q
        by_cases c : b = a
        · subst c
          rw [a2] at q2
          cases q2
          exact .inr ⟨od, vs, rfl, hide_some.mpr ⟨q1, HLa⟩⟩
        · exact .inl (hide_some.mpr ⟨q1, by rw [lkn c]; exact q2⟩)) d v r
      have lrK : ∀ (d : List (Key × D)) (v : List (Key × V)), RpK K (hide (Pz Z σ ρL) H) v d → RpK K (hide (Pz Z σ ρL) HL) v d := fun d v r => RpK.lck (fun b o q => by
        obtain ⟨q1, q2⟩ := hide_some.mp q
        by_cases c : b = a
        · subst c
          rw [a2] at q2
          cases q2
          exact .inr ⟨od, vs, rfl, hide_some.mpr ⟨q1, HLa⟩⟩
        · exact .inl (hide_some.mpr ⟨q1, by rw [lkn c]; exact q2⟩)) d v r
      have nb : ∀ {b : Addr}, Pz Z σ ρL b → b ≠ a := fun {b} q c => nPa (c ▸ q)
      have EL : EnvOk K Z HL σ ρL := by
        refine ⟨EF.len, fun j d h => ?_, fun j d h => ?_, EF.inj, ⟨fun b q => ?_, fun b kvs q => ⟨(EF.zok.gh b kvs q).1, by rw [lkn (nb (.inl (EF.zok.gh b kvs q).1))]; exact (EF.zok.gh b kvs q).2⟩⟩, EF.zdis, by rw [eH]; exact EF.tab.upd a2 trivial⟩
        · obtain ⟨v, k1, k2⟩ := EF.sh j d h
          exact ⟨v, k1, lr _ _ k2⟩
        · obtain ⟨b, k1, k2⟩ := EF.own j d h
          have n := nb (.inr ⟨j, d, h, k1⟩)
          refine ⟨b, k1, ?_⟩
          cases d with
          | lst ds =>
            obtain ⟨us, w1, w2⟩ := k2
            exact ⟨us, by rw [lkn n]; exact w1, lrL _ _ w2⟩
          | dT ds =>
            obtain ⟨us, w1, w2⟩ := k2
            exact ⟨us, by rw [lkn n]; exact w1, lrT _ _ w2⟩
          | dK ds =>
            obtain ⟨us, w1, w2⟩ := k2
            exact ⟨us, by rw [lkn n]; exact w1, lrK _ _ w2⟩
          | _ => exact k2.elim
        · obtain ⟨o, k1, k2, k3⟩ := EF.zok b q
          exact ⟨o, by rw [lkn (nb (.inl q))]; exact k1, k2, k3⟩
      let B' : Hp := hide (Ow σ ρL) HL
      have B'a : B' a = some (.frz od (.dK vs)) := hide_some.mpr ⟨nOw, HLa⟩
      have sB : Sme B B' := by
        have z : Sme B HL := by
          rw [eH]
          exact S.base.updN Ba
        exact z.hideN fun b q => SF.free b q
      have sG : Sme (hide (Pz Z σ ρL) HL) B' := hide_mono (fun b _ _ q => .inr q) fun _ _ _ q => q
      have SL : StOk K Z B' HL σ ρL := ⟨EL, hide_same HL, fun b q => by
        cases h : B' b with
        | none => rfl
        | some o => exact absurd q (hide_some.mp h).1⟩
      have gst : ∀ {σ' : L2.St} {H' : Hp} {ρ' : En}, StOk K Z B' H' σ' ρ' → Sme (hide (Pz Z σ ρL) HL) (hide (Pz Z σ' ρ') H') := fun {σ' H' ρ'} S' => (Sme.trans sG S'.base).hideN fun b z => by
        rcases z with z | z
        · unfold hide
          exact if_pos (.inl z)
        · exact sG.none (S'.free b z)
      have GLa : hide (Pz Z σ ρL) HL a = some (.frz od (.dK vs)) := hide_some.mpr ⟨nPa, HLa⟩
      have a3L : RpK K (hide (Pz Z σ ρL) HL) vs kvs := by
        obtain ⟨v, k1, k2⟩ := EL.sh i (.dK kvs) (by rw [eL]; exact List.getElem?_set_self hl)
        rw [a1] at k1
        cases k1
        cases k2 with
        | dK s r =>
          rcases s with s | ⟨o', s⟩
          · rw [GLa] at s; cases s
          · rw [GLa] at s
            cases s
            exact r
      refine ⟨.ref a, a1, a, od, rfl, .inl ⟨vs, HLa, ?_⟩⟩
      have jok := jok_keysE (K := K) (G := hide (Pz Z σ ρL) HL) (G2 := hide (Pz Z σ ρL) HL) GLa a3L
      obtain ⟨ds, eds⟩ : ∃ ds, ds = (kvs.map fun kv => unKey kv.1) := ⟨_, rfl⟩
      rw [← eds] at jok ez
      refine ⟨fun k m σ' H' => m = ds.length - k ∧ k ≤ ds.length ∧ σ'[i]? = some (some (.ref a)) ∧ ∃ ρ', StOk K Z B' H' σ' ρ' ∧ loopF tgt body (ds.drop k) ρ' = some (.nx ρz), ⟨ds.length, by simp, Nat.zero_le _, a1, ρL, SL, ez⟩, ?_⟩
      rintro k m σ' H' ⟨rfl, hk, h1', ρ', S', e'⟩
      have sGH : Sme (hide (Pz Z σ ρL) HL) H' := Sme.trans sG S'.base
      by_cases hlt : k < ds.length
      · rw [List.drop_eq_getElem_cons hlt] at e'
        unfold loopF at e'
        obtain ⟨ρ1, e2, e'⟩ := Option.bind_eq_some_iff.mp e'
        refine .inr ⟨jok.go k H' hlt sGH, fun σ2 H2 => σ2[i]? = some (some (.ref a)) ∧ ∃ ρ2, StOk K Z B' H2 σ2 ρ2 ∧ loopF tgt body (ds.drop (k + 1)) ρ2 = some (.nx ρz), fun σ2 H2 ⟨k0, ρ2, k1, k2⟩ => ⟨ds.length - (k + 1), by omega, rfl, hlt, k0, ρ2, k1, k2⟩, fun x H2 y => ?_⟩
        obtain ⟨s2, r2⟩ := jok.yld k ds[k] H' x H2 (List.getElem?_eq_getElem hlt) sGH y
        have r3 := r2 (Pz Z σ' ρ') S'.env.pok (gst S')
        refine hg Z B' σ' H2 ρ' ρ1 x ⟨ds[k], .av⟩ (S'.mono s2) r3 e2 _ fun σ3 S3 k3 => ?_
        cases q : body ρ1 with
        | none => rw [q] at e'; cases e'
        | some f =>
          rw [q] at e'
          refine hb Z B' σ3 H2 ρ1 f S3 q _ ?_
          cases f with
          | nx ρ2 => exact fun σ4 H4 S4 k4 => ⟨((k4 i List.mem_cons_self).trans (k3 i List.mem_cons_self)).trans h1', ρ2, S4, e'⟩
          | ct ρ2 => exact fun σ4 H4 S4 k4 => ⟨((k4 i List.mem_cons_self).trans (k3 i List.mem_cons_self)).trans h1', ρ2, S4, e'⟩
          | bk ρ2 =>
            cases e'
            intro σ4 H4 S4 k4
            have h4a : H4 a = some (.frz od (.dK vs)) := S4.base.get _ _ B'a trivial
            exact ⟨h4a, w _ _ (unl_env S4 h4a sB Ba)⟩
          | rt d fr => cases e'
          | ex n => cases e'
          | rn d => cases e'
      · have : k = ds.length := by omega
        subst this
        rw [List.drop_length] at e'
        cases e'
        have H'a : H' a = some (.frz od (.dK vs)) := S'.base.get _ _ B'a trivial
        exact .inl ⟨jok.stop _ H' (Nat.le_refl _) sGH, H'a, w _ _ (unl_env S' H'a sB Ba)⟩
    · cases e
  · cases e
theorem gs_forE {tg : Expr} {bd : List Stmt} {pos : Pos} {x : Str} {np : Pos} (i : Nat) (hp : PassesOwn (model X.prog X.w) X.A X.env X.xe) (hc : X.calm = true) (hg : GGK K X [i] tg g tgt) (hb : GSKs K X W [i] bd tb body)
    (hi : X.N[i]? = some x := by rfl) (hvi : Vis X.env.scope x := by first | exact Or.inl rfl | exact Or.inr (Or.inl rfl) | exact Or.inr (Or.inr rfl)) (hd : (x == ("__debug__" : Str)) = false := by decide) (hcd : (x == ("__classdict__" : Str)) = false := by decide)
    (hs : ∀ z, foldedSetIterable (.Name x np) X.env z = pure z := by intro _; rfl) : GS K X W (.For tg (.Name x np) bd [] pos) (tLock (tFor (iKeys (tVar i)) g tb)) (sForE i tgt body) :=
  ⟨ps_lock (ps_for hp hc (pi_keys (pe_var hi hvi hd hcd)) hg.p hb.p hs), ss_forE hg.s hb.s⟩
end
@[simp] theorem ev_dictE {ρ : En} : eDictE ρ = some ⟨.dK [], .fr⟩ := (rfl)
@[simp] theorem ev_getE {fa fb : EF} {ρ : En} : eGetE fa fb ρ = (fa ρ).bind fun a => (fb ρ).bind fun b => match a.d with
  | .dK kvs => (keyD b.d).bind fun k => (valE kvs k).map fun d => ⟨d, md (imm d)⟩
  | _ => none := (rfl)
@[simp] theorem ev_get2E {fa fb fc : EF} {ρ : En} : eGet2E fa fb fc ρ = (fa ρ).bind fun a => (fb ρ).bind fun b => (fc ρ).bind fun c => match a.d with
  | .dK kvs => (keyD b.d).bind fun k => match valE kvs k with
    | some d => some ⟨d, md (imm d)⟩
    | none => some ⟨c.d, md (okR c)⟩
  | _ => none := (rfl)
@[simp] theorem ev_inE {neg : Bool} {fa fb : EF} {ρ : En} : eInE neg fb fa ρ = (fb ρ).bind fun b => (fa ρ).bind fun a => match a.d with
  | .dK kvs => (keyD b.d).map fun k => ofB (if neg then !(valE kvs k).isSome else (valE kvs k).isSome)
  | _ => none := (rfl)
@[simp] theorem ev_putE {i : Nat} {fk fv : EF} {ρ : En} : sPutE i fk fv ρ = (fv ρ).bind fun r => match ρ[i]? with
  | some (.own (.dK kvs)) => (fk ρ).bind fun k => (keyD k.d).bind fun q => if okR r && decide (kvs.length < 100000) then some (.nx (ρ.set i (.own (.dK (putE kvs q r.d))))) else none
  | _ => none := (rfl)
@[simp] theorem keyD_int (k : Int) : keyD (.int k) = some (.inl k) := (rfl)
end Fb
set_option maxHeartbeats 2000000
/-! FbV: a list of new lists of ints, one's own through and through: made, read, and shortened from the front (y.append(x[e].pop(0))). -/
namespace Fb
open PySem PySem.Spec L2
variable [γ : GSt]

/-! ### statements under a condition -/
abbrev Cnd := (Addr → Prop) → Hp → L2.St → Hp → En → Prop
def yesC : Cnd := fun _ _ _ _ _ => True
def WantC (K : PySem.W.Frag) (W : Str → Hp → Prop) (C : Cnd) (Z : Addr → Prop) (B : Hp) (Dn : Ends) : Fl → Prop
  | .nx ρ => ∀ σ H, StOk K Z B H σ ρ → C Z B σ H ρ → Dn.nx σ H
  | .bk _ => False
  | .ct _ => False
  | .rt d fr => ∀ v H, RetOk K Z B H v d fr → Dn.rt v H
  | .ex n => ∀ H, Sme B H → TabsK K H → W n H
  | .rn d => ∀ v H, RnOk K B H v d → Dn.rt v H
def SemSC (K : PySem.W.Frag) (W : Str → Hp → Prop) (C C' : Cnd) (t : TS) (f : SF) : Prop :=
  ∀ (Z : Addr → Prop) (B : Hp) (σ : L2.St) (H : Hp) (ρ : En) (fl : Fl), StOk K Z B H σ ρ → C Z B σ H ρ → f ρ = some fl → ∀ Dn : Ends, WantC K W C' Z B Dn fl → t Dn σ H
structure GC (K : PySem.W.Frag) (X : Cx) (W : Str → Hp → Prop) (C C' : Cnd) (st : Stmt) (t : TS) (f : SF) : Prop where
  p : PS X st t
  s : SemSC K W C C' t f
structure GCs (K : PySem.W.Frag) (X : Cx) (W : Str → Hp → Prop) (C C' : Cnd) (st : List Stmt) (t : TS) (f : SF) : Prop where
  p : PSs X st t
  s : SemSC K W C C' t f
/-- data of a list of lists of ints -/
def llD (lss : List (List Int)) : D := .lst (lss.map fun ns => .lst (ns.map .int))
def llOf : List D → Option (List (List Int))
  | [] => some []
  | .lst es :: r => (intsD es).bind fun ns => (llOf r).map (ns :: ·)
  | _ => none
theorem llOf_map : ∀ lss : List (List Int), llOf (lss.map fun ns => .lst (ns.map .int)) = some lss
  | [] => rfl
  | ns :: r => by
    show (intsD (ns.map D.int)).bind _ = _
    rw [intsD_map, Option.bind_some, llOf_map r]
    rfl
/-- where the lists lie -/
inductive LL (H : Hp) : List Addr → List (List Int) → Prop
  | nil : LL H [] []
  | cons {a : Addr} {as : List Addr} {ns : List Int} {nss : List (List Int)} : H a = some (.lst (ns.map V.int)) → LL H as nss → LL H (a :: as) (ns :: nss)
/-- what slot p holds stood there at the entry -/
def CP (K : PySem.W.Frag) (p : Nat) : Cnd := fun Z B σ H ρ => ∃ v d, σ[p]? = some (some v) ∧ ρ[p]? = some (.sh d) ∧ Rp K (hide Z B) v d
/-- .. and slot l holds a list of new lists of ints -/
def CG (K : PySem.W.Frag) (p l : Nat) : Cnd := fun Z B σ H ρ => CP K p Z B σ H ρ ∧ ∃ (aL : Addr) (as : List Addr) (lss : List (List Int)), σ[l]? = some (some (.ref aL)) ∧ ρ[l]? = some (.sh (llD lss)) ∧ H aL = some (.lst (as.map V.ref)) ∧ LL H as lss ∧ as.Nodup ∧ aL ∉ as ∧
  ∀ a, (a = aL ∨ a ∈ as) → B a = none ∧ ¬ Pz Z σ ρ a
section
variable {K : PySem.W.Frag} {W : Str → Hp → Prop} {X : Cx} {C C1 C2 C3 : Cnd} {t u : TS} {f g : SF} {Z : Addr → Prop} {B H H' : Hp} {σ σ' : L2.St} {ρ ρ' : En} {p l : Nat}
theorem LL.len : ∀ {as : List Addr} {lss : List (List Int)}, LL H as lss → as.length = lss.length
  | _, _, .nil => rfl
  | _, _, .cons _ t => congrArg (· + 1) t.len
theorem LL.mono : ∀ {as : List Addr} {lss : List (List Int)}, (∀ a ∈ as, ∀ xs, H a = some (.lst xs) → H' a = some (.lst xs)) → LL H as lss → LL H' as lss
  | _, _, _, .nil => .nil
  | _, _, k, .cons h t => .cons (k _ List.mem_cons_self _ h) (LL.mono (fun a ha => k a (List.mem_cons_of_mem _ ha)) t)
theorem LL.rp {P : Addr → Prop} : ∀ {as : List Addr} {lss : List (List Int)}, (∀ a ∈ as, ¬ P a) → LL H as lss → RpL K (hide P H) (as.map V.ref) (lss.map fun ns => .lst (ns.map .int))
  | _, _, _, .nil => .nil
  | _, _, k, .cons h t => .cons (.lst (hide_some.mpr ⟨k _ List.mem_cons_self, h⟩) (RpL.ofInts _)) (LL.rp (fun a ha => k a (List.mem_cons_of_mem _ ha)) t)
theorem LL.at : ∀ {as : List Addr} {lss : List (List Int)} {k : Nat} {ns : List Int}, LL H as lss → lss[k]? = some ns → ∃ a, as[k]? = some a ∧ H a = some (.lst (ns.map V.int))
  | _, _, k, ns, .nil, e => by simp at e
  | _, _, 0, ns, .cons h t, e => by
    cases Option.some.inj e
    exact ⟨_, rfl, h⟩
  | _, _, k + 1, ns, .cons h t, e => LL.at (k := k) t e
theorem LL.set {a : Addr} {ns : List Int} : ∀ {as : List Addr} {lss : List (List Int)} {k : Nat}, as.Nodup → as[k]? = some a → LL H as lss → LL (upd H a (.lst (ns.map V.int))) as (lss.set k ns)
  | _, _, k, nd, e, .nil => by simp at e
  | b :: as, _, 0, nd, e, .cons h t => by
    cases Option.some.inj e
    exact .cons upd_same (t.mono fun c hc xs q => by
      rw [upd_ne fun z => (List.nodup_cons.mp nd).1 (by rw [← z]; exact hc)]
      exact q)
  | b :: as, _, k + 1, nd, e, .cons h t => by
    have hb : b ≠ a := fun z => (List.nodup_cons.mp nd).1 (by rw [z]; exact List.mem_of_getElem? (l := as) (i := k) (by simpa using e))
    exact .cons (by rw [upd_ne hb]; exact h) (LL.set (List.nodup_cons.mp nd).2 (by simpa using e) t)
/-- what stood at the entry is there -/
theorem base_sme (S : StOk K Z B H σ ρ) : Sme (hide Z B) (hide (Pz Z σ ρ) H) := by
  refine ⟨fun b o q nt => ?_, fun b ps q => ?_⟩
  · obtain ⟨q1, q2⟩ := hide_some.mp q
    refine hide_some.mpr ⟨fun z => z.elim q1 fun z => ?_, S.base.get b o q2 nt⟩
    rw [S.free b z] at q2
    cases q2
  · obtain ⟨q1, q2⟩ := hide_some.mp q
    obtain ⟨ps', k⟩ := S.base.tb b ps q2
    refine ⟨ps', hide_some.mpr ⟨fun z => z.elim q1 fun z => ?_, k⟩⟩
    rw [S.free b z] at q2
    cases q2
theorem ow_reSh {i : Nat} {d : D} {a : Addr} (h : Ow σ (ρ.set i (.sh d)) a) : Ow σ ρ a := by
  obtain ⟨j, e, h1, h2⟩ := h
  by_cases c : j = i
  · subst c
    rw [List.getElem?_set] at h1
    simp only [if_true] at h1
    split at h1 <;> cases h1
  · rw [set_get_ne c] at h1
    exact ⟨j, e, h1, h2⟩
/-- a slot's value read otherwise -/
theorem StOk.reSh {i : Nat} {v : V} {d : D} (S : StOk K Z B H σ ρ) (h : σ[i]? = some (some v)) (r : Rp K (hide (Pz Z σ (ρ.set i (.sh d))) H) v d) : StOk K Z B H σ (ρ.set i (.sh d)) := by
  have hi : i < ρ.length := by rw [← S.env.len]; exact (List.getElem?_eq_some_iff.mp h).1
  have less : ∀ b, Pz Z σ (ρ.set i (.sh d)) b → Pz Z σ ρ b := fun b q => q.imp id ow_reSh
  have e : Sme (hide (Pz Z σ ρ) H) (hide (Pz Z σ (ρ.set i (.sh d))) H) := hide_mono (fun b _ _ q => less b q) fun _ _ _ q => q
  have E := S.env
  have ne : ∀ {j : Nat} {x : D}, (ρ.set i (.sh d))[j]? = some (.own x) → j ≠ i := fun {j x} q c => by
    subst c
    rw [List.getElem?_set_self hi] at q
    cases q
  refine ⟨⟨by rw [List.length_set]; exact E.len, fun j x hj => ?_, fun j x hj => ?_, fun j k x y b h1 h2 h3 h4 => ?_, E.zok, fun b q => E.zdis b (ow_reSh q), E.tab⟩, S.base, fun b q => S.free b (ow_reSh q)⟩
  · by_cases c : j = i
    · subst c
      rw [List.getElem?_set_self hi] at hj
      cases hj
      exact ⟨v, h, r⟩
    · rw [set_get_ne c] at hj
      obtain ⟨w, k1, k2⟩ := E.sh j x hj
      exact ⟨w, k1, Rp.mono e _ _ k2⟩
  · have c := ne hj
    rw [set_get_ne c] at hj
    obtain ⟨w, k1, k2⟩ := E.own j x hj
    exact ⟨w, k1, k2.via (fun _ q _ => q) e⟩
  · have c1 := ne h1
    have c2 := ne h2
    rw [set_get_ne c1] at h1
    rw [set_get_ne c2] at h2
    exact E.inj j k x y b h1 h2 h3 h4
theorem SemS.c (h : SemS K W t f) : SemSC K W C yesC t f := by
  intro Z B σ H ρ fl S _ e Dn w
  refine h Z B σ H ρ fl S e Dn ?_
  cases fl with
  | nx ρ' => exact fun σ H S => w σ H S trivial
  | bk ρ' => exact w.elim
  | ct ρ' => exact w.elim
  | rt d fr => exact w
  | ex n => exact w
  | rn d => exact w
theorem ss_seqC (h1 : SemSC K W C1 C2 t f) (h2 : SemSC K W C2 C3 u g) : SemSC K W C1 C3 (tSeq t u) (sSeq f g) := by
  intro Z B σ H ρ fl S c e Dn w
  unfold sSeq at e
  split at e
  · rename_i ρ' e1
    exact h1 Z B σ H ρ _ S c e1 { Dn with nx := u Dn } fun σ' H' S' c' => h2 Z B σ' H' ρ' fl S' c' e Dn w
  · rename_i hn
    refine h1 Z B σ H ρ fl S c e { Dn with nx := u Dn } ?_
    cases fl with
    | nx ρ' => exact absurd e (hn ρ')
    | bk ρ' => exact w
    | ct ρ' => exact w
    | rt d fr => exact w
    | ex n => exact w
    | rn d => exact w
theorem gcs_cons {st : Stmt} {rest : List Stmt} (h1 : GC K X W C1 C2 st t f) (h2 : GCs K X W C2 C3 rest u g) : GCs K X W C1 C3 (st :: rest) (tSeq t u) (sSeq f g) := ⟨pss_cons h1.p h2.p, ss_seqC h1.s h2.s⟩
theorem gcs_one {st : Stmt} (h1 : GC K X W C1 C2 st t f) : GCs K X W C1 C2 [st] t f := ⟨pss_one h1.p, h1.s⟩
theorem GS.c {st : Stmt} (h : GS K X W st t f) : GC K X W C yesC st t f := ⟨h.p, h.s.c⟩
/-! ### statements that keep these slots -/
def sKp1 (p : Nat) (f : SF) : SF := fun ρ => match f ρ with
  | some (.nx ρ') => some (.nx (ρ'.set p (ρ[p]?.getD .emp)))
  | some (.bk _) => none
  | some (.ct _) => none
  | r => r
def sKp2 (p l : Nat) (f : SF) : SF := fun ρ => match f ρ with
  | some (.nx ρ') => if p ≠ l then some (.nx ((ρ'.set p (ρ[p]?.getD .emp)).set l (ρ[l]?.getD .emp))) else none
  | some (.bk _) => none
  | some (.ct _) => none
  | r => r
theorem liftP (h : SemSK K W [p] t f) : SemSC K W (CP K p) (CP K p) t (sKp1 p f) := by
  intro Z B σ H ρ fl S c e Dn w
  obtain ⟨v, d, c1, c2, c3⟩ := c
  unfold sKp1 at e
  cases q : f ρ with
  | none => rw [q] at e; cases e
  | some g =>
    rw [q] at e
    refine h Z B σ H ρ g S q Dn ?_
    cases g with
    | nx ρ' =>
      cases e
      intro σ' H' S' k
      rw [c2] at w
      have k1 : σ'[p]? = some (some v) := (k p List.mem_cons_self).trans c1
      have hl : p < ρ'.length := by rw [← S'.env.len]; exact (List.getElem?_eq_some_iff.mp k1).1
      have less : Sme (hide Z B) (hide (Pz Z σ' (ρ'.set p (.sh d))) H') := (base_sme S').trans (hide_mono (fun b _ _ z => z.imp id ow_reSh) fun _ _ _ z => z)
      exact w σ' H' (S'.reSh k1 (Rp.mono less _ _ c3)) ⟨v, d, k1, List.getElem?_set_self hl, c3⟩
    | bk ρ' => cases e
    | ct ρ' => cases e
    | rt d fr => cases e; exact w
    | ex n => cases e; exact w
    | rn d => cases e; exact w
theorem CG.upto (c : CG K p l Z B σ H ρ) : ∃ (aL : Addr) (as : List Addr) (lss : List (List Int)), σ[l]? = some (some (.ref aL)) ∧ H aL = some (.lst (as.map V.ref)) ∧ LL H as lss ∧ ρ[l]? = some (.sh (llD lss)) := let ⟨_, aL, as, lss, h1, h2, h3, h4, _⟩ := c; ⟨aL, as, lss, h1, h3, h4, h2⟩
theorem liftG (h : SemSK K W [p, l] t f) : SemSC K W (CG K p l) (CG K p l) t (sKp2 p l f) := by
  intro Z B σ H ρ fl S c e Dn w
  obtain ⟨⟨v, d, c1, c2, c3⟩, aL, as, lss, g1, g2, g3, g4, g5, g6, g7⟩ := c
  let B' : Hp := hide (Ow σ ρ) H
  have sB : Sme B B' := S.base.hideN fun b q => S.free b q
  have SL : StOk K Z B' H σ ρ := ⟨S.env, hide_same H, fun b q => by
    cases h : B' b with
    | none => rfl
    | some o => exact absurd q (hide_some.mp h).1⟩
  unfold sKp2 at e
  cases q : f ρ with
  | none => rw [q] at e; cases e
  | some g =>
    rw [q] at e
    refine h Z B' σ H ρ g SL q Dn ?_
    cases g with
    | nx ρ' =>
      dsimp only at e
      split at e
      · rename_i npl
        cases e
        intro σ' H' S' k
        rw [c2, g2] at w
        have k1 : σ'[p]? = some (some v) := (k p List.mem_cons_self).trans c1
        have k2 : σ'[l]? = some (some (.ref aL)) := (k l (List.mem_cons_of_mem _ List.mem_cons_self)).trans g1
        have hp : p < ρ'.length := by rw [← S'.env.len]; exact (List.getElem?_eq_some_iff.mp k1).1
        have hl : l < ρ'.length := by rw [← S'.env.len]; exact (List.getElem?_eq_some_iff.mp k2).1
        have S1 : StOk K Z B H' σ' ρ' := S'.rebase sB
        have less : Sme (hide Z B) (hide (Pz Z σ' (ρ'.set p (.sh d))) H') := (base_sme S1).trans (hide_mono (fun b _ _ z => z.imp id ow_reSh) fun _ _ _ z => z)
        have S2 := S1.reSh k1 (Rp.mono less _ _ c3)
        -- the lists are as they were
        have inB : ∀ b o, ¬ Pz Z σ ρ b → H b = some o → B' b = some o := fun b o n q => hide_some.mpr ⟨fun z => n (.inr z), q⟩
        have hk : ∀ b xs, (b = aL ∨ b ∈ as) → H b = some (.lst xs) → H' b = some (.lst xs) := fun b xs m q => S'.base.get _ _ (inB b _ (g7 b m).2 q) trivial
        have hasO : ∀ b, (b = aL ∨ b ∈ as) → ∃ xs, H b = some (.lst xs) := fun b m => by
          rcases m with rfl | m
          · exact ⟨_, g3⟩
          · have key : ∀ {as : List Addr} {lss : List (List Int)}, LL H as lss → b ∈ as → ∃ xs, H b = some (.lst xs) := fun {as lss} L => by
              induction L with
              | nil => intro m; cases m
              | cons h t ih =>
                intro m
                rcases List.mem_cons.mp m with z | z
                · rw [z]; exact ⟨_, h⟩
                · exact ih z
            exact key g4 m
        have npz : ∀ b, (b = aL ∨ b ∈ as) → ¬ Pz Z σ' ρ' b := fun b m z => by
          rcases z with z | z
          · exact (g7 b m).2 (.inl z)
          · obtain ⟨xs, q⟩ := hasO b m
            have := inB b _ (g7 b m).2 q
            rw [S'.free b z] at this
            cases this
        have npz2 : ∀ b, (b = aL ∨ b ∈ as) → ¬ Pz Z σ' ((ρ'.set p (.sh d)).set l (.sh (llD lss))) b := fun b m z => npz b m (z.imp id fun z => ow_reSh (ow_reSh z))
        have L' : LL H' as lss := g4.mono fun a ha xs q => hk a xs (.inr ha) q
        have r2 : Rp K (hide (Pz Z σ' ((ρ'.set p (.sh d)).set l (.sh (llD lss)))) H') (.ref aL) (llD lss) := .lst (hide_some.mpr ⟨npz2 aL (.inl rfl), hk aL _ (.inl rfl) g3⟩) (L'.rp fun a ha => npz2 a (.inr ha))
        have S3 := S2.reSh k2 r2
        exact w σ' H' S3 ⟨⟨v, d, k1, by rw [set_get_ne npl]; exact List.getElem?_set_self hp, c3⟩, aL, as, lss, k2, List.getElem?_set_self (by rw [List.length_set]; exact hl), hk aL _ (.inl rfl) g3, L', g5, g6, fun a m => ⟨(g7 a m).1, npz2 a m⟩⟩
      · cases e
    | bk ρ' => cases e
    | ct ρ' => cases e
    | rt d fr => cases e; exact fun v H r => w v H (r.base sB)
    | ex n => cases e; exact fun H s t => w H (sB.trans s) t
    | rn d => cases e; exact fun v H r => w v H (r.base sB)
theorem GSK.p1 {st : Stmt} (h : GSK K X W [p] st t f) : GC K X W (CP K p) (CP K p) st t (sKp1 p f) := ⟨h.p, liftP h.s⟩
theorem GSK.g2 {st : Stmt} (h : GSK K X W [p, l] st t f) : GC K X W (CG K p l) (CG K p l) st t (sKp2 p l f) := ⟨h.p, liftG h.s⟩
theorem CG.same (c : CG K p l Z B σ H ρ) (s : Same K H H') : CG K p l Z B σ H' ρ := by
  obtain ⟨c0, aL, as, lss, g1, g2, g3, g4, g5, g6, g7⟩ := c
  exact ⟨c0, aL, as, lss, g1, g2, s _ _ g3, g4.mono fun a _ xs q => s _ _ q, g5, g6, g7⟩
/-! ### while -/
def noB (f : SF) : SF := fun ρ => match f ρ with
  | some (.bk _) => none
  | some (.ct _) => none
  | r => r
theorem ss_whileC {tc : TT} {c : TF} {tb : TS} {body : SF} (fuel : En → Nat) (hc : SemT K tc c) (hb : SemSC K W (CG K p l) (CG K p l) tb body) : SemSC K W (CG K p l) (CG K p l) (tWhile tc tb) (sWhile fuel c (noB body)) := by
  intro Z B σ H ρ fl S cc e Dn w
  refine ⟨fun m σ' H' => ∃ ρ', StOk K Z B H' σ' ρ' ∧ CG K p l Z B σ' H' ρ' ∧ loopW c (noB body) m ρ' = some fl, ⟨fuel ρ, ρ, S, cc, e⟩, ?_⟩
  rintro m σ' H' ⟨ρ', S', c', e'⟩
  cases m with
  | zero => cases e'
  | succ m =>
    unfold loopW at e'
    split at e'
    · rename_i e1
      cases e'
      refine hc Z σ' H' ρ' _ S'.env e1 _ fun H2 s2 => ?_
      rw [if_neg Bool.false_ne_true]
      exact w σ' H2 (S'.mono s2) (c'.same s2)
    · rename_i e1
      refine hc Z σ' H' ρ' _ S'.env e1 _ fun H2 s2 => ?_
      rw [if_pos rfl]
      refine ⟨fun σ2 H2 => ∃ ρ2, StOk K Z B H2 σ2 ρ2 ∧ CG K p l Z B σ2 H2 ρ2 ∧ loopW c (noB body) m ρ2 = some fl, fun σ2 H2 q => ⟨m, Nat.lt_succ_self m, q⟩, ?_⟩
      cases q : body ρ' with
      | none =>
        have : noB body ρ' = none := by unfold noB; rw [q]
        rw [this] at e'
        cases e'
      | some f =>
        refine hb Z B σ' H2 ρ' f (S'.mono s2) (c'.same s2) q _ ?_
        have nb : noB body ρ' = match (some f : Option Fl) with
          | some (.bk _) => none
          | some (.ct _) => none
          | r => r := by unfold noB; rw [q]
        rw [nb] at e'
        cases f with
        | nx ρ2 => exact fun σ4 H4 S4 c4 => ⟨ρ2, S4, c4, e'⟩
        | ct ρ2 => cases e'
        | bk ρ2 => cases e'
        | rt d fr => cases e'; exact w
        | ex n => cases e'; exact w
        | rn d => cases e'; exact w
    · cases e'
theorem gc_while {ce : Expr} {bd : List Stmt} {pos : Pos} {tc : TT} {c : TF} {tb : TS} {body : SF} (fuel : En → Nat) (hp : PassesOwn (model X.prog X.w) X.A X.env X.xe) (hc : GT K X ce tc c) (hb : GCs K X W (CG K p l) (CG K p l) bd tb body) : GC K X W (CG K p l) (CG K p l) (.While ce bd [] pos) (tWhile tc tb) (sWhile fuel c (noB body)) := ⟨ps_while hp hc.p hb.p, ss_whileC fuel hc.s hb.s⟩
end
end Fb
set_option maxHeartbeats 2000000
/-! FbW: y.append(x[e].pop(0)), x a list of one's own lists; x = [list(..) for .. in ..]; the def of all that. -/
namespace Fb
open PySem PySem.Spec L2
variable [γ : GSt]
def popLL (lss : List (List Int)) (k : Int) : Option (Int × List (List Int)) := if 0 ≤ k ∧ k < (lss.length : Int) then (match lss[k.toNat]? with
  | some (x :: xs) => some (x, lss.set k.toNat xs)
  | _ => none) else none
/-- slot o .append(slot l [fe].pop(0)) -/
def sPopG (o p l : Nat) (fe : EF) : SF := fun ρ => match ρ[o]?, ρ[l]?, ρ[p]? with
  | some (.own (.lst os)), some (.sh (.lst dl)), some (.sh dp) => (fe ρ).bind fun r => match r.d with
    | .int k => (llOf dl).bind fun lss => (popLL lss k).bind fun q => if imm.immL os = true ∧ os.length < 100000 ∧ lss.length < 100000 ∧ o ≠ l ∧ o ≠ p ∧ p ≠ l then some (.nx ((((ρ.map keepSl).set p (.sh dp)).set l (.sh (llD q.2))).set o (.own (.lst (os ++ [.int q.1]))))) else none
    | _ => none
  | _, _, _ => none
section
variable {K : PySem.W.Frag} {W : Str → Hp → Prop} {X : Cx} {p l : Nat} {te : TE} {fe : EF}
/-- an object that nobody's data but one list's leans on is changed: what holds no lists stays -/
theorem StOk.forget {Z : Addr → Prop} {B H : Hp} {σ : L2.St} {ρ : En} {a : Addr} {xs ys : List V} (S : StOk K Z B H σ ρ) (ha : H a = some (.lst xs)) (hB : B a = none) (hP : ¬ Pz Z σ ρ a) : StOk K Z B (L2.upd H a (.lst ys)) σ (ρ.map keepSl) := by
  have E := S.env
  have ow : ∀ b, Ow σ (ρ.map keepSl) b → Ow σ ρ b := fun b ⟨j, d, h1, h2⟩ => by
    rcases keep_get h1 with z | ⟨z1, z2⟩
    · cases z
    · exact ⟨j, d, z1, h2⟩
  have pz : ∀ b, Pz Z σ (ρ.map keepSl) b → Pz Z σ ρ b := fun b z => z.imp id (ow b)
  have st : STup (hide (Pz Z σ ρ) H) (hide (Pz Z σ (ρ.map keepSl)) (L2.upd H a (.lst ys))) := by
    refine ⟨fun b xs' z => ?_, fun b C dx z => ?_, fun b oe φ z => ?_⟩ <;>
    · obtain ⟨z1, z2⟩ := hide_some.mp z
      refine hide_some.mpr ⟨fun c => z1 (pz b c), ?_⟩
      rw [upd_ne fun c => by rw [c, ha] at z2; cases z2]
      exact z2
  refine ⟨⟨by rw [List.length_map]; exact E.len, fun j d h => ?_, fun j d h => ?_, fun j k d d' b h1 h2 => ?_, E.zok.upd fun z => hP (.inl z), fun b z => E.zdis b (ow b z), E.tab.upd ha trivial⟩, S.base.updN hB, fun b z => S.free b (ow b z)⟩
  · rcases keep_get h with z | ⟨z1, z2⟩
    · cases z
    · obtain ⟨x, k1, k2⟩ := E.sh j d z1
      exact ⟨x, k1, Rp.immK st _ _ z2 k2⟩
  · rcases keep_get h with z | ⟨z1, z2⟩
    · cases z
    · obtain ⟨b, k1, k2⟩ := E.own j d z1
      refine ⟨b, k1, ?_⟩
      have nb : b ≠ a := fun c => hP (.inr ⟨j, d, z1, by rw [← c]; exact k1⟩)
      cases d with
      | lst ds' =>
        obtain ⟨ws, g1, g2⟩ := k2
        exact ⟨ws, by rw [upd_ne nb]; exact g1, RpL.immK st _ _ z2 g2⟩
      | _ => cases z2
  · rcases keep_get h1 with z | ⟨z1, z2⟩
    · cases z
    · rcases keep_get h2 with z | ⟨z3, z4⟩
      · cases z
      · exact E.inj j k d d' b z1 z3
theorem ss_popG {o : Nat} (h : SemE K te fe) : SemSC K W (CG K p l) (CG K p l) (tDrop (tBM K "list" rAppend (tVar o) (tCons (tBM K "list" rPopAt (tOp (rIx K) (tVar l) te) (tCons (tC (.int 0)) tNil)) tNil))) (sPopG o p l fe) := by
  intro Z B σ H ρ fl S c e Dn w
  unfold sPopG at e
  split at e
  · rename_i os dl dp e0 e1 e2
    obtain ⟨r, e3, e⟩ := Option.bind_eq_some_iff.mp e
    split at e
    · rename_i k ek
      obtain ⟨lss, e4, e⟩ := Option.bind_eq_some_iff.mp e
      obtain ⟨q, e5, e⟩ := Option.bind_eq_some_iff.mp e
      split at e
      · rename_i hc
        obtain ⟨him, hol, hll, nol, nop, npl⟩ := hc
        cases e
        obtain ⟨⟨v, d, c1, c2, c3⟩, aL, as, lss', g1, g2, g3, g4, g5, g6, g7⟩ := c
        rw [e2] at c2
        cases c2
        rw [e1] at g2
        cases g2
        rw [llOf_map] at e4
        cases e4
        obtain ⟨x, lss2⟩ := q
        unfold popLL at e5
        split at e5
        · rename_i hk
          split at e5
          · rename_i y ys ey
            cases e5
            obtain ⟨ao, vs, a1, a2, a3⟩ := own_lst S.env e0
            refine ⟨.ref ao, a1, .inl ⟨rfl, _, SqL.of a2⟩, ?_⟩
            refine ⟨_, g1, ?_⟩
            refine h Z σ H ρ r S.env e3 _ fun u H1 s1 ru => ?_
            have S1 := S.mono s1
            have g3' : H1 aL = some (.lst (as.map V.ref)) := s1 _ _ g3
            have g4' : LL H1 as lss := g4.mono fun a _ xs q => s1 _ _ q
            obtain ⟨ak, ak1, ak2⟩ := g4'.at ey
            obtain ⟨rd, rm⟩ := r
            cases ek
            have hu := (ru.opd S.env.pok).int
            have ek2 : ((k.toNat : Nat) : Int) = k := by omega
            have am : ak ∈ as := List.mem_of_getElem? ak1
            have ix : atI (as.map V.ref) k = some (.ref ak) := by
              rw [← ek2]
              exact atI_nat (by rw [List.getElem?_map, ak1]; rfl)
            refine .inl ⟨aL, _, k, .ref ak, rfl, hu, SqL.of g3', ix, ?_⟩
            refine ⟨.inl ⟨rfl, _, SqL.of ak2⟩, ?_⟩
            refine ⟨ak, _, 0, 0, .int x, rfl, rfl, ak2, by omega, by omega, ?_, rfl, ?_⟩
            · unfold seqIndex?
              simp
            · -- the list is shortened
              obtain ⟨gB, gP⟩ := g7 ak (.inr am)
              obtain ⟨gBL, gPL⟩ := g7 aL (.inl rfl)
              have S2 := S1.forget (ys := (ys.map V.int)) ak2 gB gP
              have er : ((x :: ys).map V.int).eraseIdx 0 = ys.map V.int := rfl
              rw [er]
              have len : (ρ.map keepSl).length = ρ.length := List.length_map ..
              have hp' : p < ρ.length := by rw [← S.env.len]; exact (List.getElem?_eq_some_iff.mp c1).1
              have hl' : l < ρ.length := by rw [← S.env.len]; exact (List.getElem?_eq_some_iff.mp g1).1
              have ho' : o < ρ.length := (List.getElem?_eq_some_iff.mp e0).1
              have less1 : Sme (hide Z B) (hide (Pz Z σ ((ρ.map keepSl).set p (.sh dp))) (upd H1 ak (.lst (ys.map V.int)))) := (base_sme S2).trans (hide_mono (fun b _ _ z => z.imp id ow_reSh) fun _ _ _ z => z)
              have S3 := S2.reSh c1 (Rp.mono less1 _ _ c3)
              have L2' : LL (upd H1 ak (.lst (ys.map V.int))) as (lss.set k.toNat ys) := LL.set g5 ak1 g4'
              have naL : aL ≠ ak := fun c => g6 (by rw [c]; exact am)
              have g3'' : (upd H1 ak (.lst (ys.map V.int))) aL = some (.lst (as.map V.ref)) := by rw [upd_ne naL]; exact g3'
              have npz : ∀ b, (b = aL ∨ b ∈ as) → ¬ Pz Z σ (((ρ.map keepSl).set p (.sh dp)).set l (.sh (llD (lss.set k.toNat ys)))) b := fun b m z => by
                refine (g7 b m).2 (z.imp id fun z => ?_)
                obtain ⟨j, d, z1, z2⟩ := ow_reSh (ow_reSh z)
                rcases keep_get z1 with w | ⟨w1, _⟩
                · cases w
                · exact ⟨j, d, w1, z2⟩
              have r2 : Rp K (hide (Pz Z σ (((ρ.map keepSl).set p (.sh dp)).set l (.sh (llD (lss.set k.toNat ys))))) (upd H1 ak (.lst (ys.map V.int)))) (.ref aL) (llD (lss.set k.toNat ys)) := .lst (hide_some.mpr ⟨npz aL (.inl rfl), g3''⟩) (L2'.rp fun a ha => npz a (.inr ha))
              have S4 := S3.reSh g1 r2
              have eo : (((ρ.map keepSl).set p (.sh dp)).set l (.sh (llD (lss.set k.toNat ys))))[o]? = some (.own (.lst os)) := by
                rw [set_get_ne nol, set_get_ne nop, List.getElem?_map, e0]
                show some (keepSl (.own (.lst os))) = _
                show some (if imm.immL os = true then Sl.own (.lst os) else .emp) = _
                rw [if_pos him]
              obtain ⟨ao', vs', d1, d2, d3⟩ := own_lst S4.env eo
              rw [a1] at d1
              cases d1
              have sm2 := same_own (Z := Z) (H := upd H1 ak (.lst (ys.map V.int))) (o := .lst (vs' ++ [.int x])) eo a1
              refine ⟨ao, vs', .int x, rfl, rfl, d2, by rw [d3.length]; exact Nat.lt_trans hol (by decide), ?_⟩
              have S5 := S4.upd (o := .lst (vs' ++ [.int x])) (d' := .lst (os ++ [.int x])) eo a1 ⟨_, upd_same, (RpL.mono sm2 _ _ d3).append (.cons (.int x) .nil)⟩
              have owo : Ow σ (((ρ.map keepSl).set p (.sh dp)).set l (.sh (llD (lss.set k.toNat ys)))) ao := ⟨o, _, eo, a1⟩
              have nao : ∀ b, (b = aL ∨ b ∈ as) → b ≠ ao := fun b m c => npz b m (.inr (by rw [c]; exact owo))
              have npz5 : ∀ b, (b = aL ∨ b ∈ as) → ¬ Pz Z σ ((((ρ.map keepSl).set p (.sh dp)).set l (.sh (llD (lss.set k.toNat ys)))).set o (.own (.lst (os ++ [.int x])))) b := fun b m z => by
                refine npz b m (z.imp id fun ⟨j, d, z1, z2⟩ => ?_)
                by_cases cj : j = o
                · subst cj
                  rw [a1] at z2
                  cases z2
                  exact absurd rfl (nao _ m)
                · rw [set_get_ne cj] at z1
                  exact ⟨j, d, z1, z2⟩
              refine w σ _ S5 ⟨⟨v, dp, c1, ?_, c3⟩, aL, as, lss.set k.toNat ys, g1, ?_, by rw [upd_ne (nao aL (.inl rfl))]; exact g3'', L2'.mono fun a ha xs q => by rw [upd_ne (nao a (.inr ha))]; exact q, g5, g6, fun a m => ⟨(g7 a m).1, npz5 a m⟩⟩
              · rw [set_get_ne (Ne.symm nop), set_get_ne npl]
                exact List.getElem?_set_self (by rw [len]; exact hp')
              · rw [set_get_ne (Ne.symm nol)]
                exact List.getElem?_set_self (by rw [List.length_set, len]; exact hl')
          · cases e5
        · cases e5
      · cases e
    · cases e
  · cases e
theorem gc_popG (o p l : Nat) {x y : Str} {e : Expr} {i0 : Nat} {np apos cpos np2 ip apos2 cpos2 zp pos : Pos} (he : GE K X e te fe)
    (hN : X.N[o]? = some x := by rfl) (hv : Vis X.env.scope x := by first | exact Or.inl rfl | exact Or.inr (Or.inl rfl) | exact Or.inr (Or.inr rfl)) (hd : (x == ("__debug__" : Str)) = false := by decide)
    (hcd : (x == ("__classdict__" : Str)) = false := by decide)
    (hN2 : X.N[l]? = some y := by rfl) (hv2 : Vis X.env.scope y := by first | exact Or.inl rfl | exact Or.inr (Or.inl rfl) | exact Or.inr (Or.inr rfl)) (hd2 : (y == ("__debug__" : Str)) = false := by decide)
    (hcd2 : (y == ("__classdict__" : Str)) = false := by decide) (hsl : NoSl e := by intro _ _; rfl)
    (hs2 : starEach [.Constant (.int 0) i0 zp] X.env = (false, eval (.Constant (.int 0) i0 zp) X.env) :: starEach [] X.env := by rfl)
    (hbase2 : attributeBase (.Subscript (.Name y np2) e ip) "pop" X.env (eval (.Subscript (.Name y np2) e ip) X.env) = eval (.Subscript (.Name y np2) e ip) X.env := by rfl)
    (hfew2 : ((backTo cpos2 (starEach [.Constant (.int 0) i0 zp] X.env)).all (fun x => !x.1) && (backToKw cpos2 (keywordEach [] X.env)).all (fun x => x.1.isSome) && decide (([.Constant (.int 0) i0 zp] : List Expr).length + ([] : List Keyword).length + (if ([] : List Keyword).isEmpty then 0 else 1) < 30)) = true := by rfl)
    (hline2 : (apos2.endLine == cpos2.line) = true := by rfl) (hplain2 : (backTo cpos2 (starEach [] X.env)).any (·.1) = false := by rfl)
    (hs : starEach [.Call (.Attribute (.Subscript (.Name y np2) e ip) "pop" apos2) [.Constant (.int 0) i0 zp] [] cpos2] X.env = (false, eval (.Call (.Attribute (.Subscript (.Name y np2) e ip) "pop" apos2) [.Constant (.int 0) i0 zp] [] cpos2) X.env) :: starEach [] X.env := by rfl)
    (hbase : attributeBase (.Name x np) "append" X.env (eval (.Name x np) X.env) = eval (.Name x np) X.env := by rfl)
    (hfew : ((backTo cpos (starEach [.Call (.Attribute (.Subscript (.Name y np2) e ip) "pop" apos2) [.Constant (.int 0) i0 zp] [] cpos2] X.env)).all (fun x => !x.1) && (backToKw cpos (keywordEach [] X.env)).all (fun x => x.1.isSome) && decide (([.Call (.Attribute (.Subscript (.Name y np2) e ip) "pop" apos2) [.Constant (.int 0) i0 zp] [] cpos2] : List Expr).length + ([] : List Keyword).length + (if ([] : List Keyword).isEmpty then 0 else 1) < 30)) = true := by rfl)
    (hline : (apos.endLine == cpos.line) = true := by rfl) (hplain : (backTo cpos (starEach [] X.env)).any (·.1) = false := by rfl)
    (hsw : swapsWith (.Call (.Attribute (.Name x np) "append" apos) [.Call (.Attribute (.Subscript (.Name y np2) e ip) "pop" apos2) [.Constant (.int 0) i0 zp] [] cpos2] [] cpos) none pos.line X.env = pure false := by rfl) (eK : X.K = K := by rfl) :
    GC K X W (CG K p l) (CG K p l) (.Expr (.Call (.Attribute (.Name x np) "append" apos) [.Call (.Attribute (.Subscript (.Name y np2) e ip) "pop" apos2) [.Constant (.int 0) i0 zp] [] cpos2] [] cpos) pos)
      (tDrop (tBM K "list" rAppend (tVar o) (tCons (tBM K "list" rPopAt (tOp (rIx K) (tVar l) te) (tCons (tC (.int 0)) tNil)) tNil))) (sPopG o p l fe) := by
  subst eK
  exact ⟨ps_expr (pe_bm PySem.F.plainAttrs_list PySem.F.slot_list_append PySem.F.type_list_append mt_append (pe_var hN hv hd hcd) (pa_cons (pe_bm PySem.F.plainAttrs_list PySem.F.slot_list_pop PySem.F.type_list_pop mt_popAt (pe_ix ix_seq (pe_var hN2 hv2 hd2 hcd2) he.p hsl) (pa_cons pe_int pa_nil hs2) hbase2 hfew2 hline2 hs2 hplain2) pa_nil hs) hbase hfew hline hs hplain) hsw, ss_popG he.s⟩
/-! ### x = [list(..) for .. in ..] -/
def compL (tgt : GF) (fe : EF) (ρ : En) : List D → Option (List (List Int))
  | [] => some []
  | d :: r => (tgt ⟨d, .av⟩ ρ).bind fun ρ1 => (fe ρ1).bind fun x => match x with
    | ⟨.lst es, .fr⟩ => (intsD es).bind fun ns => (compL tgt fe ρ r).map (ns :: ·)
    | _ => none
def sMkL (p l : Nat) (vs : List Nat) (tgt : GF) (fe : EF) : SF := fun ρ => match ρ[p]? with
  | some (.sh (.lst ds)) => if vs.all (notOwn ρ) && decide (ds.length ≤ 100000 ∧ l < ρ.length ∧ p ≠ l) then (compL tgt fe (wipeE vs ρ) ds).map fun lss => .nx (ρ.set l (.sh (llD lss))) else none
  | _ => none
theorem LL.snoc {H : Hp} {a : Addr} {ns : List Int} (h : H a = some (.lst (ns.map V.int))) : ∀ {as : List Addr} {lss : List (List Int)}, LL H as lss → LL H (as ++ [a]) (lss ++ [ns])
  | _, _, .nil => .cons h .nil
  | _, _, .cons k t => .cons k (LL.snoc h t)
theorem LL.some {H : Hp} {a : Addr} : ∀ {as : List Addr} {lss : List (List Int)}, LL H as lss → a ∈ as → ∃ xs, H a = some (.lst xs)
  | _, _, .nil, m => nomatch m
  | _, _, .cons k t, m => by
    rcases List.mem_cons.mp m with z | z
    · rw [z]; exact ⟨_, k⟩
    · exact LL.some t z
theorem se_lcL {Z : Addr → Prop} {H : Hp} {σ : L2.St} {ρ : En} {vs : List Nat} {g : TG} {tgt : GF} {J : It} {ds : List D} {lss : List (List Int)} (hg : SemG K g tgt) (hw : TgW g vs) (he : SemE K te fe) (E : EnvOk K Z H σ ρ) (jok : JOk2 K H (hide (Pz Z σ ρ) H) J ds)
    (hvs : vs.all (notOwn ρ) = true) (hdl : ds.length ≤ 100000) (e : compL tgt fe (wipeE vs ρ) ds = some lss) (wi : TI) (hi : ∀ R : It → Hp → Prop, R J H → wi σ H R) (Q : VK)
    (q : ∀ (Dl : Addr) (as : List Addr) (H2 : Hp), Same K H H2 → H2 Dl = some (.lst (as.map V.ref)) → LL H2 as lss → as.Nodup → Dl ∉ as → H Dl = none → (∀ a ∈ as, H a = none) → Q (.ref Dl) H2) : tLc wi g tYes te vs σ H Q := by
  refine hi _ ?_
  intro Dl hD
  have s0 : Same K H (upd H Dl (.lst [])) := same_upd hD
  refine ⟨fun i m H2 => m = ds.length - i ∧ i ≤ ds.length ∧ Same K H H2 ∧ ∃ (as : List Addr) (outs rest : List (List Int)), H2 Dl = some (.lst (as.map V.ref)) ∧ as.length ≤ i ∧ LL H2 as outs ∧ as.Nodup ∧ Dl ∉ as ∧ (∀ a ∈ as, H a = none) ∧ compL tgt fe (wipeE vs ρ) (ds.drop i) = some rest ∧ lss = outs ++ rest,
    ⟨ds.length, by simp, Nat.zero_le _, s0, [], [], lss, upd_same, Nat.le_refl _, .nil, List.Pairwise.nil, (by simp), (by simp), e, rfl⟩, ?_⟩
  rintro i m H2 ⟨rfl, hi', s2, as, outs, rest, hA, hlen, hL, nd, nD, hnew, hC, hE⟩
  by_cases hlt : i < ds.length
  · rw [List.drop_eq_getElem_cons hlt] at hC
    unfold compL at hC
    obtain ⟨ρ1, e3, hC⟩ := Option.bind_eq_some_iff.mp hC
    obtain ⟨x0, e5, hC⟩ := Option.bind_eq_some_iff.mp hC
    split at hC
    · rename_i es
      obtain ⟨ns, e6, hC⟩ := Option.bind_eq_some_iff.mp hC
      obtain ⟨rest', e7, e8⟩ := Option.map_eq_some_iff.mp hC
      cases intsD_some e6
      refine .inr ⟨jok.go i H2 hlt s2, fun H' => Same K H H' ∧ ∃ (as : List Addr) (outs rest : List (List Int)), H' Dl = some (.lst (as.map V.ref)) ∧ as.length ≤ i + 1 ∧ LL H' as outs ∧ as.Nodup ∧ Dl ∉ as ∧ (∀ a ∈ as, H a = none) ∧ compL tgt fe (wipeE vs ρ) (ds.drop (i + 1)) = some rest ∧ lss = outs ++ rest,
        fun H' ⟨k1, k2⟩ => ⟨ds.length - (i + 1), by omega, rfl, hlt, k1, k2⟩, fun x H3 y => ?_⟩
      obtain ⟨s3, r3⟩ := jok.yld i ds[i] H2 x H3 (List.getElem?_eq_getElem hlt) s2 y
      have E2 : EnvOk K (fun a => Z a ∨ a = Dl) H2 (wipe σ vs) (wipeE vs ρ) := E.block hvs hD s2 ⟨_, hA⟩
      have E3 : EnvOk K (fun a => Z a ∨ a = Dl) H3 (wipe σ vs) (wipeE vs ρ) := E2.mono s3
      have lp : ∀ b, Pz (fun a => Z a ∨ a = Dl) (wipe σ vs) (wipeE vs ρ) b → Pz Z σ ρ b ∨ b = Dl := fun b z => by
        rcases z with (z | z) | ⟨j, d, z1, z2⟩
        · exact .inl (.inl z)
        · exact .inr z
        · rcases wipeE_get z1 with w | ⟨w1, w2⟩
          · cases w
          · rw [wipe_get w1] at z2
            exact .inl (.inr ⟨j, d, w2, z2⟩)
      have sg2 : Sme (hide (Pz Z σ ρ) H) (hide (Pz (fun a => Z a ∨ a = Dl) (wipe σ vs) (wipeE vs ρ)) H2) := hide_via (fun b o q z => (lp b z).elim id fun c => by rw [c, hD] at q; cases q) s2.toSme
      have rx := r3 _ E2.pok sg2
      have S3 : StOk K (fun a => Z a ∨ a = Dl) (fun _ => none) H3 (wipe σ vs) (wipeE vs ρ) := ⟨E3, ⟨fun _ _ z => (by cases z), fun _ _ z => (by cases z)⟩, fun _ _ => rfl⟩
      refine hw x σ H3 _ (hg _ _ _ H3 (wipeE vs ρ) ρ1 x ⟨ds[i], .av⟩ S3 rx e3 _ fun σ2 S4 hwp => ?_)
      refine st_yes (K := K) _ σ2 H3 ρ1 true S4.env rfl _ fun H4 s4 => ?_
      rw [if_pos rfl]
      refine he _ σ2 H4 ρ1 _ (S4.env.mono s4) e5 _ fun v H5 s5 ry => ?_
      obtain ⟨a, rfl, a1, ws, a2, a3⟩ := ry
      have ew : ws = ns.map V.int := a3.ints
      subst ew
      have s34 := s3.trans s4
      have s23 := s2.trans s34
      have s25 := s34.trans s5
      have hA3 := s34 _ _ hA
      have hA5 := s25 _ _ hA
      have naD : a ≠ Dl := fun c => by rw [c, hA3] at a1; cases a1
      have naA : a ∉ as := fun m => by
        obtain ⟨xs, k⟩ := hL.some m
        have := s34 _ _ k
        rw [a1] at this
        cases this
      refine ⟨as.map V.ref, hA5, Nat.lt_of_le_of_lt (by rw [List.length_map]; exact Nat.le_trans hlen (Nat.le_of_lt hlt)) (Nat.lt_of_le_of_lt hdl (by decide)), ?_⟩
      refine ⟨(s2.trans s25).updN hD hA5 trivial, as ++ [a], outs ++ [ns], rest', ?_, by rw [List.length_append, List.length_singleton]; omega, ?_, ?_, ?_, ?_, e7, ?_⟩
      · rw [upd_same, List.map_append]
        rfl
      · refine LL.snoc (by rw [upd_ne naD]; exact a2) (hL.mono fun b hb xs k => ?_)
        rw [upd_ne fun c => nD (by rw [← c]; exact hb)]
        exact s25 _ _ k
      · exact List.nodup_append.mpr ⟨nd, List.pairwise_singleton _ _, fun b hb c hc => by
          rw [List.mem_singleton.mp hc]
          exact fun z => naA (by rw [← z]; exact hb)⟩
      · intro m
        rcases List.mem_append.mp m with z | z
        · exact nD z
        · exact naD (List.mem_singleton.mp z).symm
      · intro b hb
        rcases List.mem_append.mp hb with z | z
        · exact hnew b z
        · rw [List.mem_singleton.mp z]
          exact Sme.none s23.toSme a1
      · rw [hE, ← e8, List.append_assoc]
        rfl
    · cases hC
  · have : i = ds.length := by omega
    subst this
    rw [List.drop_length] at hC
    cases hC
    rw [List.append_nil] at hE
    subst hE
    exact .inl ⟨jok.stop _ H2 (Nat.le_refl _) s2, q Dl as H2 s2 hA hL nd nD hD hnew⟩
theorem ss_mkL {vs : List Nat} {g : TG} {tgt : GF} (hg : SemG K g tgt) (hw : TgW g vs) (he : SemE K te fe) : SemSC K W (CP K p) (CG K p l) (tAsg (tLc (iList K (tVar p)) g tYes te vs) (gName l)) (sMkL p l vs tgt fe) := by
  intro Z B σ H ρ fl S c e Dn w
  obtain ⟨v, d, c1, c2, c3⟩ := c
  unfold sMkL at e
  split at e
  · rename_i ds e0
    split at e
    · rename_i hc
      rw [Bool.and_eq_true, decide_eq_true_eq] at hc
      obtain ⟨hvs, hdl, hll, npl⟩ := hc
      obtain ⟨lss, e1, e⟩ := Option.map_eq_some_iff.mp e
      subst e
      have E := S.env
      obtain ⟨v', k1, k2⟩ := E.sh p _ e0
      rw [c1] at k1
      cases k1
      rw [e0] at c2
      cases c2
      cases k2 with
      | lst h1 h2 =>
        rename_i a xs
        have hHa := (hide_some.mp h1).2
        refine se_lcL (J := Itl K a) hg hw he E (jok_list hHa h2) hvs hdl e1 (iList K (tVar p)) (fun R hR => ⟨.ref a, c1, a, rfl, ⟨_, SqL.of hHa⟩, hR⟩) _ fun Dl as H2 s2 q1 q2 q3 q4 q5 q6 => ?_
        have S2 := S.mono s2
        have none_pz : ∀ b, H b = none → ¬ Pz Z σ ρ b := fun b q z => by
          obtain ⟨o, k, _⟩ := E.pok b z
          rw [q] at k
          cases k
        have nw : ∀ b, (b = Dl ∨ b ∈ as) → H b = none := fun b m => m.elim (fun z => z ▸ q5) (q6 b)
        have r2 : Rp K (hide (Pz Z σ ρ) H2) (.ref Dl) (llD lss) := .lst (hide_some.mpr ⟨none_pz _ q5, q1⟩) (q2.rp fun b hb => none_pz b (q6 b hb))
        have S3 := S2.setSh r2 hll
        have hl : l < σ.length := by rw [E.len]; exact hll
        refine w _ H2 S3 ⟨⟨_, .lst ds, by rw [set_get_ne npl]; exact c1, by rw [set_get_ne npl]; exact e0, c3⟩, Dl, as, lss, List.getElem?_set_self hl, List.getElem?_set_self hll, q1, q2, q3, q4, fun b m => ⟨?_, fun z => none_pz b (nw b m) (z.imp id ow_setSh)⟩⟩
        exact Sme.none S.base (nw b m)
    · cases e
  · cases e
theorem gc_mkL (p l : Nat) {x y : Str} {elt tg : Expr} {scope : Scope} {g : TG} {tgt : GF} {pos spos py np : Pos} (own : List (Str × Nat)) (hc : X.calm = true) (hN : X.N.Nodup) (hsw : swapsWith (.ListComp elt [⟨tg, .Name x np, [], 0⟩] scope pos) (some (.Name y py)) spos.line X.env = pure true) (N : List Str) (sc : Scope) (ok : blkC N sc scope own = true)
    (hg : ∀ s H C cl fp, GGb K (XB X scope s H C cl fp) tg g tgt (own.map (·.2))) (he : ∀ s H C cl fp, GE K (XB X scope s H C cl fp) elt te fe)
    (hx : X.N[p]? = some x := by rfl) (hvx : Vis X.env.scope x := by first | exact Or.inl rfl | exact Or.inr (Or.inl rfl) | exact Or.inr (Or.inr rfl)) (hdx : (x == ("__debug__" : Str)) = false := by decide) (hcx : (x == ("__classdict__" : Str)) = false := by decide)
    (hy : X.N[l]? = some y := by rfl) (hyl : X.env.scope.names.lookup y = some .local := by rfl) (hs : ∀ z, foldedSetIterable (.Name x np) X.env z = pure z := by intro _; rfl) (eN : X.N = N := by rfl) (eS : X.env.scope = sc := by rfl) (eK : X.K = K := by rfl) :
    GC K X W (CP K p) (CG K p l) (.Assign [.Name y py] (.ListComp elt [⟨tg, .Name x np, [], 0⟩] scope pos) spos) (tAsg (tLc (iList K (tVar p)) g tYes te (own.map (·.2))) (gName l)) (sMkL p l (own.map (·.2)) tgt fe) := by
  have sh : Shared := (PySem.start X.prog).1
  subst eN eS eK
  refine ⟨ps_setLc hc hN hy hyl hsw (pi_list (pe_var hx hvx hdx hcx)) (blkOk_by ok) (fun s H C cl fp => (hg s H C cl fp).gg.p) (fun s H C cl fp => pts_nil) (fun s H C cl fp => (he s H C cl fp).p) hs, ?_⟩
  have h1 := hg sh (fun _ => none) 0 [] []
  exact ss_mkL h1.gg.s h1.w (he sh (fun _ => none) 0 [] []).s
end
/-! ### the def -/
section
variable {K : PySem.W.Frag} {mg : Str → Option Value} {P : Program} {w : World} {base : Heap}
theorem want_c {Z : Addr → Prop} {H : Hp} {Q : VK} {E : XK} {body : SF} {m : Nat} {ds : List D} {o : Out} (e : fnF m body ds = some o) (q : OutOk K mg Z H Q E o) :
    ∃ fl, body (ds.map .sh ++ List.replicate m .emp) = some fl ∧ WantC K (WN mg E) yesC Z H { nx := fun _ H' => Q .non H', rt := Q } fl := by
  unfold fnF at e
  split at e
  · rename_i d fr h
    cases e
    exact ⟨_, h, fun v H' r => q v H' r⟩
  · rename_i ρ h
    cases e
    exact ⟨_, h, fun σ H' S _ => q .non H' ⟨S.base, S.env.tab, .non⟩⟩
  · rename_i n h
    cases e
    exact ⟨_, h, fun H' s t C hC => q C hC H' s t⟩
  · rename_i d h
    cases e
    exact ⟨_, h, fun v H' r => q v H' r⟩
  · cases e
theorem fn_okXC {x qual : Str} {st : Stmt} {f : Addr} {fd : FuncData} {N ps : List Str} {k m : Nat} {body : SF} (p : Nat) (hp : p < ps.length) (F : Fun K x qual st f fd) (S : FnScope N ps (defScope st)) (hm : N.length = ps.length + m)
    (hb : ∀ (cdv : Value) (A : Around) (outer : List Env) (s : Shared) (H : Hp) (E : XK), Room k (A.deeper (PyProof.Rows.envOfC qual (defScope st) s.heap.objs.size f cdv)) → ∃ t, GCs K (cxOf (L2.CX P w) P w K mg base N qual (defScope st) f cdv A outer s H E) (WN mg E) (CP K p) yesC (defBody st) t body) :
    FnOk P w K mg base (L2.CX P w) (k + 1) f fd ps (spDg γ K mg ps.length (fnF m body)) := by
  refine F.okX S (fun vs H Q E h => h.1) (fun cdv A outer s H vs Q E hr h => ?_)
  obtain ⟨hl, hT, Z, ds, o, hZ, hv, ho, q⟩ := h
  obtain ⟨t, g⟩ := hb cdv A outer s H E hr
  obtain ⟨fl, e1, w1⟩ := want_c ho q
  have st := start_ok (K := K) (N := N) (m := m) (by rw [hl]; exact hm) hZ hT hv
  have hd : p < ds.length := by rw [← hv.length, hl]; exact hp
  obtain ⟨v, v1, v2⟩ := hv.get (List.getElem?_eq_getElem hd)
  have c : CP K p Z H (L2.start N vs) H (ds.map .sh ++ List.replicate m .emp) := by
    refine ⟨v, ds[p], ?_, ?_, v2⟩
    · unfold L2.start
      rw [List.getElem?_append_left (by rw [List.length_map]; exact (List.getElem?_eq_some_iff.mp v1).1), List.getElem?_map, v1]
      rfl
    · rw [List.getElem?_append_left (by rw [List.length_map]; exact hd), List.getElem?_map, List.getElem?_eq_getElem hd]
      rfl
  exact ⟨t, g.p, g.s Z H _ H _ fl st c e1 _ w1⟩
end
end Fb
set_option maxHeartbeats 2000000
/-! FbX: len(set(xs)), xs a list of tuples of ints; x.clear(), x no own list (the law's own statement). -/
namespace Fb
open PySem PySem.Spec PyProof.Rows L2
variable [γ : GSt]
def ddp : List (List Int) → List (List Int)
  | [] => []
  | x :: r => if x ∈ ddp r then ddp r else x :: ddp r
theorem ddp_mem {x : List Int} : ∀ {l : List (List Int)}, x ∈ ddp l ↔ x ∈ l
  | [] => Iff.rfl
  | y :: r => by
    have ih := ddp_mem (x := x) (l := r)
    unfold ddp
    split
    · rename_i h
      rw [ih, List.mem_cons]
      constructor
      · exact .inr
      · rintro (z | z)
        · rw [z]; exact ddp_mem.mp h
        · exact z
    · rw [List.mem_cons, List.mem_cons, ih]
theorem ddp_nd : ∀ l : List (List Int), (ddp l).Nodup
  | [] => .nil
  | y :: r => by
    unfold ddp
    split
    · exact ddp_nd r
    · rename_i h
      exact List.nodup_cons.mpr ⟨h, ddp_nd r⟩
def tupsD : List D → Option (List (List Int))
  | [] => some []
  | .tup es :: r => (intsD es).bind fun ns => (tupsD r).map (ns :: ·)
  | _ => none
theorem tupsD_map : ∀ l : List (List Int), tupsD (l.map fun ns => .tup (ns.map .int)) = some l
  | [] => rfl
  | ns :: r => by
    show (intsD (ns.map D.int)).bind _ = _
    rw [intsD_map, Option.bind_some, tupsD_map r]
    rfl
theorem tupsD_some : ∀ {ds : List D} {l : List (List Int)}, tupsD ds = some l → ds = l.map fun ns => .tup (ns.map .int)
  | [], l, h => by cases h; rfl
  | .tup es :: r, l, h => by
    obtain ⟨ns, h1, h2⟩ := Option.bind_eq_some_iff.mp (show (intsD es).bind _ = some l from h)
    obtain ⟨l', h3, rfl⟩ := Option.map_eq_some_iff.mp h2
    rw [List.map_cons, ← tupsD_some h3, ← intsD_some h1]
  | .int _ :: _, l, h => by simp [tupsD] at h
  | .bl _ :: _, l, h => by simp [tupsD] at h
  | .non :: _, l, h => by simp [tupsD] at h
  | .str _ :: _, l, h => by simp [tupsD] at h
  | .lst _ :: _, l, h => by simp [tupsD] at h
  | .dT _ :: _, l, h => by simp [tupsD] at h
  | .dK _ :: _, l, h => by simp [tupsD] at h
  | .obj _ :: _, l, h => by simp [tupsD] at h
  | .exc _ :: _, l, h => by simp [tupsD] at h
  | .ro _ :: _, l, h => by simp [tupsD] at h
  | .rf _ :: _, l, h => by simp [tupsD] at h
  | .bx _ _ _ :: _, l, h => by simp [tupsD] at h
def tLenSetT (K : PySem.W.Frag) (ta : TE) : TE := fun σ H Q => ta σ H fun x H1 => ∃ (l : Addr) (ks : List (Addr × List Int)), x = V.ref l ∧ SqL K H1 l (ks.map fun p => V.ref p.1) ∧ (∀ p ∈ ks, SqT K H1 p.1 (p.2.map V.int)) ∧ ks.length < 64 ∧ Q (.int ((ddp (ks.map (·.2))).length : Nat)) H1
section
variable {X : Cx} {a : Expr} {ta : TE} {fa : EF} {p p2 q pos : Pos} {K : PySem.W.Frag}
theorem pe_lenSetT (hc : X.calm = true) (hu : X.A.units + 64 < cLine) (hg : Gl X "len") (hm : X.mg "len" = none) (hg2 : Gl X "set") (hm2 : X.mg "set" = none) (ha : PE X a ta)
    (na : starEach [a] X.env = (false, eval a X.env) :: starEach [] X.env := by rfl) : PE X (.Call (.Name "len" p) [.Call (.Name "set" p2) [a] [] q] [] pos) (tLenSetT X.K ta) := by
  refine ⟨fun pins s σ H Q I h => ?_⟩
  refine Call_ (ld_blt I hg hm PySem.boot_len ?_)
  refine PyProof.Rows.callWith_builtin1 (PyProof.Rows.args_cons ?_ rfl) rfl rfl
  refine Call_ (ld_blt I hg2 hm2 PyProof.Rows.boot_set ?_)
  refine PyProof.Rows.callWith_type1 (PyProof.Rows.args_cons (thn (ha.run pins s σ H _ I h) fun v s1 ⟨x, H1, I1, r1, q1⟩ => PyProof.Rows.args_nil ?_) na) na rfl
  obtain ⟨l, ks, rfl, hq, hk, h1, q1⟩ := q1
  cases r1
  obtain ⟨its, r, pl, hz⟩ := I1.list hq
  refine call_set_tups (P := X.prog) (w := X.w) ks (I1.ok.hd hc) pl.isList (by simpa using refs_of_vals r) (fun p hp => I1.isT (hk p hp)) h1 (by omega) fun h' tk L es ep t R g k => ?_
  refine PyProof.Rows.args_nil ?_
  obtain ⟨o, ho, hex, hd⟩ := R.ob
  have I2 : Inv X pins σ H1 { s1 with heap := h', toks := tk } := I1.kept k
  have sz : es.size = L.length := SetTR.size (s := { s1 with heap := h', toks := tk }) R
  have ft : t.fits es.size = true := SetTR.fits (s := { s1 with heap := h', toks := tk }) R
  have ln : L.length = (ddp (ks.map (·.2))).length := by
    have hp : (L.map (·.2)).Perm (ddp (ks.map (·.2))) := (List.perm_ext_iff_of_nodup R.nd (ddp_nd _)).mpr fun y => by
      rw [ddp_mem]
      constructor
      · intro hy
        obtain ⟨e, he, rfl⟩ := List.mem_map.mp hy
        exact List.mem_map.mpr ⟨e, List.mem_of_mem_take (g.sub e he), rfl⟩
      · intro hy
        obtain ⟨e, he, rfl⟩ := List.mem_map.mp hy
        exact g.all e (by rw [List.take_length]; exact he)
    rw [← hp.length_eq, List.length_map]
  have gl := g.len
  refine call_len_set ho hex hd ft (by omega) ⟨.int ((ddp (ks.map (·.2))).length : Nat), H1, I2.tok _, ⟨_, by rw [sz, ln]⟩, q1⟩
/-- len(set(xs)), of a list of tuples of ints -/
def eLenSetT (fa : EF) : EF := fun ρ => (fa ρ).bind fun r => match r.d with
  | .lst ds => (tupsD ds).bind fun l => if l.length < 64 then some ⟨.int ((ddp l).length : Nat), .av⟩ else none
  | _ => none
theorem tups_of {H : Hp} : ∀ {l : List (List Int)} {vs : List V}, RpL K H vs (l.map fun ns => .tup (ns.map .int)) → ∃ ks : List (Addr × List Int), vs = ks.map (fun p => V.ref p.1) ∧ ks.map (·.2) = l ∧ ∀ p ∈ ks, SqT K H p.1 (p.2.map V.int)
  | [], _, h => by
    cases h
    exact ⟨[], rfl, rfl, fun p hp => by cases hp⟩
  | ns :: r, _, h => by
    cases h with
    | cons h1 h2 =>
      cases h1 with
      | tup s1 r1 =>
        rename_i b xs
        obtain ⟨ks, e1, e2, e3⟩ := tups_of h2
        have ex : xs = ns.map V.int := r1.ints
        subst ex
        refine ⟨(b, ns) :: ks, by rw [e1]; rfl, by rw [List.map_cons, e2], fun p hp => ?_⟩
        rcases List.mem_cons.mp hp with z | z
        · rw [z]; exact .of s1
        · exact e3 p z
theorem se_lenSetT (h : SemE K ta fa) : SemE K (tLenSetT K ta) (eLenSetT fa) := by
  intro Z σ H ρ r E e Q q
  obtain ⟨ra, e1, e⟩ := Option.bind_eq_some_iff.mp e
  split at e
  · rename_i ds ed
    obtain ⟨l, e2, e⟩ := Option.bind_eq_some_iff.mp e
    split at e
    · rename_i hl
      cases e
      have hds := tupsD_some e2
      subst hds
      refine h Z σ H ρ ra E e1 _ fun v H1 s1 rv => ?_
      obtain ⟨rd, rm⟩ := ra
      cases ed
      have rp : Rp K H1 v (.lst (l.map fun ns => .tup (ns.map .int))) := (rv.opd E.pok).rp
      cases rp with
      | lst h1 h2 =>
        obtain ⟨ks, k1, k2, k3⟩ := tups_of h2
        subst k1
        refine ⟨_, ks, rfl, SqL.of h1, k3, by rw [← k2, List.length_map] at hl; exact hl, ?_⟩
        rw [k2]
        exact q _ _ s1 (.int _)
    · cases e
  · cases e
theorem ge_lensetT (hm : X.mg "len" = none) (hm2 : X.mg "set" = none) (hc : X.calm = true) (hu : X.A.units + 64 < cLine) (ha : GE K X a ta fa) (hg : Gl X "len" := by rfl) (hg2 : Gl X "set" := by rfl)
    (na : starEach [a] X.env = (false, eval a X.env) :: starEach [] X.env := by rfl) (eK : X.K = K := by rfl) : GE K X (.Call (.Name "len" p) [.Call (.Name "set" p2) [a] [] q] [] pos) (tLenSetT K ta) (eLenSetT fa) := by
  subst eK
  exact ⟨pe_lenSetT hc hu hg hm hg2 hm2 ha.p na, se_lenSetT ha.s⟩
end
@[simp] theorem ev_lenSetT {fa : EF} {ρ : En} : eLenSetT fa ρ = ((fa ρ).bind fun r => match r.d with
  | .lst ds => (tupsD ds).bind fun l => if l.length < 64 then some ⟨.int ((ddp l).length : Nat), .av⟩ else none
  | _ => none) := (rfl)
/-! ### x.clear(), x no own list -/
def sClrV (i : Nat) : SF := fun ρ => match ρ[i]? with
  | some (.sh (.lst _)) => some (.nx (ρ.map keepSl))
  | _ => none
section
variable {K : PySem.W.Frag} {W : Str → Hp → Prop} {X : Cx}
theorem ss_clrV {i : Nat} : SemS0 K W (tDrop (tBM0 K "list" rClear (tVar i))) (sClrV i) := by
  intro σ H ρ fl S e Dn w
  unfold sClrV at e
  split at e
  · rename_i es e1
    cases e
    have E := S.env
    obtain ⟨v, v1, v2⟩ := E.sh i _ e1
    cases v2 with
    | lst s2 r2 =>
      rename_i a vs
      obtain ⟨ha, ha'⟩ := hide_some.mp s2
      refine ⟨_, v1, ?_⟩
      refine ⟨.inl ⟨rfl, _, SqL.of ha'⟩, a, vs, rfl, rfl, ha', ?_⟩
      have ow : ∀ b, Ow σ (ρ.map keepSl) b → Ow σ ρ b := fun b ⟨j, d, h1, h2⟩ => by
        rcases keep_get h1 with z | ⟨z1, z2⟩
        · cases z
        · exact ⟨j, d, z1, h2⟩
      have pz : ∀ b, Pz (fun _ => False) σ (ρ.map keepSl) b → Pz (fun _ => False) σ ρ b := fun b z => z.imp id (ow b)
      have st : STup (hide (Pz (fun _ => False) σ ρ) H) (hide (Pz (fun _ => False) σ (ρ.map keepSl)) (upd H a (.lst []))) := by
        refine ⟨fun b xs' z => ?_, fun b C dx z => ?_, fun b oe φ z => ?_⟩ <;>
        · obtain ⟨z1, z2⟩ := hide_some.mp z
          refine hide_some.mpr ⟨fun c => z1 (pz b c), ?_⟩
          rw [upd_ne fun c => by rw [c, ha'] at z2; cases z2]
          exact z2
      refine w σ _ ⟨⟨by rw [List.length_map]; exact E.len, fun j d h => ?_, fun j d h => ?_, fun j l d d' b h1 h2 => ?_, E.zok.upd id, fun b z => id, E.tab.upd ha' trivial⟩, ⟨fun b o z => (by cases z), fun b o z => (by cases z)⟩, fun b _ => rfl⟩
      · rcases keep_get h with z | ⟨z1, z2⟩
        · cases z
        · obtain ⟨x, k1, k2⟩ := E.sh j d z1
          exact ⟨x, k1, Rp.immK st _ _ z2 k2⟩
      · rcases keep_get h with z | ⟨z1, z2⟩
        · cases z
        · obtain ⟨b, k1, k2⟩ := E.own j d z1
          refine ⟨b, k1, ?_⟩
          cases d with
          | lst ds' =>
            obtain ⟨ws, g1, g2⟩ := k2
            have nb : b ≠ a := fun c => ha (.inr ⟨j, _, z1, by rw [← c]; exact k1⟩)
            exact ⟨ws, by rw [upd_ne nb]; exact g1, RpL.immK st _ _ z2 g2⟩
          | _ => cases z2
      · rcases keep_get h1 with z | ⟨z1, z2⟩
        · cases z
        · rcases keep_get h2 with z | ⟨z3, z4⟩
          · cases z
          · exact E.inj j l d d' b z1 z3
  · cases e
theorem gs_clrV (i : Nat) {x : Str} {np apos cpos pos : Pos} (hN : X.N[i]? = some x := by rfl) (hv : Vis X.env.scope x := by first | exact Or.inl rfl | exact Or.inr (Or.inl rfl) | exact Or.inr (Or.inr rfl)) (hd : (x == ("__debug__" : Str)) = false := by decide)
    (hcd : (x == ("__classdict__" : Str)) = false := by decide) (hbase : attributeBase (.Name x np) "clear" X.env (eval (.Name x np) X.env) = eval (.Name x np) X.env := by rfl)
    (hline : (apos.endLine == cpos.line) = true := by rfl) (hsw : swapsWith (.Call (.Attribute (.Name x np) "clear" apos) [] [] cpos) none pos.line X.env = pure false := by rfl) (eK : X.K = K := by rfl) :
    GS0 K X W (.Expr (.Call (.Attribute (.Name x np) "clear" apos) [] [] cpos) pos) (tDrop (tBM0 K "list" rClear (tVar i))) (sClrV i) := by
  subst eK
  exact ⟨ps_expr (pe_bm0 PySem.F.plainAttrs_list PySem.F.slot_list_clear PySem.F.type_list_clear mt_clear (pe_var hN hv hd hcd) hbase hline) hsw, ss_clrV⟩
end
@[simp] theorem ev_clrV {i : Nat} {ρ : En} : sClrV i ρ = match ρ[i]? with
  | some (.sh (.lst _)) => some (.nx (ρ.map keepSl))
  | _ => none := (rfl)
end Fb
set_option maxHeartbeats 2000000
/-! FbY: sorted(xs), xs a tuple of ints. -/
namespace Fb
open PySem PySem.Spec PyProof.Rows L2
variable [γ : GSt]
section
variable {prog : Program} {w : World} {A : Around} {E : Value → Shared → Prop} {s : Shared}
theorem collect_tup {l : Addr} {vs : List Value} {Q : List Value → Shared → Prop} (hl : s.heap.IsTuple l vs.toArray)
    (h : Q vs { s with heap := (s.heap.push (seqObj "list" #[] 0)).update s.heap.objs.size (Obj.mapSeq (· ++ vs.toArray)) }) (hsz : vs.length ≤ sizeLine) :
    wpAny (model prog w) A (collect (.ref l)) Q E s := by
  obtain ⟨o, ho, hc, n, hd⟩ := id hl
  have hlt := Heap.lt_size ho
  unfold collect
  refine wpAny_bind (wpAny_runValue (codeAny_builtin entry_proto_collect' ?_))
  show wpAny _ _ (do again (.builtin "list.__iadd__" ⟨[← newList [], .ref l], []⟩)) _ _ s
  refine wpAny_bind (wpAny_newList (wpAny_pure ⟨Code.quiet_builtin _ (by decide +kernel), codeAny_builtin entry_list_iadd' ?_⟩))
  show wpAny _ _ (Builtin.List.listExtendWith (.ref s.heap.objs.size) (.ref l) (.ref s.heap.objs.size)) _ _ { s with heap := s.heap.push (seqObj "list" #[] 0) }
  unfold Builtin.List.listExtendWith
  have ho' : (s.heap.push (seqObj "list" #[] 0)).get? l = some o := Heap.get?_push_of_some _ ho
  refine wpAny_bind (wpAny_typeOf (T := "tuple") ⟨o, ho', hc⟩ ?_)
  have ht : (Value.type "tuple" == Value.type "tuple") = true := by rfl
  rw [if_pos (by rw [ht]; simp)]
  refine wpAny_bind (listItems_at ho' hd ?_)
  refine wpAny_bind (listItems_at (xs := #[]) (n := 0) (Heap.get?_push_size _ rfl) rfl ?_)
  rw [if_neg (by simp)]
  refine wpAny_bind (listUpdate_at (xs := #[]) (n := 0) (Heap.get?_push_size _ rfl) rfl ?_ (Nat.zero_le _) (by show (#[] ++ vs.toArray).size ≤ sizeLine + 1; simp only [Array.size_append, List.size_toArray, List.length_nil]; omega))
  refine wpAny_pure ?_
  show wpAny (model prog w) A (do
      let o ← load s.heap.objs.size
      match o.data with
      | .seq xs _ => pure xs.toList
      | _ => unsupported "internal:collect") Q E { s with heap := (s.heap.push (seqObj "list" #[] 0)).update s.heap.objs.size (Obj.mapSeq (· ++ vs.toArray)) }
  refine wpAny_bind (wpAny_load (get?_update_seq (Heap.get?_push_size _ rfl) _) ?_)
  show wpAny _ _ (pure ((#[] : Array Value) ++ vs.toArray).toList) Q E _
  rw [show ((#[] : Array Value) ++ vs.toArray).toList = vs by simp]
  exact wpAny_pure h
theorem sorted_tup {l : Addr} {vs : List Value} {ns : List Int} {Q : Value → Shared → Prop} (hl : s.heap.IsTuple l vs.toArray) (hI : IntsAre vs ns) (h64 : vs.length < 64)
    (h : ∀ (out : Array Value) (ns' : List Int), IntsAre out.toList ns' → ns'.Perm ns → ns'.Pairwise (· ≤ ·) → Q (.ref (s.heap.objs.size + 1)) { s with heap := sortedAll s.heap vs out }) :
    wpAny (model prog w) A (call (.builtin "sorted") [.ref l]) Q E s := by
  refine Calls.call_function_entry kind_sorted plain_sorted entry_sorted (args_sorted1 _) ?_
  unfold Builtin.«sorted»
  refine wpAny_bind (m := checkCount "sorted" 1 1 _) (wpAny_pure ?_)
  refine wpAny_bind (collect_tup hl ?_ (by rw [sizeLine_eq]; omega))
  refine wpAny_bind (wpAny_newList ?_)
  have hsz : ((s.heap.push (seqObj "list" #[] 0)).update s.heap.objs.size (Obj.mapSeq (· ++ vs.toArray))).objs.size = s.heap.objs.size + 1 := by
    rw [Heap.size_update, size_push']
  have hoL : (((s.heap.push (seqObj "list" #[] 0)).update s.heap.objs.size (Obj.mapSeq (· ++ vs.toArray))).push (seqObj "list" vs.toArray 0)).get? (s.heap.objs.size + 1) = some (seqObj "list" vs.toArray 0) := by
    rw [← hsz]; exact Heap.get?_push_size _ rfl
  show wpAny _ _ _ _ _ { s with heap := ((s.heap.push (seqObj "list" #[] 0)).update s.heap.objs.size (Obj.mapSeq (· ++ vs.toArray))).push (seqObj "list" vs.toArray 0) }
  rw [hsz]
  refine wpAny_bind (wpAny_holding (wpAny_call_entry slot_list_sort ⟨_, hoL, rfl⟩ entry_list_sort (list_sort_tree hoL hI h64 fun out ns' a1 a2 a3 => ⟨_, rfl, ?_⟩) (args_list_sort _)))
  exact wpAny_pure ⟨_, rfl, h out ns' a1 a2 a3⟩
end
def upI (ns : List Int) : List Int := ns.mergeSort fun x y => decide (x ≤ y)
theorem up_one : ∀ {a b : List Int}, a.Perm b → a.Pairwise (· ≤ ·) → b.Pairwise (· ≤ ·) → a = b
  | [], b, h, _, _ => List.Perm.nil_eq h
  | x :: r, [], h, _, _ => absurd h.length_eq (by simp)
  | x :: r, y :: t, h, ha, hb => by
    have hx : x ∈ y :: t := h.subset List.mem_cons_self
    have hy : y ∈ x :: r := h.symm.subset List.mem_cons_self
    have e : x = y := by
      rcases List.mem_cons.mp hy with z | z
      · exact z.symm
      · rcases List.mem_cons.mp hx with w | w
        · exact w
        · have := (List.pairwise_cons.mp ha).1 y z
          have := (List.pairwise_cons.mp hb).1 x w
          omega
    subst e
    rw [up_one h.cons_inv (List.pairwise_cons.mp ha).2 (List.pairwise_cons.mp hb).2]
theorem up_pw (ns : List Int) : (upI ns).Pairwise (· ≤ ·) := by
  have h := List.pairwise_mergeSort (le := fun x y : Int => decide (x ≤ y)) (by intro x y z h1 h2; rw [decide_eq_true_eq] at *; omega) (by intro x y; rw [Bool.or_eq_true, decide_eq_true_eq, decide_eq_true_eq]; omega) ns
  exact h.imp fun z => by simpa using z
theorem up_of {a b : List Int} (h : a.Perm b) (ha : a.Pairwise (· ≤ ·)) : a = upI b := up_one (h.trans (List.mergeSort_perm b _).symm) ha (up_pw b)
theorem up_mem {ns : List Int} {x : Int} : x ∈ upI ns ↔ x ∈ ns := List.mem_mergeSort
theorem up_len (ns : List Int) : (upI ns).length = ns.length := List.length_mergeSort _
def rSortTI (K : PySem.W.Frag) : List V → Hp → VK → Prop := fun vs H Q => ∃ (a : Addr) (ns : List Int), vs = [V.ref a] ∧ SqT K H a (ns.map V.int) ∧ ns.length < 64 ∧
  ∀ p : Addr, H p = none → Q (.ref p) (upd H p (.lst ((upI ns).map V.int)))
section
variable {X : Cx}
theorem cr_sortTI : CallR X (.builtin "sorted") (rSortTI X.K) := by
  intro pins s σ H vs us Q I r h
  obtain ⟨a, ns, rfl, hs, h64, q⟩ := h
  obtain ⟨its, rv, hl, _⟩ := I.tuple hs
  rw [Vals.ref1 r]
  have hi : IntsAre its ns := ints_vals rv
  refine sorted_tup hl hi (by rw [hi.length]; exact h64) fun out ns' h1 h2 h3 => ?_
  have e := up_of h2 h3
  subst e
  obtain ⟨ep, he'⟩ := PyProof.Rows.sortedAll_at s.heap its out
  have hlen : ((upI ns).map V.int).length ≤ sizeLine := by rw [List.length_map, up_len]; exact small64 h64
  exact ⟨.ref _, upd H (s.heap.objs.size + 1) (.lst ((upI ns).map V.int)), I.laid (t' := s.toks) (fun _ _ => PyProof.Rows.sortedAll_old) (Nat.le_succ _) ⟨hlen, out.toList, ep, vals_of_ints h1, he'⟩, rfl, q _ (I.hok.fresh (Nat.le_succ _))⟩
end
section
variable {K : PySem.W.Frag}
/-- sorted(xs), xs a tuple of ints -/
def cSortTI : CF := fun as => match as with
  | [⟨.tup ds, _⟩] => (intsD ds).bind fun ns => if ns.length < 64 then some ⟨.lst ((upI ns).map .int), .fr⟩ else none
  | _ => none
theorem sc_sortTI : SemC K (rSortTI K) cSortTI := by
  intro P H xs as c hP hA h Q q
  unfold cSortTI at h
  split at h
  · obtain ⟨ns, e, h⟩ := Option.bind_eq_some_iff.mp h
    split at h
    · rename_i hl
      cases h
      cases intsD_some e
      obtain ⟨x, rfl, ha⟩ := hA.one
      obtain ⟨a, vs, rfl, h1, h2, _⟩ := Opd.tupR hP ha
      have e3 := h2.ints
      subst e3
      refine ⟨a, ns, rfl, h1, hl, fun p hp => ?_⟩
      exact q _ _ (same_upd hp) (Res.newL (b := true) (Sme.refl H) hp (RpL.ofInts _) fun _ => RpL.ofInts _)
    · cases h
  · cases h
end
@[simp] theorem ev_sortTI {ds : List D} {m : Md} : cSortTI [⟨.tup ds, m⟩] = (intsD ds).bind fun ns => if ns.length < 64 then some ⟨.lst ((upI ns).map .int), .fr⟩ else none := (rfl)
/-- return (x, e), x a list of one's own or data that never change -/
def sRetPr2 (i : Nat) (fe : EF) : SF := fun ρ => match ρ[i]? with
  | some (.own _) => sRetPr i fe ρ
  | _ => sRet (eTup (aCons (eVar i) (aCons fe aNil))) ρ
theorem gs_retPr2 {K : PySem.W.Frag} {X : Cx} {W : Str → Hp → Prop} {e : Expr} {te : TE} {fe : EF} {pos pos' : Pos} (i : Nat) {x : Str} {kt : Nat} {np : Pos} (he : GE K X e te fe) (hN : X.N[i]? = some x := by rfl) (hv : Vis X.env.scope x := by first | exact Or.inl rfl | exact Or.inr (Or.inl rfl) | exact Or.inr (Or.inr rfl)) (hd : (x == ("__debug__" : Str)) = false := by decide)
    (hcd : (x == ("__classdict__" : Str)) = false := by decide) (h1 : starEach [.Name x np, e] X.env = (false, eval (.Name x np) X.env) :: starEach [e] X.env := by rfl) (h2 : starEach [e] X.env = (false, eval e X.env) :: starEach [] X.env := by rfl) :
    GS K X W (.Return (some (.Tuple [.Name x np, e] kt pos')) pos) (tRet (tTup (tCons (tVar i) (tCons te tNil)))) (sRetPr2 i fe) := by
  refine ⟨(gs_retPr (W := W) i he hN hv hd hcd h1 h2).p, fun Z B σ H ρ fl S e Dn w => ?_⟩
  unfold sRetPr2 at e
  split at e
  · exact ss_retPr he.s Z B σ H ρ fl S e Dn w
  · exact ss_ret (se_tup (sa_cons (se_var i) (sa_cons he.s sa_nil))) Z B σ H ρ fl S e Dn w
@[simp] theorem ev_retPr2 {i : Nat} {fe : EF} {ρ : En} : sRetPr2 i fe ρ = match ρ[i]? with
  | some (.own _) => sRetPr i fe ρ
  | _ => sRet (eTup (aCons (eVar i) (aCons fe aNil))) ρ := (rfl)
end Fb
set_option maxHeartbeats 2000000
/-! FcA: statements that change the dicts that stand for themselves. -/
namespace Fb
open PySem PySem.Spec PyProof.Rows L2
/-- where they lie -/
def gd (g : GSt) : Addr → Prop := fun a => ∃ kvs, g.st a = some kvs
def zs (g : GSt) (Z : Addr → Prop) : Addr → Prop := fun a => Z a ∨ gd g a
def bf (g : GSt) (B : Hp) : Prop := ∀ a, gd g a → B a = none
def gmo (g g' : GSt) : Prop := ∀ a, gd g a → gd g' a
theorem gmo.refl (g : GSt) : gmo g g := fun _ h => h
theorem gmo.trans {g g1 g2 : GSt} (h : gmo g g1) (h' : gmo g1 g2) : gmo g g2 := fun a q => h' a (h a q)
section
variable {K : PySem.W.Frag} {g g' g1 g2 : GSt} {Z : Addr → Prop} {B B' H H' : Hp} {σ : L2.St} {ρ ρ' : En} {v : V} {d : D}
theorem GIn.less {P P' : Addr → Prop} (h : @GIn g P H) (hp : ∀ a, gd g a → P' a) : @GIn g P' H := fun b kvs q => ⟨hp b ⟨kvs, q⟩, (h b kvs q).2⟩
theorem gin_of (S : @StOk g K (zs g Z) B H σ ρ) : @GIn g (gd g) H := by
  letI := g
  exact GIn.less S.env.zok.gh fun _ h => h
/-- the dicts have changed, and there may be more of them; all else is kept -/
theorem moved (S : @StOk g K (zs g Z) B H σ ρ) (fb : bf g B) (e : Sme (hide (gd g) H) H') (t : TabsK K H') (gi : @GIn g' (gd g') H') (fb' : bf g' (hide (gd g) H)) (mo : gmo g g') : @StOk g' K (zs g' Z) B H' σ ρ ∧ bf g' B := by
  letI := g
  have E := S.env
  have nn : ∀ b o, H b = some o → gd g' b → gd g b := fun b o h q => by
    by_cases c : gd g b
    · exact c
    · have h1 : hide (gd g) H b = some o := hide_some.mpr ⟨c, h⟩
      rw [fb' b q] at h1
      cases h1
  have keep : ∀ b o, ¬ gd g b → H b = some o → NT o → H' b = some o := fun b o n h nt => e.get b o (hide_some.mpr ⟨n, h⟩) nt
  have pz : ∀ b o, H b = some o → Pz (zs g' Z) σ ρ b → Pz (zs g Z) σ ρ b := fun b o h q => by
    rcases q with (q | q) | q
    · exact .inl (.inl q)
    · exact .inl (.inr (nn b o h q))
    · exact .inr q
  have sm : Sme (hide (Pz (zs g Z) σ ρ) H) (hide (Pz (zs g' Z) σ ρ) H') := by
    refine ⟨fun b o q nt => ?_, fun b ps q => ?_⟩
    · obtain ⟨q1, q2⟩ := hide_some.mp q
      exact hide_some.mpr ⟨fun z => q1 (pz b o q2 z), keep b o (fun z => q1 (.inl (.inr z))) q2 nt⟩
    · obtain ⟨q1, q2⟩ := hide_some.mp q
      obtain ⟨ps', z⟩ := e.tb b ps (hide_some.mpr ⟨fun z => q1 (.inl (.inr z)), q2⟩)
      exact ⟨ps', hide_some.mpr ⟨fun z => q1 (pz b _ q2 z), z⟩⟩
  have og : ∀ b, Ow σ ρ b → ¬ gd g b := fun b h q => E.zdis b h (.inr q)
  have oh : ∀ b, Ow σ ρ b → ∃ o, H b = some o := fun b h => E.pok.there (.inr h)
  have zk : @POk g' (zs g' Z) H' := by
    refine @POk.mk g' _ _ (fun b q => ?_) (GIn.less (g := g') gi fun _ h => .inr h)
    by_cases c : gd g' b
    · obtain ⟨kvs, c⟩ := c
      exact ⟨_, (gi b kvs c).2, trivial, fun _ _ z => by cases z⟩
    · have q' : Z b := q.resolve_right c
      obtain ⟨o, h1, h2, h3⟩ := E.zok b (.inl q')
      exact ⟨o, keep b o (fun z => c (mo b z)) h1 (Mut.nt h2), h2, h3⟩
  have bB : bf g' B := fun a q => by
    by_cases c : gd g a
    · exact fb a c
    · have h1 := fb' a q
      have h2 : H a = none := by rw [← h1]; exact (hide_of c).symm
      exact Sme.none S.base h2
  refine ⟨@StOk.mk g' K (zs g' Z) B H' σ ρ (@EnvOk.mk g' K (zs g' Z) H' σ ρ E.len (fun i d h => ?_) (fun i d h => ?_) E.inj zk (fun a h q => ?_) t) ?_ S.free, bB⟩
  · obtain ⟨v, h1, h2⟩ := E.sh i d h
    exact ⟨v, h1, Rp.mono sm _ _ h2⟩
  · obtain ⟨a, h1, h2⟩ := E.own i d h
    exact ⟨a, h1, h2.via (fun o k nt => keep a o (og a ⟨i, d, h, h1⟩) k nt) sm⟩
  · rcases q with q | q
    · exact E.zdis a h (.inl q)
    · obtain ⟨o, z⟩ := oh a h
      exact og a h (nn a o z q)
  · refine ⟨fun b o q nt => ?_, fun b ps q => ?_⟩
    · have n : ¬ gd g b := fun z => by rw [fb b z] at q; cases q
      exact keep b o n (S.base.get b o q nt) nt
    · have n : ¬ gd g b := fun z => by rw [fb b z] at q; cases q
      obtain ⟨ps1, z⟩ := S.base.tb b ps q
      exact e.tb b ps1 (hide_some.mpr ⟨n, z⟩)
end

/-! ### statements -/
abbrev SG := GSt → En → Option (GSt × Fl)
def WantG (K : PySem.W.Frag) (W : Str → Hp → Prop) (Z : Addr → Prop) (B : Hp) (g g' : GSt) (Dn : Ends) : Fl → Prop
  | .nx ρ => ∀ σ H, @StOk g' K (zs g' Z) B H σ ρ → bf g' B → gmo g g' → Dn.nx σ H
  | .bk ρ => ∀ σ H, @StOk g' K (zs g' Z) B H σ ρ → bf g' B → gmo g g' → Dn.bk σ H
  | .ct ρ => ∀ σ H, @StOk g' K (zs g' Z) B H σ ρ → bf g' B → gmo g g' → Dn.ct σ H
  | .rt d fr => ∀ v H, RetOk K (zs g' Z) B H v d fr → @GIn g' (gd g') H → bf g' B → gmo g g' → Dn.rt v H
  | .ex n => ∀ H, Sme B H → TabsK K H → @GIn g' (gd g') H → bf g' B → gmo g g' → W n H
  | .rn _ => False
def SemGS (K : PySem.W.Frag) (W : Str → Hp → Prop) (t : TS) (f : SG) : Prop :=
  ∀ (Z : Addr → Prop) (B : Hp) (g g' : GSt) (σ : L2.St) (H : Hp) (ρ : En) (fl : Fl), @StOk g K (zs g Z) B H σ ρ → bf g B → f g ρ = some (g', fl) → ∀ Dn : Ends, WantG K W Z B g g' Dn fl → t Dn σ H
structure GU (K : PySem.W.Frag) (X : Cx) (W : Str → Hp → Prop) (st : Stmt) (t : TS) (f : SG) : Prop where
  p : PS X st t
  s : SemGS K W t f
structure GUs (K : PySem.W.Frag) (X : Cx) (W : Str → Hp → Prop) (st : List Stmt) (t : TS) (f : SG) : Prop where
  p : PSs X st t
  s : SemGS K W t f
theorem WantG.le {K : PySem.W.Frag} {W : Str → Hp → Prop} {Z : Addr → Prop} {B : Hp} {g g1 g' : GSt} {Dn : Ends} (m : gmo g g1) : ∀ {fl : Fl}, WantG K W Z B g g' Dn fl → WantG K W Z B g1 g' Dn fl
  | .nx ρ, w => fun σ H S b k => w σ H S b (m.trans k)
  | .bk ρ, w => fun σ H S b k => w σ H S b (m.trans k)
  | .ct ρ, w => fun σ H S b k => w σ H S b (m.trans k)
  | .rt d fr, w => fun v H r i b k => w v H r i b (m.trans k)
  | .ex n, w => fun H s t i b k => w H s t i b (m.trans k)
  | .rn d, w => w
section
variable {K : PySem.W.Frag} {X : Cx} {W : Str → Hp → Prop} {t u : TS} {te : TE}
/-- a statement that leaves the dicts as they are -/
def sL (f : GSt → SF) : SG := fun g ρ => match f g ρ with
  | some (.rn _) => none
  | some fl => some (g, fl)
  | none => none
theorem ss_lift {f : GSt → SF} (h : ∀ g, @SemS g K W t (f g)) : SemGS K W t (sL f) := by
  intro Z B g g' σ H ρ fl S fb e Dn w
  letI := g
  let B' : Hp := hide (Ow σ ρ) H
  have sB : Sme B B' := S.base.hideN fun b q => S.free b q
  have SL : StOk K (zs g Z) B' H σ ρ := ⟨S.env, hide_same H, fun b q => by
    cases h : B' b with
    | none => rfl
    | some o => exact absurd q (hide_some.mp h).1⟩
  have gi := gin_of S
  have gk : ∀ {H' : Hp}, Sme B' H' → GIn (gd g) H' := fun {H'} s b kvs q => ⟨⟨kvs, q⟩, s.get _ _ (hide_some.mpr ⟨fun z => S.env.zdis b z (.inr ⟨kvs, q⟩), (gi b kvs q).2⟩) trivial⟩
  unfold sL at e
  cases q : f g ρ with
  | none => rw [q] at e; cases e
  | some fl' =>
    rw [q] at e
    refine h g (zs g Z) B' σ H ρ fl' SL q Dn ?_
    cases fl' with
    | nx ρ' => cases e; exact fun σ' H' S' => w σ' H' (S'.rebase sB) fb (gmo.refl g)
    | bk ρ' => cases e; exact fun σ' H' S' => w σ' H' (S'.rebase sB) fb (gmo.refl g)
    | ct ρ' => cases e; exact fun σ' H' S' => w σ' H' (S'.rebase sB) fb (gmo.refl g)
    | rt d fr => cases e; exact fun v H' r => w v H' (r.base sB) (gk r.1) fb (gmo.refl g)
    | ex n => cases e; exact fun H' s t => w H' (sB.trans s) t (gk s) fb (gmo.refl g)
    | rn d => cases e
def sSeqG (f h : SG) : SG := fun g ρ => match f g ρ with
  | some (g1, .nx ρ1) => h g1 ρ1
  | r => r
theorem ss_seqG {f h : SG} (h1 : SemGS K W t f) (h2 : SemGS K W u h) : SemGS K W (tSeq t u) (sSeqG f h) := by
  intro Z B g g' σ H ρ fl S fb e Dn w
  unfold sSeqG at e
  split at e
  · rename_i g1 ρ1 e1
    exact h1 Z B g g1 σ H ρ _ S fb e1 { Dn with nx := u Dn } fun σ' H' S' b k => h2 Z B g1 g' σ' H' ρ1 fl S' b e Dn (w.le k)
  · rename_i r hn
    refine h1 Z B g g' σ H ρ fl S fb e { Dn with nx := u Dn } ?_
    cases fl with
    | nx ρ1 => exact absurd e (hn g' ρ1)
    | _ => exact w
def sIfG (c : GSt → TF) (f h : SG) : SG := fun g ρ => match c g ρ with
  | some true => f g ρ
  | some false => h g ρ
  | none => none
theorem ss_ifG {tc : TT} {c : GSt → TF} {f h : SG} (hc : ∀ g, @SemT g K tc (c g)) (h1 : SemGS K W t f) (h2 : SemGS K W u h) : SemGS K W (tIfS tc t u) (sIfG c f h) := by
  intro Z B g g' σ H ρ fl S fb e Dn w
  letI := g
  unfold sIfG at e
  split at e
  · rename_i e1
    refine hc g (zs g Z) σ H ρ _ S.env e1 _ fun H' s => ?_
    rw [if_pos rfl]
    exact h1 Z B g g' σ H' ρ fl (S.mono s) fb e Dn w
  · rename_i e1
    refine hc g (zs g Z) σ H ρ _ S.env e1 _ fun H' s => ?_
    rw [if_neg Bool.false_ne_true]
    exact h2 Z B g g' σ H' ρ fl (S.mono s) fb e Dn w
  · cases e
theorem gu_lift {st : Stmt} {f : GSt → SF} (h : ∀ g, @GS g K X W st t (f g)) : GU K X W st t (sL f) := ⟨(h gTriv).p, ss_lift fun g => (h g).s⟩
theorem gus_cons {st : Stmt} {r : List Stmt} {f h : SG} (h1 : GU K X W st t f) (h2 : GUs K X W r u h) : GUs K X W (st :: r) (tSeq t u) (sSeqG f h) := ⟨pss_cons h1.p h2.p, ss_seqG h1.s h2.s⟩
theorem gus_one {st : Stmt} {f : SG} (h1 : GU K X W st t f) : GUs K X W [st] t f := ⟨pss_one h1.p, h1.s⟩
theorem gus_nil : GUs K X W [] tNext (sL fun _ => sNil) := ⟨pss_nil, ss_lift fun g => @ss_nil g K W⟩
theorem gu_if {ce : Expr} {a b : List Stmt} {pos : Pos} {tc : TT} {c : GSt → TF} {f h : SG} (hc : ∀ g, @GT g K X ce tc (c g)) (h1 : GUs K X W a t f) (h2 : GUs K X W b u h) : GU K X W (.If ce a b pos) (tIfS tc t u) (sIfG c f h) := ⟨ps_if (hc gTriv).p h1.p h2.p, ss_ifG (fun g => (hc g).s) h1.s h2.s⟩
/-! ### expressions that change the dicts: data or an exception -/
abbrev EG := GSt → En → Option (GSt × (D ⊕ Str))
def WantE (K : PySem.W.Frag) (W : Str → Hp → Prop) (Z : Addr → Prop) (B : Hp) (g g' : GSt) (σ : L2.St) (ρ : En) (Q : VK) : D ⊕ Str → Prop
  | .inl d => ∀ v H', @StOk g' K (zs g' Z) B H' σ ρ → bf g' B → gmo g g' → Rp K (hide (Pz (zs g' Z) σ ρ) H') v d → Q v H'
  | .inr n => ∀ H', Sme B H' → TabsK K H' → @GIn g' (gd g') H' → bf g' B → gmo g g' → W n H'
def SemGE (K : PySem.W.Frag) (W : Str → Hp → Prop) (te : TE) (fe : EG) : Prop :=
  ∀ (Z : Addr → Prop) (B : Hp) (g g' : GSt) (σ : L2.St) (H : Hp) (ρ : En) (o : D ⊕ Str), @StOk g K (zs g Z) B H σ ρ → bf g B → fe g ρ = some (g', o) → ∀ Q : VK, WantE K W Z B g g' σ ρ Q o → te σ H Q
structure GEx (K : PySem.W.Frag) (X : Cx) (W : Str → Hp → Prop) (e : Expr) (te : TE) (fe : EG) : Prop where
  p : PE X e te
  s : SemGE K W te fe
/-- what is done with the outcome -/
def oG (fe : EG) (k : GSt → En → D → Option (GSt × Fl)) : SG := fun g ρ => match fe g ρ with
  | some (g', .inl d) => k g' ρ d
  | some (g', .inr n) => some (g', .ex n)
  | none => none
def sRetG (fe : EG) : SG := oG fe fun g _ d => some (g, .rt d false)
def sDropG (fe : EG) : SG := oG fe fun g ρ _ => some (g, .nx ρ)
def sSetG (i : Nat) (fe : EG) : SG := oG fe fun g ρ d => if i < ρ.length then some (g, .nx (ρ.set i (.sh d))) else none
def sUnpG (tgt : GF) (fe : EG) : SG := oG fe fun g ρ d => (tgt ⟨d, .av⟩ ρ).map fun ρ' => (g, .nx ρ')
theorem oG_some {fe : EG} {k : GSt → En → D → Option (GSt × Fl)} {g g' : GSt} {ρ : En} {fl : Fl} (e : oG fe k g ρ = some (g', fl)) : (∃ g1 d, fe g ρ = some (g1, .inl d) ∧ k g1 ρ d = some (g', fl)) ∨ ∃ n, fe g ρ = some (g', .inr n) ∧ fl = .ex n := by
  unfold oG at e
  split at e
  · rename_i g1 d e1
    exact .inl ⟨g1, d, e1, e⟩
  · rename_i g1 n e1
    cases e
    exact .inr ⟨n, e1, rfl⟩
  · cases e
theorem ss_retG {fe : EG} (h : SemGE K W te fe) : SemGS K W (tRet te) (sRetG fe) := by
  intro Z B g g' σ H ρ fl S fb e Dn w
  rcases oG_some e with ⟨g1, d, e1, e2⟩ | ⟨n, e1, rfl⟩
  · cases e2
    refine h Z B g g' σ H ρ _ S fb e1 _ fun v H' S' b k r => ?_
    exact w v H' ⟨(@StOk.base g' _ _ _ _ _ _ S'), (@EnvOk.tab g' _ _ _ _ _ (@StOk.env g' _ _ _ _ _ _ S')), Rp.mono (@pz_z g' _ _ _ _) _ _ r⟩ (gin_of S') b k
  · exact h Z B g g' σ H ρ _ S fb e1 _ w
theorem ss_dropG {fe : EG} (h : SemGE K W te fe) : SemGS K W (tDrop te) (sDropG fe) := by
  intro Z B g g' σ H ρ fl S fb e Dn w
  rcases oG_some e with ⟨g1, d, e1, e2⟩ | ⟨n, e1, rfl⟩
  · cases e2
    exact h Z B g g' σ H ρ _ S fb e1 _ fun v H' S' b k r => w σ H' S' b k
  · exact h Z B g g' σ H ρ _ S fb e1 _ w
theorem ss_setG {i : Nat} {fe : EG} (h : SemGE K W te fe) : SemGS K W (tAsg te (gName i)) (sSetG i fe) := by
  intro Z B g g' σ H ρ fl S fb e Dn w
  rcases oG_some e with ⟨g1, d, e1, e2⟩ | ⟨n, e1, rfl⟩
  · split at e2
    · rename_i hi
      cases e2
      refine h Z B g g' σ H ρ _ S fb e1 _ fun v H' S' b k r => ?_
      exact w _ H' (@StOk.setSh g' _ _ _ _ _ _ _ _ _ S' r hi) b k
    · cases e2
  · exact h Z B g g' σ H ρ _ S fb e1 _ w
theorem ss_unpG {tg : TG} {tgt : GF} {fe : EG} (hg : ∀ g, @SemG g K tg tgt) (h : SemGE K W te fe) : SemGS K W (tAsg te tg) (sUnpG tgt fe) := by
  intro Z B g g' σ H ρ fl S fb e Dn w
  rcases oG_some e with ⟨g1, d, e1, e2⟩ | ⟨n, e1, rfl⟩
  · obtain ⟨ρ', e3, e4⟩ := Option.map_eq_some_iff.mp e2
    cases e4
    refine h Z B g g' σ H ρ _ S fb e1 _ fun v H' S' b k r => ?_
    exact hg g' (zs g' Z) B σ H' ρ ρ' v ⟨d, .av⟩ S' r e3 _ fun σ' S2 => w σ' H' S2 b k
  · exact h Z B g g' σ H ρ _ S fb e1 _ w
end
end Fb
set_option maxHeartbeats 2000000
/-! FcB: list(d.values()), list(d.items()) of dicts with tuple keys. -/
namespace Fb
open PySem PySem.Spec PyProof.Rows L2
section
variable {prog : Program} {w : World} {A : Around} {E : Value → Shared → Prop} {s : Shared} {it d v r : Addr} {es : Array DictEntry} {ep i : Nat}
theorem rawVals (nd : (d == sysModules) = false) : MeetsIn prog w (Builtin.«dict.values» ⟨[.ref d], []⟩) (fun _ R s => DT.Raw s.heap d es ep ∧
    R (.ok (.ret (.ref s.heap.objs.size))) { s with heap := s.heap.push { cls := .type "dict_values", data := .fields #[.ref d] } }) :=
  .of_wp fun A R s z => by
    refine wpAny_bind ?_
    unfold Builtin.Dict.noArgs
    refine wpAny_bind (wpAny_notOrdered_dict z.1.typeIs ?_)
    show wpAny _ A.in1 (pure d) _ _ s
    refine wpAny_pure ?_
    show wpAny _ A.in1 (Builtin.Dict.showsAll d >>= _) _ _ s
    unfold Builtin.Dict.showsAll
    rw [if_neg (by rw [nd]; decide)]
    exact wpAny_bind (wpAny_pure (wpAny_bind (wpAny_newObj_type (wpAny_pure ⟨_, rfl, z.2⟩))))
theorem rawValIter {Q : Value → Shared → Prop} (vw : s.heap.IsValuesView v d) (rw' : DT.Raw s.heap d es ep)
    (q : Q (.ref s.heap.objs.size) { s with heap := s.heap.push { cls := .type "dict_valueiterator", data := .fields #[.ref d, .int 0 0, .int es.size 0, .int ep 0] } }) : wpAny (model prog w) A (pyIter (.ref v)) Q E s := by
  obtain ⟨o1, k1, k2, k3⟩ := id vw
  obtain ⟨o2, m1, m2, m3⟩ := id rw'
  have no : Builtin.Dict_items.ownsTuple "dict_valueiterator" = false := by decide
  refine wpAny_pyIter_slot vw.typeIs F.slot_dict_values_iter ?_
  refine wpAny_call_entry F.slot_dict_values_iter vw.typeIs F.entry_dict_values_iter ?_ (F.args_dict_values_iter_1 _)
  unfold Builtin.«dict_values.__iter__»
  refine wpAny_bind (wpAny_pure (wpAny_bind ?_))
  unfold Builtin.Dict_items.dictOf
  refine wpAny_bind (wpAny_field k1 k3 (x := .ref d) rfl (wpAny_pure (wpAny_bind ?_)))
  unfold Builtin.Dict_items.newIterator
  refine wpAny_bind (wpAny_dictEntries m1 m3 (wpAny_bind (wpAny_dictEpoch m1 m3 ?_)))
  simp only [no, Bool.false_eq_true, if_false]
  exact wpAny_newObj_type (wpAny_pure ⟨_, rfl, "dict_valueiterator", _, ⟨_, Heap.get?_push_size _ rfl, rfl⟩, F.slot_dict_valueiterator_next.lookup, by simpa [rawInt] using q⟩)
theorem rawValNext {Q : Option Value → Shared → Prop} (ix : s.heap.IsValIter it d i es.size ep) (rw' : DT.Raw s.heap d es ep) (lt : i < es.size)
    (q : ∀ h', h'.IsValIter it d (i + 1) es.size ep → Heap.SameBut it s.heap h' → Q (some es[i].val) { s with heap := h' }) : wpAny (model prog w) A (pyNext (.ref it)) Q E s := by
  obtain ⟨o1, k1, k2, k3⟩ := id ix
  obtain ⟨o2, m1, m2, m3⟩ := id rw'
  have no : Builtin.Dict_items.ownsTuple "dict_valueiterator" = false := by decide
  unfold pyNext
  refine wpAny_bind (wpAny_attempt (wpAny_callSpecial?_slot (name := Str.ofString "__next__") ix.typeIs F.slot_dict_valueiterator_next ?_))
  refine wpAny_call_entry F.slot_dict_valueiterator_next ix.typeIs F.entry_dict_valueiterator_next ?_ (F.args_dict_valueiterator_next_1 _)
  refine wpAny_bind (wpAny_pure (wpAny_bind (wpAny_bind ?_)))
  first | refine wpAny_bind (wpAny_typeNameOfWhole_valiter ix.typeIs (wpAny_pure (wpAny_bind (wpAny_fieldsOf k1 k3 ?_)))) | refine wpAny_bind (wpAny_typeNameOf_valiter ix.typeIs (wpAny_pure (wpAny_bind (wpAny_fieldsOf k1 k3 ?_))))
  simp only [no, Bool.false_eq_true, if_false]
  show wpAny _ _ (if (Value.ref d == Value.none) = true then _ else _) _ _ s
  rw [if_neg (show ¬ ((Value.ref d == Value.none) = true) from Bool.false_ne_true)]
  refine wpAny_bind (wpAny_pure (wpAny_bind (wpAny_dictEntries m1 m3 ?_)))
  rw [if_neg (by simp)]
  refine wpAny_bind (wpAny_pure (wpAny_bind (wpAny_dictEpoch m1 m3 ?_)))
  rw [if_neg (by simp)]
  refine wpAny_pure ?_
  simp only [show ¬ ((i : Int) < 0) from by omega, if_false, Int.toNat_natCast, Array.getElem?_eq_getElem lt]
  refine wpAny_bind ?_
  first | refine wpAny_bind (wpAny_typeNameOfWhole_valiter ix.typeIs (wpAny_pure (wpAny_bind (wpAny_isOneOf_valiter ix.typeIs ?_)))) | refine wpAny_bind (wpAny_typeNameOf_valiter ix.typeIs (wpAny_pure (wpAny_bind (wpAny_isOneOf_valiter ix.typeIs ?_))))
  show wpAny _ _ (setField (.ref it) 1 (rawInt ((i : Int) + 1)) >>= _) _ _ s
  refine wpAny_bind (wpAny_setField k1 k3 (by simp) ?_)
  have ix' : (s.heap.update it (Obj.mapFields (·.setIfInBounds 1 (rawInt ((i : Int) + 1))))).IsValIter it d (i + 1) es.size ep := by
    refine ⟨_, Heap.get?_update_self _ k1 (Obj.isFreed_of_fields (Obj.data_mapFields k3 _)), (Obj.cls_mapFields ..).trans k2, ?_⟩
    rw [Obj.data_mapFields k3]
    simp [rawInt]
  refine wpAny_bind (wpAny_holding (wpAny_bind (wpAny_isOneOf_valiter ix'.typeIs ?_)))
  refine wpAny_bind (wpAny_isOneOf_valiter ix'.typeIs ?_)
  exact wpAny_pure (wpAny_pure ⟨_, rfl, wpAny_pure (q _ ix' (Heap.SameBut.update ..))⟩)
theorem rawValEnd {Q : Option Value → Shared → Prop} (hh : A.handled = none) (ix : s.heap.IsValIter it d es.size es.size ep) (rw' : DT.Raw s.heap d es ep)
    (q : ∀ h', Heap.ExtBut it s.heap h' → Q none { s with heap := h' }) : wpAny (model prog w) A (pyNext (.ref it)) Q E s := by
  obtain ⟨o1, k1, k2, k3⟩ := id ix
  obtain ⟨o2, m1, m2, m3⟩ := id rw'
  have no : Builtin.Dict_items.ownsTuple "dict_valueiterator" = false := by decide
  unfold pyNext
  refine wpAny_bind (wpAny_attempt (wpAny_callSpecial?_slot (name := Str.ofString "__next__") ix.typeIs F.slot_dict_valueiterator_next ?_))
  refine wpAny_call_entry F.slot_dict_valueiterator_next ix.typeIs F.entry_dict_valueiterator_next ?_ (F.args_dict_valueiterator_next_1 _)
  refine wpAny_bind (wpAny_pure (wpAny_bind (wpAny_bind ?_)))
  first | refine wpAny_bind (wpAny_typeNameOfWhole_valiter ix.typeIs (wpAny_pure (wpAny_bind (wpAny_fieldsOf k1 k3 ?_)))) | refine wpAny_bind (wpAny_typeNameOf_valiter ix.typeIs (wpAny_pure (wpAny_bind (wpAny_fieldsOf k1 k3 ?_))))
  simp only [no, Bool.false_eq_true, if_false]
  show wpAny _ _ (if (Value.ref d == Value.none) = true then _ else _) _ _ s
  rw [if_neg (show ¬ ((Value.ref d == Value.none) = true) from Bool.false_ne_true)]
  refine wpAny_bind (wpAny_pure (wpAny_bind (wpAny_dictEntries m1 m3 ?_)))
  rw [if_neg (by simp)]
  refine wpAny_bind (wpAny_pure (wpAny_bind (wpAny_dictEpoch m1 m3 ?_)))
  rw [if_neg (by simp)]
  refine wpAny_pure ?_
  simp only [show ¬ ((es.size : Int) < 0) from by omega, if_false, Int.toNat_natCast, Array.getElem?_eq_none (Nat.le_refl es.size)]
  refine wpAny_bind ?_
  first | refine wpAny_bind (wpAny_typeNameOfWhole_valiter ix.typeIs (wpAny_pure ?_)) | refine wpAny_bind (wpAny_typeNameOf_valiter ix.typeIs (wpAny_pure ?_))
  show wpAny _ _ (setField (.ref it) 0 .none >>= _) _ _ s
  refine wpAny_bind (wpAny_setField k1 k3 (by simp) ?_)
  show wpAny _ _ (newExc (.type "StopIteration") [] >>= _) _ _ _
  simp only [newExc, newTuple]
  refine wpAny_bind (wpAny_bind (wpAny_newObj_type ?_ (by size_fits)))
  refine wpAny_bind (m := firstArgMember _ _) (wpAny_of_eq (a := Value.none) (by first | rfl | (simp only [firstArgMember]; rfl)) (wpAny_newObj_type ?_ (by size_fits)))
  simp only [raiseNew]
  refine wpAny_bind (wpAny_handled ?_)
  rw [show A.in1.handled = none from hh]
  refine wpAny_bind (wpAny_pure (wpAny_throw (wpAny_bind ?_)))
  refine wpAny_isInstance (T := "StopIteration") (b := true) ⟨_, Heap.get?_push_size _ rfl, rfl⟩ isSubtype_stop ?_
  exact wpAny_pure (q _ (((Heap.SameBut.update ..).extBut.push _).push _))
theorem rawVals_src : PySem.W.KdlSrc prog w "dict_values" r d es.size (fun i v => ∃ e, es[i]? = some e ∧ e.val = v) (fun h => h.IsValuesView r d ∧ DT.Raw h d es ep) where
  type := fun _ z => z.1.typeIs
  there := fun _ z => ⟨let ⟨_, k, _⟩ := z.1; Heap.lt_size k, z.2.lt⟩
  keep := fun _ _ z k => ⟨let ⟨o, k1, k2⟩ := z.1; ⟨o, k r (.inl rfl) o k1, k2⟩, z.2.at' fun o e => k d (.inr rfl) o e⟩
  notList := by decide
  notTuple := by decide
  hint := fun _ _ _ _ z q => PySem.W.kdl_hint_values z.1.typeIs q
  iter := fun A s hh z => ⟨_, fun i h => h.IsValIter s.heap.objs.size d i es.size ep ∧ DT.Raw h d es ep, fun _ _ q => rawValIter z.1 z.2 q, {
      sub := fun b hb => List.mem_cons.mpr (.inl (List.mem_singleton.mp hb))
      frame := fun _ _ _ st k => ⟨st.1.at fun o e => k _ List.mem_cons_self o e, st.2.at' fun o e => k d (List.mem_cons_of_mem _ List.mem_cons_self) o e⟩
      item := fun i s2 Q E lt st q => by
        refine rawValNext st.1 st.2 lt fun h' ix sb => ?_
        refine q _ h' s2.toks ⟨_, Array.getElem?_eq_getElem lt, rfl⟩ ⟨ix, st.2.at' fun o e => sb.extBut d o (fun c => absurd z.2.lt (by rw [c]; exact Nat.lt_irrefl _)) e⟩ fun b o hb e => sb.extBut b o (fun c => hb (by rw [c]; exact List.mem_singleton.mpr rfl)) e
      done := fun s2 Q E st q => rawValEnd hh st.1 st.2 fun h' sb => q h' s2.toks fun b o hb e => sb b o (fun c => hb (by rw [c]; exact List.mem_singleton.mpr rfl)) e
      self := fun _ _ _ _ st q => wpAny_pyIter_valiter st.1 q },
    ⟨⟨_, Heap.get?_push_size _ rfl, rfl, rfl⟩, z.2.push _⟩⟩
/-- list(view of items) -/
theorem rawItems {Q : Value → Shared → Prop} (hh : A.handled = none) (vw : s.heap.IsItemsView r d) (rw' : DT.Raw s.heap d es ep) (hn : es.size ≤ sizeLine)
    (q : ∀ h' tk acc c as, (∀ b o, s.heap.get? b = some o → h'.get? b = some o) → h'.get? s.heap.objs.size = some { cls := .type "list", dict := none, data := .seq acc c, slots := #[] } → as.length = es.size → DT.Made es s.heap.objs.size h' as → acc.toList = as.map Value.ref →
      Q (.ref s.heap.objs.size) { s with heap := h', toks := tk }) : wpAny (model prog w) A (call (.type "list") [.ref r]) Q E s := by
  refine callType_codes (Q₁ := fun obj s₁ => obj = .ref s.heap.objs.size ∧ s₁ = { s with heap := s.heap.push { cls := .type "list", data := .seq #[] } }) PySem.F.called_list (PySem.F.typeCall_list_1 _) PySem.F.entry_list_init (code_list_new _ ⟨rfl, rfl⟩) fun obj s₁ z => ?_
  obtain ⟨rfl, rfl⟩ := z
  obtain ⟨ov, v1, v2⟩ := id vw
  have lr : r < s.heap.objs.size := Heap.lt_size v1
  have ld := rw'.lt
  have hS : (s.heap.push { cls := .type "list", data := .seq #[] }).get? s.heap.objs.size = some { cls := .type "list", data := .seq #[] } := Heap.get?_push_size _ rfl
  refine ⟨⟨_, hS, rfl⟩, PySem.F.args_list_init_2 _ _, ?_⟩
  refine wpAny_bind (listItems_at hS rfl ?_)
  refine wpAny_bind (listUpdate_at hS rfl ?_)
  have hS2 := Heap.get?_update_self (Obj.mapSeq (fun _ => (#[] : Array Value))) hS rfl
  have oth : ∀ b o, b ≠ s.heap.objs.size → s.heap.get? b = some o → ((s.heap.push { cls := .type "list", data := .seq #[] }).update s.heap.objs.size (Obj.mapSeq (fun _ => (#[] : Array Value)))).get? b = some o := fun b o hb e => (Heap.get?_update_other _ _ (Ne.symm hb)).trans (Heap.get?_push_of_some _ e)
  refine wpAny_bind (wpAny_letGo ?_)
  refine DT.extI (A := A.in1) (es := es) (ep := ep) hh ⟨ov, oth r ov (Nat.ne_of_lt lr) v1, v2⟩ (rw'.at' fun o e => oth d o (Nat.ne_of_lt ld) e) s.heap.objs.size (Nat.ne_of_gt lr) (Nat.ne_of_lt ld) .none _ hS2 (fun h' tk acc c as k1 k2 k3 k4 k5 => ?_) hn
  refine ⟨rfl, q h' tk acc c as (fun b o e => k1 b o (Nat.ne_of_lt (Heap.lt_size e)) (oth b o (Nat.ne_of_lt (Heap.lt_size e)) e)) k2 k3 (k4.low ?_) k5⟩
  rw [Heap.size_update, Heap.size_push]
  exact Nat.le_succ _
end
end Fb
set_option maxHeartbeats 2000000
/-! FcC: the expressions list(d.values()), list(d.items()); dicts that stand for themselves, read. -/
namespace Fb
open PySem PySem.Spec PyProof.Rows L2
section
variable {X : Cx} {pins : List (Addr × Obj)} {σ : L2.St} {H : Hp} {s : Shared} {d : Addr}
theorem dT_at {kvs : List (List Key × V)} (I : Inv X pins σ H s) (h : H d = some (.dT kvs)) :
    (d == sysModules) = false ∧ kvs.length ≤ sizeLine ∧ ∃ (es : Array DictEntry) (ep : Nat), DT.Raw s.heap d es ep ∧ es.size = kvs.length ∧
      ∀ (i : Nat) (k : List Key) (v : V), kvs[i]? = some (k, v) → ∃ (en : DictEntry) (q : Addr), es[i]? = some en ∧ en.key = .ref q ∧ H q = some (.tup (k.map kV)) ∧ RelV v en.val := by
  obtain ⟨hz, ns, xs, pr, o, es, ep, ho, hx, dat, he, _⟩ := I.hok d _ h
  have l1 : es.size = xs.length := size_of_entries he
  have l2 : kvs.length = xs.length := Paired.length pr
  refine ⟨ns, hz, es, ep, ⟨_, ho, hx, dat⟩, l1.trans l2.symm, fun i k v e => ?_⟩
  obtain ⟨b, hb, e1, e2, e3⟩ := paired_get pr e
  have q := entry_at he i
  rw [hb] at q
  exact ⟨_, b.2.1, q, rfl, e2, e3⟩
theorem vals_at : ∀ {xs : List V} {us : List Value}, xs.length = us.length → (∀ (i : Nat) (x : V) (u : Value), xs[i]? = some x → us[i]? = some u → RelV x u) → Vals xs us
  | [], [], _, _ => .nil
  | [], _ :: _, h, _ => by simp at h
  | _ :: _, [], h, _ => by simp at h
  | x :: xs, u :: us, h, k => .cons (k 0 x u rfl rfl) (vals_at (by simpa using h) fun i y w e1 e2 => k (i + 1) y w (by simpa using e1) (by simpa using e2))
def tLstVals (te : TE) : TE := fun σ H Q => te σ H fun x H1 => ∃ (d : Addr) (kvs : List (List Key × V)), x = .ref d ∧ H1 d = some (.dT kvs) ∧ ∀ p, H1 p = none → Q (.ref p) (upd H1 p (.lst (kvs.map (·.2))))
theorem pe_lstVals {e : Expr} {te : TE} {p apos cpos pos : Pos} (hc : X.calm = true) (he : PE X e te) (hg : Gl X "list") (hm : X.mg "list" = none) (hv : bootBuiltins "list" = some (.type "list")) (hbase : attributeBase e "values" X.env (eval e X.env) = eval e X.env := by rfl) (hline : (apos.endLine == cpos.line) = true := by rfl)
    (hs : starEach [.Call (.Attribute e "values" apos) [] [] cpos] X.env = (false, eval (.Call (.Attribute e "values" apos) [] [] cpos) X.env) :: starEach [] X.env := by rfl) :
    PE X (.Call (.Name "list" p) [.Call (.Attribute e "values" apos) [] [] cpos] [] pos) (tLstVals te) := by
  refine ⟨fun pins s σ H Q I hq => ?_⟩
  refine wpAny_Call_Name_kw (ld_blt I hg hm hv ?_)
  refine PyProof.Rows.callWith_type1 ?_ hs rfl
  rw [hs]
  show wpAny _ _ (spliced ((false, eval (.Call (.Attribute e "values" apos) [] [] cpos) X.env) :: backTo pos (starEach [] X.env))) _ _ s
  refine Calls.spliced_cons ?_
  refine wpAny_Call_method (T := "dict") (id := "dict.values") hbase rfl hline F.plainAttrs_dict F.slot_dict_values F.type_dict_values (thn (he.run pins s σ H _ I hq) fun u s1 ⟨x, H1, I1, rx, d, kvs, ex, hd, q⟩ => ?_)
  subst ex
  have eu : u = Value.ref d := rx
  subst eu
  obtain ⟨nd, hz, es, ep, raw, sz, ent⟩ := dT_at I1 hd
  have I2 : Inv X pins σ H1 { s1 with heap := s1.heap.push { cls := .type "dict_values", data := .fields #[.ref d] } } := I1.kept (t' := s1.toks) fun b ob q => Heap.get?_push_of_some _ q
  refine ⟨raw.typeIs, fun a ea => (by cases ea; obtain ⟨o, ho, hx, _⟩ := raw; exact ⟨o, ho, hx.2.1⟩), ?_⟩
  show wpAny _ _ (callWith cpos (.builtin "dict.values") [.ref d] [] []) _ X.xe s1
  refine method_meetsIn F.slot_dict_values F.entry_dict_values rfl (PySem.evalArgs_none ⟨rfl, raw.typeIs, F.args_dict_values_1 _, _, rawVals (es := es) (ep := ep) nd, raw, ?_⟩)
  refine Calls.spliced_nil ?_
  refine PySem.W.kdl_call rawVals_src (I1.ok.hd hc) ⟨⟨_, Heap.get?_push_size _ rfl, rfl, rfl⟩, raw.push _⟩ (by omega) fun h' tk acc c k1 k2 k3 => ?_
  have la : acc.toList.length = kvs.length := by rw [Array.length_toList, k3.1, sz]
  have vl : Vals (kvs.map (·.2)) acc.toList := by
    refine vals_at (by rw [List.length_map, la]) fun i x u e1 e2 => ?_
    rw [List.getElem?_map] at e1
    obtain ⟨⟨k, v⟩, f1, f2⟩ := Option.map_eq_some_iff.mp e1
    obtain ⟨en, qa, g1, g2, g3, g4⟩ := ent i k v f1
    obtain ⟨e', m1, m2⟩ := k3.2 i u (by rw [← Array.getElem?_toList]; exact e2)
    rw [g1] at m1
    cases m1
    rw [← f2, ← m2]
    exact g4
  refine ⟨.ref _, upd H1 _ (.lst (kvs.map (·.2))), I2.laid (t' := tk) k1 (Nat.le_refl _) ⟨by rw [List.length_map]; exact hz, acc.toList, c, vl, ?_⟩, rfl, q _ (I2.hok.fresh (Nat.le_refl _))⟩
  rw [Array.toArray_toList]
  exact k2
/-! ### list(d.items()) -/
/-- new pairs at new places -/
def putP : Hp → List Addr → List (V × V) → Hp
  | H, a :: as, p :: ps => putP (upd H a (.tup [p.1, p.2])) as ps
  | H, _, _ => H
theorem putP_off {b : Addr} : ∀ (as : List Addr) (ps : List (V × V)) (H : Hp), b ∉ as → putP H as ps b = H b
  | [], _, _, _ => rfl
  | _ :: _, [], _, _ => rfl
  | a :: as, p :: ps, H, h => by
    show putP (upd H a (.tup [p.1, p.2])) as ps b = H b
    rw [putP_off as ps _ (fun z => h (List.mem_cons_of_mem _ z)), upd_ne (fun z => h (by rw [z]; exact List.mem_cons_self))]
theorem putP_at : ∀ (as : List Addr) (ps : List (V × V)) (H : Hp) (i : Nat) (a : Addr) (p : V × V), as.Nodup → as[i]? = some a → ps[i]? = some p → putP H as ps a = some (.tup [p.1, p.2])
  | [], _, _, i, a, p, _, e, _ => by simp at e
  | _ :: _, [], _, i, a, p, _, _, e => by simp at e
  | b :: as, q :: ps, H, 0, a, p, nd, e1, e2 => by
    cases Option.some.inj e1
    cases Option.some.inj e2
    show putP (upd H b (.tup [q.1, q.2])) as ps b = _
    rw [putP_off as ps _ (List.nodup_cons.mp nd).1, upd_same]
  | b :: as, q :: ps, H, i + 1, a, p, nd, e1, e2 => putP_at as ps (upd H b (.tup [q.1, q.2])) i a p (List.nodup_cons.mp nd).2 (by simpa using e1) (by simpa using e2)
def tLstItems (te : TE) : TE := fun σ H Q => te σ H fun x H1 => ∃ (d : Addr) (kvs : List (List Key × V)), x = .ref d ∧ H1 d = some (.dT kvs) ∧
  ∀ (H' : Hp) (p : Addr) (ts : List Addr), (∀ b o, H1 b = some o → H' b = some o) → H1 p = none → (∀ t ∈ ts, H1 t = none) → p ∉ ts → H' p = some (.lst (ts.map V.ref)) → ts.length = kvs.length →
    (∀ (i : Nat) (t : Addr) (k : List Key) (v : V), ts[i]? = some t → kvs[i]? = some (k, v) → ∃ q, H' t = some (.tup [.ref q, v]) ∧ H1 q = some (.tup (k.map kV))) → Q (.ref p) H'
theorem pe_lstItems {e : Expr} {te : TE} {p apos cpos pos : Pos} (hc : X.calm = true) (he : PE X e te) (hg : Gl X "list") (hm : X.mg "list" = none) (hv : bootBuiltins "list" = some (.type "list")) (hbase : attributeBase e "items" X.env (eval e X.env) = eval e X.env := by rfl) (hline : (apos.endLine == cpos.line) = true := by rfl)
    (hs : starEach [.Call (.Attribute e "items" apos) [] [] cpos] X.env = (false, eval (.Call (.Attribute e "items" apos) [] [] cpos) X.env) :: starEach [] X.env := by rfl) :
    PE X (.Call (.Name "list" p) [.Call (.Attribute e "items" apos) [] [] cpos] [] pos) (tLstItems te) := by
  refine ⟨fun pins s σ H Q I hq => ?_⟩
  refine wpAny_Call_Name_kw (ld_blt I hg hm hv ?_)
  refine PyProof.Rows.callWith_type1 ?_ hs rfl
  rw [hs]
  show wpAny _ _ (spliced ((false, eval (.Call (.Attribute e "items" apos) [] [] cpos) X.env) :: backTo pos (starEach [] X.env))) _ _ s
  refine Calls.spliced_cons ?_
  refine wpAny_Call_method (T := "dict") (id := "dict.items") hbase rfl hline F.plainAttrs_dict F.slot_dict_items F.type_dict_items (thn (he.run pins s σ H _ I hq) fun u s1 ⟨x, H1, I1, rx, d, kvs, ex, hd, q⟩ => ?_)
  subst ex
  have eu : u = Value.ref d := rx
  subst eu
  obtain ⟨nd, hz, es, ep, raw, sz, ent⟩ := dT_at I1 hd
  have I2 : Inv X pins σ H1 { s1 with heap := s1.heap.push { cls := .type "dict_items", data := .fields #[.ref d] } } := I1.kept (t' := s1.toks) fun b ob q => Heap.get?_push_of_some _ q
  refine ⟨raw.typeIs, fun a ea => (by cases ea; obtain ⟨o, ho, hx, _⟩ := raw; exact ⟨o, ho, hx.2.1⟩), ?_⟩
  show wpAny _ _ (callWith cpos (.builtin "dict.items") [.ref d] [] []) _ X.xe s1
  refine method_meetsIn F.slot_dict_items F.entry_dict_items rfl (PySem.evalArgs_none ⟨rfl, raw.typeIs, F.args_dict_items_1 _, _, DT.meetsItems (es := es) (ep := ep) nd, raw, ?_⟩)
  refine Calls.spliced_nil ?_
  refine rawItems (es := es) (ep := ep) (I1.ok.hd hc) ⟨_, Heap.get?_push_size _ rfl, rfl, rfl⟩ (raw.push _) (by omega) fun h' tk acc c as k1 k2 k3 k4 k5 => ?_
  obtain ⟨sq, esq⟩ : ∃ sq, sq = (s1.heap.push { cls := .type "dict_items", data := .fields #[.ref d] }).objs.size := ⟨_, rfl⟩
  rw [← esq] at k2 k4 ⊢
  -- the pairs' values
  have each : ∀ i : Nat, i < kvs.length → ∃ (en : DictEntry) (qa : Addr) (k : List Key) (v : V), kvs[i]? = some (k, v) ∧ es[i]? = some en ∧ en.key = .ref qa ∧ H1 qa = some (.tup (k.map kV)) ∧ RelV v en.val := fun i hi => by
    obtain ⟨en, qa, g1, g2, g3, g4⟩ := ent i kvs[i].1 kvs[i].2 (List.getElem?_eq_getElem hi)
    exact ⟨en, qa, kvs[i].1, kvs[i].2, List.getElem?_eq_getElem hi, g1, g2, g3, g4⟩
  obtain ⟨ps, pl, pp⟩ : ∃ ps : List (V × V), ps.length = kvs.length ∧ ∀ (i : Nat) (p : V × V), ps[i]? = some p → ∃ (en : DictEntry) (qa : Addr) (k : List Key) (v : V), kvs[i]? = some (k, v) ∧ es[i]? = some en ∧ en.key = .ref qa ∧ H1 qa = some (.tup (k.map kV)) ∧ RelV v en.val ∧ p = (.ref qa, v) := by
    have key : ∀ n, n ≤ kvs.length → ∃ ps : List (V × V), ps.length = n ∧ ∀ (i : Nat) (p : V × V), ps[i]? = some p → ∃ (en : DictEntry) (qa : Addr) (k : List Key) (v : V), kvs[i]? = some (k, v) ∧ es[i]? = some en ∧ en.key = .ref qa ∧ H1 qa = some (.tup (k.map kV)) ∧ RelV v en.val ∧ p = (.ref qa, v) := fun n => by
      induction n with
      | zero => exact fun _ => ⟨[], rfl, fun i p e => by simp at e⟩
      | succ n ih =>
        intro hn
        obtain ⟨ps, l, h⟩ := ih (by omega)
        obtain ⟨en, qa, k, v, g1, g2, g3, g4, g5⟩ := each n (by omega)
        refine ⟨ps ++ [(.ref qa, v)], by rw [List.length_append, l]; rfl, fun i p e => ?_⟩
        by_cases c : i < ps.length
        · rw [List.getElem?_append_left c] at e
          exact h i p e
        · rw [List.getElem?_append_right (by omega)] at e
          have ci : i = n := by
            have := (List.getElem?_eq_some_iff.mp e).1
            rw [List.length_singleton] at this
            omega
          subst ci
          rw [l, Nat.sub_self] at e
          cases Option.some.inj e
          exact ⟨en, qa, k, v, g1, g2, g3, g4, g5, rfl⟩
    exact key _ (Nat.le_refl _)
  have la : as.length = kvs.length := k3.trans sz
  have nin : sq ∉ as := fun z => Nat.lt_irrefl _ (k4.above _ z)
  have ndA : as.Nodup := k4.rise.imp fun h => Nat.ne_of_lt h
  have size1 : s1.heap.objs.size < sq := by rw [esq, Heap.size_push]; exact Nat.lt_succ_self _
  have new : ∀ t ∈ as, H1 t = none := fun t ht => I1.hok.fresh (Nat.le_of_lt (Nat.lt_trans size1 (k4.above t ht)))
  have newS : H1 sq = none := I1.hok.fresh (Nat.le_of_lt size1)
  have off : ∀ b, b ∉ as → b ≠ sq → putP (upd H1 sq (.lst (as.map V.ref))) as ps b = H1 b := fun b h1 h2 => by rw [putP_off as ps _ h1, upd_ne h2]
  have kp : ∀ b u, H1 b = some u → putP (upd H1 sq (.lst (as.map V.ref))) as ps b = some u := fun b u e => by
    rw [off b (fun z => by rw [new b z] at e; cases e) (fun z => by rw [z, newS] at e; cases e)]
    exact e
  have eS : putP (upd H1 sq (.lst (as.map V.ref))) as ps sq = some (.lst (as.map V.ref)) := by rw [putP_off as ps _ nin, upd_same]
  have at' : ∀ (i : Nat) (t : Addr), as[i]? = some t → ∃ (en : DictEntry) (qa : Addr) (k : List Key) (v : V), kvs[i]? = some (k, v) ∧ es[i]? = some en ∧ en.key = .ref qa ∧ H1 qa = some (.tup (k.map kV)) ∧ RelV v en.val ∧ putP (upd H1 sq (.lst (as.map V.ref))) as ps t = some (.tup [.ref qa, v]) := fun i t e => by
    have hi : i < ps.length := by rw [pl, ← la]; exact (List.getElem?_eq_some_iff.mp e).1
    obtain ⟨en, qa, k, v, g1, g2, g3, g4, g5, g6⟩ := pp i ps[i] (List.getElem?_eq_getElem hi)
    have z := putP_at as ps (upd H1 sq (.lst (as.map V.ref))) i t ps[i] ndA e (List.getElem?_eq_getElem hi)
    rw [g6] at z
    exact ⟨en, qa, k, v, g1, g2, g3, g4, g5, z⟩
  have low : ∀ b o, (s1.heap.push { cls := .type "dict_items", data := .fields #[.ref d] }).get? b = some o → b ∉ as ∧ b ≠ sq := fun b o e => by
    have lt : b < sq := by rw [esq]; exact Heap.lt_size e
    exact ⟨fun z => absurd lt (Nat.not_lt.mpr (Nat.le_of_lt (k4.above b z))), Nat.ne_of_lt lt⟩
  have J : Inv X pins σ (putP (upd H1 sq (.lst (as.map V.ref))) as ps) { s1 with heap := h', toks := tk } := by
    refine I2.call' (ch := []) rfl ⟨fun b o q _ _ _ => k1 b o q, fun b o q _ _ _ => ⟨o.slots, k1 b o q⟩, fun b o q n _ => ?_, fun b o q _ => ⟨o, k1 b o q⟩, fun b xs q => kp b _ q, fun b o u q => kp b _ q, fun b ps q => ⟨#[], by rw [kp b _ q]; simp⟩⟩ (fun b u q => ?_) I2.bare fun b z => by simp at z
    · obtain ⟨z1, z2⟩ := low b o q
      rw [off b z1 z2]
      exact n
    · by_cases hb : b ∈ as
      · obtain ⟨j, hj⟩ := List.mem_iff_getElem?.mp hb
        obtain ⟨en, qa, k, v, g1, g2, g3, g4, g5, g6⟩ := at' j b hj
        rw [g6] at q
        cases q
        obtain ⟨e', f1, f2⟩ := k4.pairs j b hj
        rw [g2] at f1
        cases f1
        refine ⟨by show 2 ≤ sizeLine; decide, [en.key, en.val], .cons ?_ (.cons g5 .nil), ⟨_, f2, rfl, _, rfl⟩⟩
        rw [g3]
        rfl
      · by_cases hb2 : b = sq
        · rw [hb2] at q ⊢
          rw [eS] at q
          cases q
          refine ⟨by rw [List.length_map]; omega, acc.toList, c, by rw [k5]; exact LiI.vals_refs as, ?_⟩
          rw [Array.toArray_toList]
          exact k2
        · rw [off b hb hb2] at q
          exact (I2.hok b u q).stay (fun d v _ y => k1 d v y) (fun d y => kp d _ y) fun d xs y => kp d _ y
  refine ⟨.ref _, _, J, rfl, q _ sq as kp newS new nin eS la fun i t k v e1 e2 => ?_⟩
  obtain ⟨en, qa, k', v', g1, g2, g3, g4, g5, g6⟩ := at' i t e1
  rw [e2] at g1
  cases g1
  exact ⟨qa, g6, g4⟩
end
end Fb
set_option maxHeartbeats 2000000
/-! FcD: what is read of a box and of dicts that stand for themselves. -/
namespace Fb
open PySem PySem.Spec PyProof.Rows L2
variable [γ : GSt]
theorem encRp {K : PySem.W.Frag} {H : Hp} : ∀ kvs : List (List Int × Int), RpT K H (encV kvs) (enT kvs)
  | [] => .nil
  | p :: r => .cons (.int p.2) (encRp r)
/-! ### the dict that stands at a place -/
def eDe (fe : EF) : EF := fun ρ => match fe ρ with
  | some ⟨.rf a, _⟩ => (GSt.st a).map fun kvs => ⟨.dT (enT kvs), .top⟩
  | _ => none
section
variable {K : PySem.W.Frag} {X : Cx} {te : TE} {fe : EF} {e : Expr}
theorem eDe_some {ρ : En} {r : R} (h : eDe fe ρ = some r) : ∃ a m kvs, fe ρ = some ⟨.rf a, m⟩ ∧ GSt.st a = some kvs ∧ r = ⟨.dT (enT kvs), .top⟩ := by
  unfold eDe at h
  split at h
  · rename_i a m e1
    obtain ⟨kvs, e2, e3⟩ := Option.map_eq_some_iff.mp h
    exact ⟨a, m, kvs, e1, e2, e3.symm⟩
  · cases h
theorem rf_of {P : Addr → Prop} {H : Hp} {v : V} {a : Addr} {m : Md} (h : Opd K P H v ⟨.rf a, m⟩) : v = .ref a := by
  cases h.rp with
  | rf => rfl
theorem se_de (h : SemE K te fe) : SemE K te (eDe fe) := by
  intro Z σ H ρ r E e Q q
  obtain ⟨a, m, kvs, e1, e2, rfl⟩ := eDe_some e
  refine h Z σ H ρ _ E e1 _ fun v H1 s1 rv => ?_
  have ev := rf_of (rv.opd E.pok)
  subst ev
  exact q _ H1 s1 ⟨a, rfl, _, ((E.mono s1).zok.gh a kvs e2).2, encRp kvs⟩
theorem ge_de (h : GE K X e te fe) : GE K X e te (eDe fe) := ⟨h.p, se_de h.s⟩
/-! ### self.roll, self.kept -/
structure BxC (K : PySem.W.Frag) (c : Addr) : Prop where
  cl : Cls K c
  r : NoAttr K c "roll"
  k : NoAttr K c "kept"
def eFldR (c : Addr) (fe : EF) : EF := fun ρ => match fe ρ with
  | some ⟨.bx C roll k, m⟩ => if C = c ∧ m.ok = true then some ⟨.lst (roll.map .str), .av⟩ else none
  | _ => none
def eFldK (c : Addr) (fe : EF) : EF := fun ρ => match fe ρ with
  | some ⟨.bx C roll k, m⟩ => if C = c then some ⟨.rf k, .av⟩ else none
  | _ => none
theorem strsRp {H : Hp} : ∀ xs : List Str, RpL K H (xs.map V.str) (xs.map D.str)
  | [] => .nil
  | x :: r => .cons (.str x) (strsRp r)
theorem se_fldR {c : Addr} (b : BxC K c) (h : SemE K te fe) : SemE K (tFld K te "roll") (eFldR c fe) := by
  intro Z σ H ρ r E e Q q
  unfold eFldR at e
  split at e
  · rename_i C roll k m e1
    split at e
    · rename_i hc
      cases e
      obtain ⟨rfl, hm⟩ := hc
      refine h Z σ H ρ _ E e1 _ fun v H1 s1 rv => ?_
      have rr := (rv.opd E.pok).okR (E.mono s1).pok (by unfold okR; rw [hm]; rfl)
      cases rr with
      | bx h1 h2 => exact ⟨_, _, _, _, _, rfl, (hide_some.mp h1).2, b.cl, b.r, rfl, q _ H1 s1 (.lst h2 (strsRp roll))⟩
    · cases e
  · cases e
theorem se_fldK {c : Addr} (b : BxC K c) (h : SemE K te fe) : SemE K (tFld K te "kept") (eFldK c fe) := by
  intro Z σ H ρ r E e Q q
  unfold eFldK at e
  split at e
  · rename_i C roll k m e1
    split at e
    · rename_i hc
      cases e
      subst hc
      refine h Z σ H ρ _ E e1 _ fun v H1 s1 rv => ?_
      cases (rv.opd E.pok).rp with
      | bx h1 h2 => exact ⟨_, _, _, _, _, rfl, h1, b.cl, b.k, rfl, q _ H1 s1 (.rf k)⟩
    · cases e
  · cases e
theorem ge_fldR {c : Addr} {pos : Pos} (b : BxC K c) (h : GE K X e te fe) (hb : attributeBase e "roll" X.env (eval e X.env) = eval e X.env := by rfl) (eK : X.K = K := by rfl) : GE K X (.Attribute e "roll" pos) (tFld K te "roll") (eFldR c fe) := by
  subst eK
  exact ⟨pe_fld h.p hb, se_fldR b h.s⟩
theorem ge_fldK {c : Addr} {pos : Pos} (b : BxC K c) (h : GE K X e te fe) (hb : attributeBase e "kept" X.env (eval e X.env) = eval e X.env := by rfl) (eK : X.K = K := by rfl) : GE K X (.Attribute e "kept" pos) (tFld K te "kept") (eFldK c fe) := by
  subst eK
  exact ⟨pe_fld h.p hb, se_fldK b h.s⟩
/-! ### list(d.values()), list(d.items()) -/
def eLstVals (fe : EF) : EF := fun ρ => match fe ρ with
  | some ⟨.rf a, _⟩ => (GSt.st a).map fun kvs => ⟨.lst (kvs.map fun p => .int p.2), .fr⟩
  | _ => none
def itemD (p : List Int × Int) : D := .tup [.tup (p.1.map .int), .int p.2]
def eLstItems (fe : EF) : EF := fun ρ => match fe ρ with
  | some ⟨.rf a, _⟩ => (GSt.st a).map fun kvs => ⟨.lst (kvs.map itemD), .fr⟩
  | _ => none
theorem valsRp {H : Hp} : ∀ kvs : List (List Int × Int), RpL K H ((encV kvs).map (·.2)) (kvs.map fun p => .int p.2)
  | [] => .nil
  | p :: r => .cons (.int p.2) (valsRp r)
theorem se_lstVals (h : SemE K te fe) : SemE K (tLstVals te) (eLstVals fe) := by
  intro Z σ H ρ r E e Q q
  unfold eLstVals at e
  split at e
  · rename_i a m e1
    obtain ⟨kvs, e2, e3⟩ := Option.map_eq_some_iff.mp e
    subst e3
    refine h Z σ H ρ _ E e1 _ fun v H1 s1 rv => ?_
    have ev := rf_of (rv.opd E.pok)
    subst ev
    refine ⟨a, _, rfl, ((E.mono s1).zok.gh a kvs e2).2, fun p hp => q _ _ (s1.trans (same_upd hp)) ?_⟩
    exact Res.newL (b := true) s1.toSme hp (valsRp kvs) fun _ => valsRp kvs
  · cases e
theorem pairsRp {P : Addr → Prop} {H1 H' : Hp} (st : ∀ q xs, H1 q = some (.tup xs) → hide P H' q = some (.tup xs)) : ∀ (kvs : List (List Int × Int)) (ts : List Addr), ts.length = kvs.length →
    (∀ (i : Nat) (t : Addr) (k : List Key) (v : V), ts[i]? = some t → (encV kvs)[i]? = some (k, v) → ∃ q, hide P H' t = some (.tup [.ref q, v]) ∧ H1 q = some (.tup (k.map kV))) → RpL K (hide P H') (ts.map V.ref) (kvs.map itemD)
  | [], [], _, _ => .nil
  | [], _ :: _, h, _ => by simp at h
  | _ :: _, [], h, _ => by simp at h
  | p :: r, t :: ts, h, k => by
    obtain ⟨q, h1, h2⟩ := k 0 t (p.1.map Sum.inl) (.int p.2) rfl rfl
    refine .cons (.tup h1 (.cons (.tup (st _ _ h2) ?_) (.cons (.int p.2) .nil))) (pairsRp st r ts (by simpa using h) fun i t k' v e1 e2 => k (i + 1) t k' v (by simpa using e1) (by simpa [encV] using e2))
    rw [List.map_map]
    exact RpL.ofInts p.1
theorem se_lstItems (h : SemE K te fe) : SemE K (tLstItems te) (eLstItems fe) := by
  intro Z σ H ρ r E e Q q
  unfold eLstItems at e
  split at e
  · rename_i a m e1
    obtain ⟨kvs, e2, e3⟩ := Option.map_eq_some_iff.mp e
    subst e3
    refine h Z σ H ρ _ E e1 _ fun v H1 s1 rv => ?_
    have ev := rf_of (rv.opd E.pok)
    subst ev
    refine ⟨a, _, rfl, ((E.mono s1).zok.gh a kvs e2).2, fun H' p ts k1 k2 k3 k4 k5 k6 k7 => ?_⟩
    have s2 : Same K H1 H' := Same.of k1
    have P1 := (E.mono s1).pok
    have np : ∀ b, H1 b = none → ¬ Pz Z σ ρ b := fun b hb z => by
      obtain ⟨o, q⟩ := P1.there z
      rw [hb] at q
      cases q
    refine q _ _ (s1.trans s2) ⟨p, rfl, Sme.none s1.toSme k2, _, k5, pairsRp (H1 := H1) (fun q' xs z => ?_) kvs ts (by rw [k6]; unfold encV; rw [List.length_map]) fun i t k v f1 f2 => ?_⟩
    · have z' := k1 _ _ z
      refine hide_some.mpr ⟨fun c => ?_, z'⟩
      rcases c with c | c
      · exact (hide_some.mp (P1.stup.1 _ _ z)).1 c
      · rw [c, k2] at z
        cases z
    · obtain ⟨q', g1, g2⟩ := k7 i t k v f1 f2
      have mt := List.mem_of_getElem? f1
      refine ⟨q', hide_some.mpr ⟨fun c => ?_, g1⟩, g2⟩
      rcases c with c | c
      · exact np t (k3 t mt) c
      · exact k4 (by rw [← c]; exact mt)
  · cases e
variable {p apos cpos pos : Pos}
theorem ge_lstVals (hc : X.calm = true) (hm : X.mg "list" = none) (h : GE K X e te fe) (hg : Gl X "list" := by rfl) (hv : bootBuiltins "list" = some (.type "list") := by decide +kernel) (hbase : attributeBase e "values" X.env (eval e X.env) = eval e X.env := by rfl) (hline : (apos.endLine == cpos.line) = true := by rfl)
    (hs : starEach [.Call (.Attribute e "values" apos) [] [] cpos] X.env = (false, eval (.Call (.Attribute e "values" apos) [] [] cpos) X.env) :: starEach [] X.env := by rfl) :
    GE K X (.Call (.Name "list" p) [.Call (.Attribute e "values" apos) [] [] cpos] [] pos) (tLstVals te) (eLstVals fe) := ⟨pe_lstVals hc h.p hg hm hv hbase hline hs, se_lstVals h.s⟩
theorem ge_lstItems (hc : X.calm = true) (hm : X.mg "list" = none) (h : GE K X e te fe) (hg : Gl X "list" := by rfl) (hv : bootBuiltins "list" = some (.type "list") := by decide +kernel) (hbase : attributeBase e "items" X.env (eval e X.env) = eval e X.env := by rfl) (hline : (apos.endLine == cpos.line) = true := by rfl)
    (hs : starEach [.Call (.Attribute e "items" apos) [] [] cpos] X.env = (false, eval (.Call (.Attribute e "items" apos) [] [] cpos) X.env) :: starEach [] X.env := by rfl) :
    GE K X (.Call (.Name "list" p) [.Call (.Attribute e "items" apos) [] [] cpos] [] pos) (tLstItems te) (eLstItems fe) := ⟨pe_lstItems hc h.p hg hm hv hbase hline hs, se_lstItems h.s⟩
end
/-! ### defs that read such dicts, and boxes' methods -/
section
variable {K : PySem.W.Frag} {mg : Str → Option Value} {X : Cx}
/-- the promise of a def that reads such dicts -/
def spR (K : PySem.W.Frag) (mg : Str → Option Value) (n : Nat) (F : GSt → FF) : Sp := fun vs H Q E => ∃ g, spDg g K mg n (F g) vs H Q E
theorem fnR_of {P : Program} {w : World} {base : Heap} {CX : CXT} {k n : Nat} {f : Addr} {fd : FuncData} {ps : List Str} {F : GSt → FF} (h : ∀ g, FnOk P w K mg base CX k f fd ps (spDg g K mg n (F g))) : FnOk P w K mg base CX k f fd ps (spR K mg n F) :=
  ⟨fun vs H Q E ⟨g, q⟩ => (h g).len vs H Q E q, fun A st s H args us vs Q E hr e0 hb r ⟨g, q⟩ => (h g).run A st s H args us vs Q E hr e0 hb r q⟩
/-- met by arguments that lean on nothing kept apart -/
theorem spR_met {F : GSt → FF} {n : Nat} {Z : Addr → Prop} {σ : L2.St} {ρ : En} {H H1 : Hp} {vs : List V} {ds : List D} {o : Out} {Q : VK} {E0 : XK} (E1 : EnvOk K Z H1 σ ρ) (s1 : Same K H H1) (r1 : RpL K (hide (Pz Z σ ρ) H1) vs ds) (hn : ds.length = n) (e2 : F γ ds = some o)
    (q : OutMet K mg (Pz Z σ ρ) H Q E0 true o) (nn : ∀ d, o ≠ .nw d) : spR K mg n F vs H1 Q E0 := by
  refine ⟨γ, by rw [r1.length]; exact hn, E1.tab, Pz Z σ ρ, ds, o, E1.pok, r1, e2, ?_⟩
  cases o with
  | exc n => exact fun C hC H2 s2 t2 => q C hC H2 (s1.trans ⟨s2, fun _ => t2⟩)
  | nw d => exact absurd rfl (nn d)
  | val d fr =>
    intro v H2 ⟨s2', t2, r2⟩
    have s2 : Same K H1 H2 := ⟨s2', fun _ => t2⟩
    refine q v H2 (s1.trans s2) ?_
    unfold cMd
    rw [if_pos rfl]
    cases fr with
    | false => exact r2
    | true =>
      obtain ⟨a, k1, k2, k3⟩ := r2
      exact ⟨a, k1, Sme.none s1 k2, k3⟩
def valR : Option Out → Option R
  | some (.val d fr) => some ⟨d, if fr then .fr else .av⟩
  | _ => none
theorem valR_some {o : Option Out} {r : R} (h : valR o = some r) : ∃ d fr, o = some (.val d fr) ∧ r = ⟨d, cMd true fr d⟩ := by
  unfold valR at h
  split at h
  · rename_i d fr
    cases h
    exact ⟨d, fr, rfl, by unfold cMd; rw [if_pos rfl]⟩
  · cases h
def eCallR (G : FF) (fa : AF) : EF := fun ρ => (fa ρ).bind fun rs => if okL rs then valR (G (rs.map R.d)) else none
variable {F : GSt → FF} {n : Nat} {ta : TA} {fa : AF} {E0 : XK}
theorem se_callR (h : SemA K ta fa) (hn : ∀ ρ rs, fa ρ = some rs → rs.length = n) : SemE K (tCall (spR K mg n F) [] E0 ta) (eCallR (F γ) fa) := by
  intro Z σ H ρ r E e Q q
  obtain ⟨rs, e1, e⟩ := Option.bind_eq_some_iff.mp e
  split at e
  · rename_i hk
    obtain ⟨d, fr, e2, rfl⟩ := valR_some e
    refine h Z σ H ρ rs E e1 _ fun vs H1 s1 r1 => ?_
    rw [List.append_nil]
    exact spR_met (E.mono s1) s1 (r1.okL (E.mono s1).pok hk) (by rw [List.length_map]; exact hn ρ rs e1) e2 q fun _ z => nomatch z
  · cases e
variable {CX : CXT} {k : Nat} {f : Addr} {fd : FuncData} {ps : List Str} {x : Str} {p pos apos : Pos} {e o : Expr} {es : List Expr}
theorem ge_callR (G : FnOk X.prog X.w K mg X.base CX k f fd ps (spR K mg n F)) (hr : Room k X.A) (hm : mg x = some (.ref f)) (hk : PySem.W.keepIn K (.ref f) = true) (hb : Binds K fd ps []) (hx : Passes CX X E0) (ha : GA K X (e :: es) ta fa)
    (hn : ∀ ρ rs, fa ρ = some rs → rs.length = n) (hg : Gl X x := by rfl) (hdb : (x == ("__debug__" : Str)) = false := by decide) (he : starEach (e :: es) X.env = (false, eval e X.env) :: starEach es X.env := by rfl) (hpl : (backTo pos (starEach es X.env)).any (·.1) = false := by rfl) (eK : X.K = K := by rfl) (eM : X.mg = mg := by rfl) :
    GE K X (.Call (.Name x p) (e :: es) [] pos) (tCall (spR K mg n F) [] E0 ta) (eCallR (F γ) fa) := by
  subst eK eM
  exact ⟨pe_call G hr hg hm hk hb .nil hx ha.p hdb he hpl, se_callR ha.s hn⟩
/-! ### methods of a box -/
def bxOf (c : Addr) : Option R → Option D
  | some ⟨.bx C roll k, m⟩ => if C = c ∧ m.ok = true then some (.bx C roll k) else none
  | _ => none
theorem bxOf_some {c : Addr} {r : Option R} {d : D} (h : bxOf c r = some d) : ∃ roll k m, r = some ⟨.bx c roll k, m⟩ ∧ m.ok = true ∧ d = .bx c roll k := by
  unfold bxOf at h
  split at h
  · rename_i C roll k m
    split at h
    · rename_i hc
      cases h
      exact ⟨roll, k, m, by rw [hc.1], hc.2, by rw [hc.1]⟩
    · cases h
  · cases h
/-- the method of the class at c: which def it is, what it promises, what fills up -/
structure BM (P : Program) (w : World) (K : PySem.W.Frag) (mg : Str → Option Value) (base : Heap) (c : Addr) (CX : CXT) (k : Nat) (m : Str) (sp : Sp) (ds : List Value) : Prop where
  h : ∃ (f : Addr) (fd : FuncData) (ps : List Str), Cls K c ∧ Meth K c m f ∧ FnOk P w K mg base CX k f fd ps sp ∧ Binds K fd ps ds
def eBM (c : Addr) (G : FF) (dd : List D) (fo : EF) (fa : AF) : EF := fun ρ => (bxOf c (fo ρ)).bind fun b => (fa ρ).bind fun rs => if okL rs then valR (G (b :: (rs.map R.d ++ dd))) else none
theorem se_bm {c : Addr} {m : Str} {dvs : List V} {dd : List D} {to : TE} {fo : EF} (hm : m ≠ "roll" ∧ m ≠ "kept") (hd : ∀ H, RpL K H dvs dd) (ho : SemE K to fo) (h : SemA K ta fa) (hn : ∀ ρ rs, fa ρ = some rs → rs.length + dd.length + 1 = n) :
    SemE K (tMeth c m (spR K mg n F) dvs E0 to ta) (eBM c (F γ) dd fo fa) := by
  intro Z σ H ρ r E e Q q
  obtain ⟨b, e1, e⟩ := Option.bind_eq_some_iff.mp e
  obtain ⟨rs, e2, e⟩ := Option.bind_eq_some_iff.mp e
  obtain ⟨roll, k, mo, e3, hmo, rfl⟩ := bxOf_some e1
  split at e
  · rename_i hk
    obtain ⟨d, fr, e4, rfl⟩ := valR_some e
    refine ho Z σ H ρ _ E e3 _ fun x H1 s1 r1 => ?_
    have rr := (r1.opd E.pok).okR (E.mono s1).pok (by unfold okR; rw [hmo]; rfl)
    cases rr with
    | bx h1 h2 =>
      refine ⟨_, _, _, rfl, (hide_some.mp h1).2, ?_, ?_⟩
      · show List.lookup m [("roll", _), ("kept", _)] = none
        have n1 : (m == "roll") = false := by simpa using hm.1
        have n2 : (m == "kept") = false := by simpa using hm.2
        simp [List.lookup, n1, n2]
      · refine h Z σ H1 ρ rs (E.mono s1) e2 _ fun vs H2 s2 r2 => ?_
        have E2 := (E.mono s1).mono s2
        refine spR_met E2 (s1.trans s2) (.cons (Rp.mono (same_hide s2) _ _ (.bx h1 h2)) ((r2.okL E2.pok hk).append (hd _))) ?_ e4 q fun _ z => nomatch z
        rw [List.length_cons, List.length_append, List.length_map]
        exact hn ρ rs e2
  · cases e
theorem ge_bm {c : Addr} {m : Str} {ds : List Value} {dvs : List V} {dd : List D} {to : TE} {fo : EF} {pl : Sem Bool} (B : BM X.prog X.w K mg X.base c CX k m (spR K mg n F) ds) (hr : Room k X.A) (hdv : Vals dvs ds) (hd : ∀ H, RpL K H dvs dd) (hx : Passes CX X E0) (hm : m ≠ "roll" ∧ m ≠ "kept") (ho : GE K X o to fo) (ha : GA K X (e :: es) ta fa) (hn : ∀ ρ rs, fa ρ = some rs → rs.length + dd.length + 1 = n)
    (hst : starEach (e :: es) X.env = (false, eval e X.env) :: starEach es X.env := by rfl) (hpl : (backTo pos (starEach es X.env)).any (·.1) = false := by rfl)
    (ht : eval (.Call (.Attribute o m apos) (e :: es) [] pos) X.env = (do
      let ov ← eval o X.env
      standAt apos.atName
      let (f, first) ← holding [ov] (getMethod ov m pl)
      callWith pos f first (backTo pos (starEach (e :: es) X.env)) (backToKw pos (keywordEach [] X.env))) := by rfl) (eK : X.K = K := by rfl) (eM : X.mg = mg := by rfl) :
    GE K X (.Call (.Attribute o m apos) (e :: es) [] pos) (tMeth c m (spR K mg n F) dvs E0 to ta) (eBM c (F γ) dd fo fa) := by
  subst eK eM
  obtain ⟨f, fd, ps, hc, hm', hF, hb⟩ := B.h
  exact ⟨pe_meth (pl := pl) ho.p hc hm' hF hr hb hdv hx ha.p hst hpl ht, se_bm hm hd ho.s ha.s hn⟩
theorem ge_bm0 {c : Addr} {m : Str} {ds : List Value} {dvs : List V} {dd : List D} {to : TE} {fo : EF} {pl : Sem Bool} (B : BM X.prog X.w K mg X.base c CX k m (spR K mg n F) ds) (hr : Room k X.A) (hdv : Vals dvs ds) (hd : ∀ H, RpL K H dvs dd) (hx : Passes CX X E0) (hm : m ≠ "roll" ∧ m ≠ "kept") (ho : GE K X o to fo) (hn : dd.length + 1 = n)
    (ht : eval (.Call (.Attribute o m apos) [] [] pos) X.env = (do
      let ov ← eval o X.env
      standAt apos.atName
      let (f, first) ← holding [ov] (getMethod ov m pl)
      callWith pos f first (backTo pos (starEach [] X.env)) (backToKw pos (keywordEach [] X.env))) := by rfl) (eK : X.K = K := by rfl) (eM : X.mg = mg := by rfl) :
    GE K X (.Call (.Attribute o m apos) [] [] pos) (tMeth c m (spR K mg n F) dvs E0 to tNil) (eBM c (F γ) dd fo aNil) := by
  subst eK eM
  obtain ⟨f, fd, ps, hc, hm', hF, hb⟩ := B.h
  refine ⟨pe_meth0 (pl := pl) ho.p hc hm' hF hr hb hdv hx ht, se_bm hm hd ho.s sa_nil fun ρ rs e => ?_⟩
  cases e
  rw [List.length_nil, Nat.zero_add]
  exact hn
end
end Fb
set_option maxHeartbeats 2000000
/-! FcE: defs that change dicts that stand for themselves. -/
namespace Fb
open PySem PySem.Spec PyProof.Rows L2
abbrev FG := GSt → List D → Option (GSt × (D ⊕ Str))
def OutG (K : PySem.W.Frag) (mg : Str → Option Value) (g g' : GSt) (Z : Addr → Prop) (H : Hp) (Q : VK) (E : XK) : D ⊕ Str → Prop
  | .inl d => ∀ v H', Sme (hide (gd g) H) H' → TabsK K H' → @GIn g' (gd g') H' → bf g' (hide (gd g) H) → gmo g g' → Rp K (hide (zs g' Z) H') v d → Q v H'
  | .inr n => ∀ C, mg n = some (.ref C) → ∀ H', Sme (hide (gd g) H) H' → TabsK K H' → @GIn g' (gd g') H' → bf g' (hide (gd g) H) → gmo g g' → E (.ref C) none H'
def spG (K : PySem.W.Frag) (mg : Str → Option Value) (n : Nat) (F : FG) : Sp := fun vs H Q E => vs.length = n ∧ TabsK K H ∧ ∃ (g g' : GSt) (Z : Addr → Prop) (ds : List D) (o : D ⊕ Str), @POk g Z H ∧ RpL K (hide Z H) vs ds ∧ F g ds = some (g', o) ∧ OutG K mg g g' Z H Q E o
/-- a body as such a function -/
def fnG (m : Nat) (body : SG) : FG := fun g ds => match body g (ds.map .sh ++ List.replicate m .emp) with
  | some (g', .rt d false) => some (g', .inl d)
  | some (g', .nx _) => some (g', .inl .non)
  | some (g', .ex n) => some (g', .inr n)
  | _ => none
theorem pok_gd {g : GSt} {Z : Addr → Prop} {H : Hp} (h : @POk g Z H) (a : Addr) (q : gd g a) : Z a := by
  obtain ⟨kvs, q⟩ := q
  exact ((@POk.gh g _ _ h) a kvs q).1
theorem pok_zs {g : GSt} {Z : Addr → Prop} {H : Hp} (h : @POk g Z H) : @POk g (zs g Z) H := by
  letI := g
  refine ⟨fun a q => h a (q.elim id (pok_gd h a)), (POk.gh h).more fun _ => .inl⟩
section
variable {K : PySem.W.Frag} {mg : Str → Option Value} {P : Program} {w : World} {base : Heap}
theorem fng_want {g g' : GSt} {Z : Addr → Prop} {H : Hp} {Q : VK} {E : XK} {body : SG} {m : Nat} {ds : List D} {o : D ⊕ Str} (e : fnG m body g ds = some (g', o)) (q : OutG K mg g g' Z H Q E o) :
    ∃ fl, body g (ds.map .sh ++ List.replicate m .emp) = some (g', fl) ∧ WantG K (WN mg E) Z (hide (gd g) H) g g' { nx := fun _ H' => Q .non H', rt := Q } fl := by
  unfold fnG at e
  split at e
  · rename_i g1 d h
    cases e
    exact ⟨_, h, fun v H' r gi b k => q v H' r.1 r.2.1 gi b k r.2.2⟩
  · rename_i g1 ρ h
    cases e
    refine ⟨_, h, fun σ H' S b k => ?_⟩
    exact q .non H' (@StOk.base g' _ _ _ _ _ _ S) (@EnvOk.tab g' _ _ _ _ _ (@StOk.env g' _ _ _ _ _ _ S)) (gin_of S) b k .non
  · rename_i g1 n h
    cases e
    exact ⟨_, h, fun H' s t gi b k C hC => q C hC H' s t gi b k⟩
  · cases e
theorem fn_okG {x qual : Str} {st : Stmt} {f : Addr} {fd : FuncData} {N ps : List Str} {k m : Nat} {body : SG} (F : Fun K x qual st f fd) (S : FnScope N ps (defScope st)) (hm : N.length = ps.length + m)
    (hb : ∀ (cdv : Value) (A : Around) (outer : List Env) (s : Shared) (H : Hp) (E : XK), Room k (A.deeper (PyProof.Rows.envOfC qual (defScope st) s.heap.objs.size f cdv)) → ∃ t, GUs K (cxOf (L2.CX P w) P w K mg base N qual (defScope st) f cdv A outer s H E) (WN mg E) (defBody st) t body) :
    FnOk P w K mg base (L2.CX P w) (k + 1) f fd ps (spG K mg ps.length (fnG m body)) := by
  refine F.okX S (fun vs H Q E h => h.1) (fun cdv A outer s H vs Q E hr h => ?_)
  obtain ⟨hl, hT, g, g', Z, ds, o, hZ, hv, ho, q⟩ := h
  obtain ⟨t, gg⟩ := hb cdv A outer s H E hr
  obtain ⟨fl, e1, w1⟩ := fng_want ho q
  refine ⟨t, gg.p, ?_⟩
  letI := g
  have z1 := pok_zs hZ
  have v1 : RpL K (hide (zs g Z) H) vs ds := RpL.mono (hide_mono (fun b _ _ z => z.elim id (pok_gd hZ b)) fun _ _ _ z => z) _ _ hv
  have S0 : StOk K (zs g Z) H H (L2.start N vs) (ds.map .sh ++ List.replicate m .emp) := start_ok (by rw [hl]; exact hm) z1 hT v1
  exact gg.s Z (hide (gd g) H) g g' _ H _ fl (S0.rebase (hide_same H)) (fun a h => by unfold hide; exact if_pos h) e1 _ w1
end
/-! ### calls -/
section
variable {K : PySem.W.Frag} {mg : Str → Option Value} {X : Cx} {F : FG} {n : Nat} {E0 : XK}
theorem spG_met {g g' : GSt} {Z : Addr → Prop} {B H1 : Hp} {σ : L2.St} {ρ : En} {vs : List V} {ds : List D} {o : D ⊕ Str} {Q : VK} (S : @StOk g K (zs g Z) B H1 σ ρ) (fb : bf g B) (r1 : RpL K (hide (@Pz (zs g Z) σ ρ) H1) vs ds) (hn : ds.length = n) (e : F g ds = some (g', o))
    (w : WantE K (WN mg E0) Z B g g' σ ρ Q o) : spG K mg n F vs H1 Q E0 := by
  have E := @StOk.env g _ _ _ _ _ _ S
  refine ⟨by rw [r1.length]; exact hn, @EnvOk.tab g _ _ _ _ _ E, g, g', Pz (zs g Z) σ ρ, ds, o, @EnvOk.pok g _ _ _ _ _ E, r1, e, ?_⟩
  cases o with
  | inl d =>
    intro v H' s t gi b mo rv
    obtain ⟨S', b'⟩ := moved S fb s t gi b mo
    refine w v H' S' b' mo (Rp.mono (hide_mono (fun a _ _ z => ?_) fun _ _ _ z => z) _ _ rv)
    rcases z with (z | z) | z
    · exact .inl (.inl (.inl z))
    · exact .inr z
    · exact .inl (.inr z)
  | inr nm =>
    intro C hC H' s t gi b mo
    obtain ⟨S', b'⟩ := moved S fb s t gi b mo
    exact w H' (@StOk.base g' _ _ _ _ _ _ S') t gi b' mo C hC
abbrev AG := GSt → AF
/-- the call of such a def -/
def eGC (F : FG) (fa : AG) : EG := fun g ρ => (fa g ρ).bind fun rs => if okL rs then F g (rs.map R.d) else none
def eGM (c : Addr) (F : FG) (dd : List D) (fo : GSt → EF) (fa : AG) : EG := fun g ρ => (bxOf c (fo g ρ)).bind fun b => (fa g ρ).bind fun rs => if okL rs then F g (b :: (rs.map R.d ++ dd)) else none
variable {ta : TA} {fa : AG}
theorem sg_call (h : ∀ g, @SemA g K ta (fa g)) (hn : ∀ g ρ rs, fa g ρ = some rs → rs.length = n) : SemGE K (WN mg E0) (tCall (spG K mg n F) [] E0 ta) (eGC F fa) := by
  intro Z B g g' σ H ρ o S fb e Q w
  letI := g
  obtain ⟨rs, e1, e⟩ := Option.bind_eq_some_iff.mp e
  split at e
  · rename_i hk
    refine h g (zs g Z) σ H ρ rs S.env e1 _ fun vs H1 s1 r1 => ?_
    have S1 := S.mono s1
    rw [List.append_nil]
    exact spG_met S1 fb (r1.okL S1.env.pok hk) (by rw [List.length_map]; exact hn g ρ rs e1) e w
  · cases e
theorem sg_meth {c : Addr} {m : Str} {dvs : List V} {dd : List D} {to : TE} {fo : GSt → EF} (hm : m ≠ "roll" ∧ m ≠ "kept") (hd : ∀ H, RpL K H dvs dd) (ho : ∀ g, @SemE g K to (fo g)) (h : ∀ g, @SemA g K ta (fa g)) (hn : ∀ g ρ rs, fa g ρ = some rs → rs.length + dd.length + 1 = n) :
    SemGE K (WN mg E0) (tMeth c m (spG K mg n F) dvs E0 to ta) (eGM c F dd fo fa) := by
  intro Z B g g' σ H ρ o S fb e Q w
  letI := g
  obtain ⟨b, e1, e⟩ := Option.bind_eq_some_iff.mp e
  obtain ⟨rs, e2, e⟩ := Option.bind_eq_some_iff.mp e
  obtain ⟨roll, k, mo, e3, hmo, rfl⟩ := bxOf_some e1
  split at e
  · rename_i hk
    refine ho g (zs g Z) σ H ρ _ S.env e3 _ fun x H1 s1 r1 => ?_
    have S1 := S.mono s1
    have rr := (r1.opd S.env.pok).okR S1.env.pok (by unfold okR; rw [hmo]; rfl)
    cases rr with
    | bx h1 h2 =>
      refine ⟨_, _, _, rfl, (hide_some.mp h1).2, ?_, ?_⟩
      · show List.lookup m [("roll", _), ("kept", _)] = none
        have n1 : (m == "roll") = false := by simpa using hm.1
        have n2 : (m == "kept") = false := by simpa using hm.2
        simp [List.lookup, n1, n2]
      · refine h g (zs g Z) σ H1 ρ rs S1.env e2 _ fun vs H2 s2 r2 => ?_
        have S2 := S1.mono s2
        refine spG_met S2 fb (.cons (Rp.mono (same_hide s2) _ _ (.bx h1 h2)) ((r2.okL S2.env.pok hk).append (hd _))) ?_ e w
        rw [List.length_cons, List.length_append, List.length_map]
        exact hn g ρ rs e2
  · cases e
variable {CX : CXT} {k : Nat} {f : Addr} {fd : FuncData} {ps : List Str} {x : Str} {p pos apos : Pos} {e o : Expr} {es : List Expr}
theorem gg_call (G : FnOk X.prog X.w K mg X.base CX k f fd ps (spG K mg n F)) (hr : Room k X.A) (hm : mg x = some (.ref f)) (hk : PySem.W.keepIn K (.ref f) = true) (hb : Binds K fd ps []) (hx : Passes CX X E0) (ha : ∀ g, @GA g K X (e :: es) ta (fa g))
    (hn : ∀ g ρ rs, fa g ρ = some rs → rs.length = n) (hg : Gl X x := by rfl) (hdb : (x == ("__debug__" : Str)) = false := by decide) (he : starEach (e :: es) X.env = (false, eval e X.env) :: starEach es X.env := by rfl) (hpl : (backTo pos (starEach es X.env)).any (·.1) = false := by rfl) (eK : X.K = K := by rfl) (eM : X.mg = mg := by rfl) :
    GEx K X (WN mg E0) (.Call (.Name x p) (e :: es) [] pos) (tCall (spG K mg n F) [] E0 ta) (eGC F fa) := by
  subst eK eM
  exact ⟨pe_call G hr hg hm hk hb .nil hx (@GA.p gTriv _ _ _ _ _ (ha gTriv)) hdb he hpl, sg_call (fun g => @GA.s g _ _ _ _ _ (ha g)) hn⟩
theorem gg_meth {c : Addr} {m : Str} {ds : List Value} {dvs : List V} {dd : List D} {to : TE} {fo : GSt → EF} {pl : Sem Bool} (BB : BM X.prog X.w K mg X.base c CX k m (spG K mg n F) ds) (hr : Room k X.A) (hdv : Vals dvs ds) (hd : ∀ H, RpL K H dvs dd) (hx : Passes CX X E0) (hm : m ≠ "roll" ∧ m ≠ "kept") (ho : ∀ g, @GE g K X o to (fo g)) (ha : ∀ g, @GA g K X (e :: es) ta (fa g)) (hn : ∀ g ρ rs, fa g ρ = some rs → rs.length + dd.length + 1 = n)
    (hst : starEach (e :: es) X.env = (false, eval e X.env) :: starEach es X.env := by rfl) (hpl : (backTo pos (starEach es X.env)).any (·.1) = false := by rfl)
    (ht : eval (.Call (.Attribute o m apos) (e :: es) [] pos) X.env = (do
      let ov ← eval o X.env
      standAt apos.atName
      let (f, first) ← holding [ov] (getMethod ov m pl)
      callWith pos f first (backTo pos (starEach (e :: es) X.env)) (backToKw pos (keywordEach [] X.env))) := by rfl) (eK : X.K = K := by rfl) (eM : X.mg = mg := by rfl) :
    GEx K X (WN mg E0) (.Call (.Attribute o m apos) (e :: es) [] pos) (tMeth c m (spG K mg n F) dvs E0 to ta) (eGM c F dd fo fa) := by
  subst eK eM
  obtain ⟨f, fd, ps, hc, hm', hF, hb⟩ := BB.h
  exact ⟨pe_meth (pl := pl) (@GE.p gTriv _ _ _ _ _ (ho gTriv)) hc hm' hF hr hb hdv hx (@GA.p gTriv _ _ _ _ _ (ha gTriv)) hst hpl ht, sg_meth hm hd (fun g => @GE.s g _ _ _ _ _ (ho g)) (fun g => @GA.s g _ _ _ _ _ (ha g)) hn⟩
end
/-! ### statements with such expressions -/
section
variable {K : PySem.W.Frag} {X : Cx} {W : Str → Hp → Prop} {te : TE} {fe : EG} {e : Expr} {pos : Pos}
theorem gu_ret (h : GEx K X W e te fe) : GU K X W (.Return (some e) pos) (tRet te) (sRetG fe) := ⟨ps_ret h.p, ss_retG h.s⟩
theorem gu_expr (h : GEx K X W e te fe) (hs : swapsWith e none pos.line X.env = pure false := by rfl) : GU K X W (.Expr e pos) (tDrop te) (sDropG fe) := ⟨ps_expr h.p hs, ss_dropG h.s⟩
/-! ### a test of what a call gives -/
def sIfNN (fe : EG) (f h : SG) : SG := oG fe fun g ρ d => match d with
  | .non => h g ρ
  | _ => none
end
/-! ### d[k] = v -/
set_option warn.classDefReducibility false in
def gset (g : GSt) (a : Addr) (kvs : List (List Int × Int)) : GSt := ⟨fun b => if b = a then some kvs else g.st b⟩
theorem inl_inj {a b : List Int} : ((a.map Sum.inl : List Key) = b.map Sum.inl) ↔ a = b :=
  ⟨fun h => (List.map_inj_right fun x y q => Sum.inl.inj q).mp h, fun h => by rw [h]⟩
theorem encV_put (kvs : List (List Int × Int)) (k : List Int) (v : Int) : encV (putI kvs k v) = putK (encV kvs) (k.map Sum.inl) (.int v) := by
  unfold putI putK
  have ha : ((encV kvs).any fun kv => decide (kv.1 = (k.map Sum.inl : List Key))) = kvs.any fun kv => decide (kv.1 = k) := by
    unfold encV
    rw [List.any_map]
    exact congrArg (fun f => kvs.any f) (funext fun kv => by simp only [Function.comp]; exact decide_eq_decide.mpr inl_inj)
  rw [ha]
  split
  · unfold encV
    rw [List.map_map, List.map_map]
    refine List.map_congr_left fun kv _ => ?_
    by_cases c : kv.1 = k
    · simp [c]
    · have c' : ¬ ((kv.1.map Sum.inl : List Key) = k.map Sum.inl) := fun z => c (inl_inj.mp z)
      simp only [Function.comp, if_neg c, if_neg c']
  · unfold encV
    rw [List.map_append]
    rfl
def sGPut (fo : GSt → EF) (fk fv : GSt → EF) : SG := fun g ρ => match fv g ρ, fo g ρ, fk g ρ with
  | some ⟨.int n, _⟩, some ⟨.rf a, _⟩, some ⟨.tup ks, _⟩ => (intsD ks).bind fun q => (g.st a).bind fun kvs => if kvs.length < 100000 then some (gset g a (putI kvs q n), .nx ρ) else none
  | _, _, _ => none
section
variable {K : PySem.W.Frag} {X : Cx} {W : Str → Hp → Prop} {to tk tv : TE} {fo fk fv : GSt → EF} {o ke value : Expr} {pos sp : Pos}
theorem ss_gput (ho : ∀ g, @SemE g K to (fo g)) (hk : ∀ g, @SemE g K tk (fk g)) (hv : ∀ g, @SemE g K tv (fv g)) : SemGS K W (L2.sDPut to tk tv) (sGPut fo fk fv) := by
  intro Z B g g' σ H ρ fl S fb e Dn w
  letI := g
  unfold sGPut at e
  split at e
  · rename_i n mv a mo ks mk e1 e2 e3
    obtain ⟨q, e4, e⟩ := Option.bind_eq_some_iff.mp e
    obtain ⟨kvs, e5, e⟩ := Option.bind_eq_some_iff.mp e
    split at e
    · rename_i hl
      cases e
      have hks := intsD_some e4
      subst hks
      refine hv g (zs g Z) σ H ρ _ S.env e1 _ fun v H1 s1 r1 => ?_
      have ev : v = .int n := (r1.opd S.env.pok).int
      subst ev
      refine ho g (zs g Z) σ H1 ρ _ (S.mono s1).env e2 _ fun x H2 s2 r2 => ?_
      have ex := rf_of (r2.opd (S.mono s1).env.pok)
      subst ex
      refine hk g (zs g Z) σ H2 ρ _ ((S.mono s1).mono s2).env e3 _ fun y H3 s3 r3 => ?_
      have S3 := ((S.mono s1).mono s2).mono s3
      obtain ⟨t, us, rfl, k1, k2⟩ := (r3.opd ((S.mono s1).mono s2).env.pok).tupS
      rw [keysD_rp k2 (keysD_ints q)] at k1
      have gi := gin_of S3
      obtain ⟨_, ha⟩ := gi a kvs e5
      have ga : gd g a := ⟨kvs, e5⟩
      refine ⟨a, _, rfl, DPut.t ha k1 (by unfold encV; rw [List.length_map]; exact Nat.lt_trans hl (by decide)), ?_⟩
      have nb : ∀ b, b ≠ a → (upd H3 a (.dT (putK (encV kvs) (q.map Sum.inl) (.int n)))) b = H3 b := fun b c => upd_ne c
      have e6 : Sme (hide (gd g) H3) (upd H3 a (.dT (putK (encV kvs) (q.map Sum.inl) (.int n)))) := Sme.of fun b ob z => by
        obtain ⟨z1, z2⟩ := hide_some.mp z
        rw [nb b fun c => z1 (by rw [c]; exact ga)]
        exact z2
      have gg : ∀ b, gd (gset g a (putI kvs q n)) b ↔ gd g b := fun b => by
        constructor
        · rintro ⟨l, z⟩
          by_cases c : b = a
          · rw [c]; exact ga
          · exact ⟨l, by rw [← z]; show _ = (if b = a then _ else _); rw [if_neg c]⟩
        · rintro ⟨l, z⟩
          by_cases c : b = a
          · exact ⟨_, by show (if b = a then _ else _) = _; rw [if_pos c]⟩
          · exact ⟨l, by show (if b = a then _ else _) = _; rw [if_neg c]; exact z⟩
      have gi' : @GIn (gset g a (putI kvs q n)) (gd (gset g a (putI kvs q n))) (upd H3 a (.dT (putK (encV kvs) (q.map Sum.inl) (.int n)))) := fun b l z => by
        refine ⟨⟨l, z⟩, ?_⟩
        have z' : (if b = a then some (putI kvs q n) else g.st b) = some l := z
        by_cases c : b = a
        · rw [if_pos c] at z'
          cases z'
          rw [c, upd_same, encV_put]
        · rw [if_neg c] at z'
          rw [nb b c]
          exact (gi b l z').2
      obtain ⟨S4, b4⟩ := moved S3 fb e6 (S3.env.tab.upd ha trivial) gi' (fun b z => by unfold hide; exact if_pos ((gg b).mp z)) fun b z => (gg b).mpr z
      exact w σ _ S4 b4 fun b z => (gg b).mpr z
    · cases e
  · cases e
theorem gu_gput (hr : X.A.units + 1 < cLine) (ho : ∀ g, @GE g K X o to (fo g)) (hk : ∀ g, @GE g K X ke tk (fk g)) (hv : ∀ g, @GE g K X value tv (fv g)) (hs : swapsWith value (some (.Subscript o ke sp)) pos.line X.env = pure false := by rfl) :
    GU K X W (.Assign [.Subscript o ke sp] value pos) (L2.sDPut to tk tv) (sGPut fo fk fv) := ⟨ps_dput hr (@GE.p gTriv _ _ _ _ _ (ho gTriv)) (@GE.p gTriv _ _ _ _ _ (hk gTriv)) (@GE.p gTriv _ _ _ _ _ (hv gTriv)) hs, ss_gput (fun g => @GE.s g _ _ _ _ _ (ho g)) (fun g => @GE.s g _ _ _ _ _ (hk g)) fun g => @GE.s g _ _ _ _ _ (hv g)⟩
end
end Fb
set_option maxHeartbeats 2000000
/-! FcF: loops, tests over what changes such dicts. -/
namespace Fb
open PySem PySem.Spec PyProof.Rows L2
theorem EnvOk.triv {g : GSt} {K : PySem.W.Frag} {Z : Addr → Prop} {H : Hp} {σ : L2.St} {ρ : En} (E : @EnvOk g K Z H σ ρ) : @EnvOk gTriv K Z H σ ρ :=
  @EnvOk.mk gTriv K Z H σ ρ (@EnvOk.len g _ _ _ _ _ E) (@EnvOk.sh g _ _ _ _ _ E) (@EnvOk.own g _ _ _ _ _ E) (@EnvOk.inj g _ _ _ _ _ E) (@POk.triv g _ _ (@EnvOk.zok g _ _ _ _ _ E)) (@EnvOk.zdis g _ _ _ _ _ E) (@EnvOk.tab g _ _ _ _ _ E)
def loopG (tgt : GF) (body : SG) : List D → GSt → En → Option (GSt × Fl)
  | [], g, ρ => some (g, .nx ρ)
  | d :: r, g, ρ => (tgt ⟨d, .av⟩ ρ).bind fun ρ1 => match body g ρ1 with
    | some (g', .nx ρ2) => loopG tgt body r g' ρ2
    | some (g', .ct ρ2) => loopG tgt body r g' ρ2
    | some (g', .bk ρ2) => some (g', .nx ρ2)
    | some (g', .rt d fr) => some (g', .rt d fr)
    | some (g', .ex n) => some (g', .ex n)
    | _ => none
def sForG (fi : IF) (tgt : GF) (body : SG) : SG := fun g ρ => (fi ρ).bind fun ds => loopG tgt body ds g ρ
section
variable {K : PySem.W.Frag} {W : Str → Hp → Prop} {X : Cx} {wi : TI} {fi : IF} {gt : TG} {tgt : GF} {tb : TS} {body : SG}
theorem WantG.base {Z : Addr → Prop} {B B' : Hp} {g g' : GSt} {Dn : Ends} {fl : Fl} (s : Sme B B') (fb : bf g B) (w : WantG K W Z B g g' Dn fl) (nb : bf g' B' → bf g' B) : WantG K W Z B' g g' Dn fl := by
  cases fl with
  | nx ρ => exact fun σ H S b k => w σ H (@StOk.rebase g' _ _ _ _ _ _ _ s S) (nb b) k
  | bk ρ => exact fun σ H S b k => w σ H (@StOk.rebase g' _ _ _ _ _ _ _ s S) (nb b) k
  | ct ρ => exact fun σ H S b k => w σ H (@StOk.rebase g' _ _ _ _ _ _ _ s S) (nb b) k
  | rt d fr => exact fun v H q gi b k => w v H (q.base s) gi (nb b) k
  | ex n => exact fun H q t gi b k => w H (s.trans q) t gi (nb b) k
  | rn d => exact w.elim
theorem ss_forG (hi : @SemI gTriv K wi fi) (hg : ∀ g, @SemG g K gt tgt) (hb : SemGS K W tb body) : SemGS K W (tFor wi gt tb) (sForG fi tgt body) := by
  intro Z B g g' σ H ρ fl S fb e Dn w
  obtain ⟨ds, e1, e⟩ := Option.bind_eq_some_iff.mp e
  refine hi (zs g Z) σ H ρ ds (EnvOk.triv (@StOk.env g _ _ _ _ _ _ S)) e1 _ fun J H1 s1 jok => ?_
  have S1 := @StOk.mono g _ _ _ _ _ _ _ s1 S
  have E1 := @StOk.env g _ _ _ _ _ _ S1
  let G0 : Hp := hide (Pz (zs g Z) σ ρ) H1
  -- what the loop must leave as it is
  let B' : Hp := hide (fun a => Ow σ ρ a ∨ gd g a) H1
  have sB : Sme B B' := (@StOk.base g _ _ _ _ _ _ S1).hideN fun a z => z.elim (@StOk.free g _ _ _ _ _ _ S1 a) (fb a)
  have sG : Sme G0 B' := hide_mono (fun b _ _ q => q.elim .inr fun q => .inl (.inr q)) fun _ _ _ q => q
  have bB' : bf g B' := fun a q => by
    show hide _ H1 a = none
    unfold hide
    exact if_pos (.inr q)
  have S2 : @StOk g K (zs g Z) B' H1 σ ρ := @StOk.mk g _ _ _ _ _ _ E1 (hide_same H1) fun a q => by
    show hide _ H1 a = none
    unfold hide
    exact if_pos (.inl q)
  have w' : WantG K W Z B' g g' Dn fl := WantG.base sB fb w fun b a q => Sme.none sB (b a q)
  have gst : ∀ {g2 : GSt} {σ' : L2.St} {H' : Hp} {ρ' : En}, @StOk g2 K (zs g2 Z) B' H' σ' ρ' → bf g2 B' → Sme G0 (hide (Pz (zs g2 Z) σ' ρ') H') := fun {g2 σ' H' ρ'} S' b' => (Sme.trans sG (@StOk.base g2 _ _ _ _ _ _ S')).hideN fun b z => by
    rcases z with (z | z) | z
    · show hide _ H1 b = none
      unfold hide
      exact if_pos (.inl (.inl z))
    · exact sG.none (b' b z)
    · exact sG.none (@StOk.free g2 _ _ _ _ _ _ S' b z)
  refine ⟨fun i m σ' H' => m = ds.length - i ∧ i ≤ ds.length ∧ ∃ g2 ρ', @StOk g2 K (zs g2 Z) B' H' σ' ρ' ∧ bf g2 B' ∧ gmo g g2 ∧ loopG tgt body (ds.drop i) g2 ρ' = some (g', fl), ⟨ds.length, by simp, Nat.zero_le _, g, ρ, S2, bB', gmo.refl g, e⟩, ?_⟩
  rintro i m σ' H' ⟨rfl, hi, g2, ρ', S', b', mo, e'⟩
  have sGH : Sme G0 H' := Sme.trans sG (@StOk.base g2 _ _ _ _ _ _ S')
  by_cases hlt : i < ds.length
  · rw [List.drop_eq_getElem_cons hlt] at e'
    unfold loopG at e'
    obtain ⟨ρ1, e2, e'⟩ := Option.bind_eq_some_iff.mp e'
    refine .inr ⟨@JOk2.go gTriv _ _ _ _ _ jok i H' hlt sGH, fun σ2 H2 => ∃ g3 ρ2, @StOk g3 K (zs g3 Z) B' H2 σ2 ρ2 ∧ bf g3 B' ∧ gmo g g3 ∧ loopG tgt body (ds.drop (i + 1)) g3 ρ2 = some (g', fl), fun σ2 H2 ⟨g3, ρ2, k1, k2, k3, k4⟩ => ⟨ds.length - (i + 1), by omega, rfl, hlt, g3, ρ2, k1, k2, k3, k4⟩, fun x H2 y => ?_⟩
    obtain ⟨s2, r2⟩ := @JOk2.yld gTriv _ _ _ _ _ jok i ds[i] H' x H2 (List.getElem?_eq_getElem hlt) sGH y
    have r3 := r2 (Pz (zs g2 Z) σ' ρ') (@POk.triv g2 _ _ (@EnvOk.pok g2 _ _ _ _ _ (@StOk.env g2 _ _ _ _ _ _ S'))) (gst S' b')
    refine hg g2 (zs g2 Z) B' σ' H2 ρ' ρ1 x ⟨ds[i], .av⟩ (@StOk.mono g2 _ _ _ _ _ _ _ s2 S') r3 e2 _ fun σ3 S3 => ?_
    cases q : body g2 ρ1 with
    | none => rw [q] at e'; cases e'
    | some p =>
      obtain ⟨g3, f⟩ := p
      rw [q] at e'
      refine hb Z B' g2 g3 σ3 H2 ρ1 f S3 b' q _ ?_
      cases f with
      | nx ρ2 => exact fun σ4 H4 S4 b4 k4 => ⟨g3, ρ2, S4, b4, mo.trans k4, e'⟩
      | ct ρ2 => exact fun σ4 H4 S4 b4 k4 => ⟨g3, ρ2, S4, b4, mo.trans k4, e'⟩
      | bk ρ2 => cases e'; exact fun σ4 H4 S4 b4 k4 => w' σ4 H4 S4 b4 (mo.trans k4)
      | rt d fr => cases e'; exact fun v H4 r gi b4 k4 => w' v H4 r gi b4 (mo.trans k4)
      | ex n => cases e'; exact fun H4 s4 t4 gi b4 k4 => w' H4 s4 t4 gi b4 (mo.trans k4)
      | rn d => cases e'
  · have : i = ds.length := by omega
    subst this
    rw [List.drop_length] at e'
    cases e'
    exact .inl ⟨@JOk2.stop gTriv _ _ _ _ _ jok _ H' (Nat.le_refl _) sGH, w' σ' H' S' b' mo⟩
theorem gu_for {tg iter : Expr} {bd : List Stmt} {pos : Pos} (hp : PassesOwn (model X.prog X.w) X.A X.env X.xe) (hc : X.calm = true) (hi : @GI gTriv K X tg iter wi fi) (hg : ∀ g, @GG g K X tg gt tgt) (hb : GUs K X W bd tb body)
    (hs : ∀ x, foldedSetIterable iter X.env x = pure x := by intro _; rfl) : GU K X W (.For tg iter bd [] pos) (tFor wi gt tb) (sForG fi tgt body) := ⟨ps_for hp hc (@GI.p gTriv _ _ _ _ _ _ hi) (@GG.p gTriv _ _ _ _ _ (hg gTriv)) hb.p hs, ss_forG (@GI.s gTriv _ _ _ _ _ _ hi) (fun g => @GG.s g _ _ _ _ _ (hg g)) hb.s⟩
end
/-! ### if f(..) is not None: .. -/
section
variable {K : PySem.W.Frag} {W : Str → Hp → Prop} {X : Cx} {te : TE} {fe : EG} {t u : TS} {f h : SG} {e : Expr} {a b : List Stmt} {pos cpos npos : Pos} {j : Nat}
theorem ss_ifNN (he : SemGE K W te fe) (h2 : SemGS K W u h) : SemGS K W (tIfS (tTest (tOp rNotN te (tC .non))) t u) (sIfNN fe f h) := by
  intro Z B g g' σ H ρ fl S fb e Dn w
  rcases oG_some e with ⟨g1, d, e1, e2⟩ | ⟨n, e1, rfl⟩
  · refine he Z B g g1 σ H ρ _ S fb e1 _ fun v H' S' b' mo rv => ?_
    split at e2
    · cases rv with
      | non =>
        refine ⟨rfl, false, by simp, ?_⟩
        show if false = true then _ else _
        rw [if_neg Bool.false_ne_true]
        exact h2 Z B g1 g' σ H' ρ fl S' b' e2 Dn (w.le mo)
    · cases e2
  · exact he Z B g g' σ H ρ _ S fb e1 _ w
theorem gu_ifNN (he : GEx K X W e te fe) (h1 : GUs K X W a t f) (h2 : GUs K X W b u h) (hm : behindInMarks .IsNot (.Constant .none j npos) = false := by first | exact nomark _ | rfl) : GU K X W (.If (.Compare e [.IsNot] [.Constant .none j npos] cpos) a b pos) (tIfS (tTest (tOp rNotN te (tC .non))) t u) (sIfNN fe f h) :=
  ⟨ps_if (pt_cmpR op_notN1 he.p (@GE.p gTriv K X _ _ _ (@ge_non gTriv K X _ _)) hm) h1.p h2.p, ss_ifNN he.s h2.s⟩
end
end Fb
set_option maxHeartbeats 2000000
/-! FcG: texts: find, join, split; list.index; for over a text. -/
namespace Fb
open PySem PySem.Spec PyProof.Rows L2
variable [γ : GSt]
def eFind (fo fe : EF) : EF := fun ρ => match fo ρ, fe ρ with
  | some ⟨.str a, _⟩, some ⟨.str b, _⟩ => some ⟨.int (Txt.find a b), .av⟩
  | _, _ => none
def strsD : List D → Option (List Str)
  | [] => some []
  | .str x :: r => (strsD r).map (x :: ·)
  | _ => none
@[simp] theorem strsD_map : ∀ xs : List Str, strsD (xs.map D.str) = some xs
  | [] => rfl
  | x :: r => by
    show (strsD (r.map D.str)).map (x :: ·) = _
    rw [strsD_map r]
    rfl
theorem strsD_some : ∀ {ds : List D} {xs : List Str}, strsD ds = some xs → ds = xs.map D.str
  | [], xs, h => by cases h; rfl
  | .str x :: r, xs, h => by
    obtain ⟨ys, h1, h2⟩ := Option.map_eq_some_iff.mp h
    subst h2
    rw [strsD_some h1]
    rfl
  | .non :: _, _, h => by cases h
  | .bl _ :: _, _, h => by cases h
  | .int _ :: _, _, h => by cases h
  | .tup _ :: _, _, h => by cases h
  | .lst _ :: _, _, h => by cases h
  | .dT _ :: _, _, h => by cases h
  | .dK _ :: _, _, h => by cases h
  | .obj _ :: _, _, h => by cases h
  | .exc _ :: _, _, h => by cases h
  | .ro _ :: _, _, h => by cases h
  | .rf _ :: _, _, h => by cases h
  | .bx _ _ _ :: _, _, h => by cases h
theorem RpL.strs {K : PySem.W.Frag} {H : Hp} : ∀ {vs : List V} {xs : List Str}, RpL K H vs (xs.map D.str) → vs = xs.map V.str
  | vs, [], h => by cases h; rfl
  | vs, n :: ns, h => by
    cases h with
    | cons r t => cases r; rw [RpL.strs t]; rfl
def eJoin (fo fe : EF) : EF := fun ρ => match fo ρ, fe ρ with
  | some ⟨.str a, _⟩, some ⟨.lst ds, _⟩ => (strsD ds).bind fun ys => if (ys.map (·.length)).sum + ys.length * a.length ≤ 100000 then some ⟨.str (Txt.join a ys), .av⟩ else none
  | _, _ => none
def eSplit (fo fe : EF) : EF := fun ρ => match fo ρ, fe ρ with
  | some ⟨.str a, _⟩, some ⟨.str b, _⟩ => if (b.length == 0) = false ∧ a.length ≤ 100000 then some ⟨.lst ((Txt.split a b).map .str), .fr⟩ else none
  | _, _ => none
/-- where it is first -/
def idxD (d : D) : List D → Option Nat
  | [] => none
  | e :: r => if eqA e d = true then some 0 else (idxD d r).map (· + 1)
def eIndex (fo fe : EF) : EF := fun ρ => match fo ρ, fe ρ with
  | some ⟨.lst ds, _⟩, some ⟨d, _⟩ => if atom d && ds.all atom then (idxD d ds).map fun (j : Nat) => ⟨.int (j : Int), .av⟩ else none
  | _, _ => none
theorem idxD_at {d : D} : ∀ {ds : List D} {j : Nat}, idxD d ds = some j → (∃ e, ds[j]? = some e ∧ eqA e d = true) ∧ ∀ m e, m < j → ds[m]? = some e → eqA e d = false
  | [], j, h => by cases h
  | e :: r, j, h => by
    unfold idxD at h
    split at h
    · rename_i c
      cases h
      exact ⟨⟨e, rfl, c⟩, fun m e h => absurd h (Nat.not_lt_zero _)⟩
    · rename_i c
      obtain ⟨i, h1, h2⟩ := Option.map_eq_some_iff.mp h
      subst h2
      obtain ⟨k1, k2⟩ := idxD_at h1
      refine ⟨k1, fun m e' hm he => ?_⟩
      cases m with
      | zero =>
        cases Option.some.inj he
        exact Bool.eq_false_iff.mpr c
      | succ m => exact k2 m e' (by omega) he
section
variable {K : PySem.W.Frag} {X : Cx} {to te : TE} {fo fe : EF} {o e : Expr} {apos pos : Pos}
def rFind : V → List V → Hp → VK → Prop := fun x xs H Q => ∃ a b, x = .str a ∧ xs = [.str b] ∧ Q (.int (Txt.find a b)) H
theorem se_find (ho : SemE K to fo) (he : SemE K te fe) : SemE K (tM1 rFind to te) (eFind fo fe) := by
  intro Z σ H ρ r E h Q q
  unfold eFind at h
  split at h
  · rename_i a m b n e1 e2
    cases h
    refine ho Z σ H ρ _ E e1 _ fun v H1 s1 r1 => ?_
    have ev : v = .str a := (r1.opd E.pok).str
    subst ev
    refine ⟨⟨a, rfl⟩, he Z σ H1 ρ _ (E.mono s1) e2 _ fun u H2 s2 r2 => ?_⟩
    have eu : u = .str b := (r2.opd (E.mono s1).pok).str
    subst eu
    exact ⟨a, b, rfl, rfl, q _ H2 (s1.trans s2) (.int _)⟩
  · cases h
theorem ge_find (ho : GE K X o to fo) (he : GE K X e te fe) (hs : starEach [e] X.env = [(false, eval e X.env)] := by rfl) (hbase : attributeBase o "find" X.env (eval o X.env) = eval o X.env := by rfl) (hline : (apos.endLine == pos.line) = true := by rfl) :
    GE K X (.Call (.Attribute o "find" apos) [e] [] pos) (tM1 rFind to te) (eFind fo fe) := ⟨pe_m1 F.slot_str_find F.type_str_find mt_find ho.p he.p hs hbase hline, se_find ho.s he.s⟩
def rJoin (K : PySem.W.Frag) : V → List V → Hp → VK → Prop := fun x xs H Q => ∃ a p, ∃ ys : List Str, x = .str a ∧ xs = [.ref p] ∧ (SqL K H p (ys.map V.str) ∨ SqT K H p (ys.map V.str)) ∧ (ys.map (·.length)).sum + ys.length * a.length ≤ 16777216 ∧ Q (.str (Txt.join a ys)) H
theorem se_join (ho : SemE K to fo) (he : SemE K te fe) : SemE K (tM1 (rJoin K) to te) (eJoin fo fe) := by
  intro Z σ H ρ r E h Q q
  unfold eJoin at h
  split at h
  · rename_i a m ds n e1 e2
    obtain ⟨ys, e3, h⟩ := Option.bind_eq_some_iff.mp h
    split at h
    · rename_i hl
      cases h
      have eds := strsD_some e3
      subst eds
      refine ho Z σ H ρ _ E e1 _ fun v H1 s1 r1 => ?_
      have ev : v = .str a := (r1.opd E.pok).str
      subst ev
      refine ⟨⟨a, rfl⟩, he Z σ H1 ρ _ (E.mono s1) e2 _ fun u H2 s2 r2 => ?_⟩
      obtain ⟨p, vs, rfl, k1, k2, _⟩ := Opd.lst (r2.opd (E.mono s1).pok)
      rw [k2.strs] at k1
      exact ⟨a, p, ys, rfl, rfl, .inl (SqL.of k1), Nat.le_trans hl (by decide), q _ H2 (s1.trans s2) (.str _)⟩
    · cases h
  · cases h
theorem ge_join (ho : GE K X o to fo) (he : GE K X e te fe) (hs : starEach [e] X.env = [(false, eval e X.env)] := by rfl) (hbase : attributeBase o "join" X.env (eval o X.env) = eval o X.env := by rfl) (hline : (apos.endLine == pos.line) = true := by rfl) (eK : X.K = K := by rfl) :
    GE K X (.Call (.Attribute o "join" apos) [e] [] pos) (tM1 (rJoin K) to te) (eJoin fo fe) := by
  subst eK
  exact ⟨pe_join ho.p he.p hs hbase hline, se_join ho.s he.s⟩
def rSplit : V → List V → Hp → VK → Prop := fun x xs H Q => ∃ a b, x = .str a ∧ xs = [.str b] ∧ (b.length == 0) = false ∧ a.length + 2 ≤ sizeLine ∧ rNewStrs (Txt.split a b) H Q
theorem se_split (ho : SemE K to fo) (he : SemE K te fe) : SemE K (tM1 rSplit to te) (eSplit fo fe) := by
  intro Z σ H ρ r E h Q q
  unfold eSplit at h
  split at h
  · rename_i a m b n e1 e2
    split at h
    · rename_i hl
      cases h
      refine ho Z σ H ρ _ E e1 _ fun v H1 s1 r1 => ?_
      have ev : v = .str a := (r1.opd E.pok).str
      subst ev
      refine ⟨⟨a, rfl⟩, he Z σ H1 ρ _ (E.mono s1) e2 _ fun u H2 s2 r2 => ?_⟩
      have eu : u = .str b := (r2.opd (E.mono s1).pok).str
      subst eu
      refine ⟨a, b, rfl, rfl, hl.1, Nat.le_trans (Nat.add_le_add_right hl.2 2) (by rw [sizeLine_eq]; decide), fun p hp => ?_⟩
      exact q _ _ ((s1.trans s2).trans (same_upd hp)) (Res.newL (b := true) (s1.trans s2).toSme hp (strsRp _) fun _ => strsRp _)
    · cases h
  · cases h
theorem ge_split (ho : GE K X o to fo) (he : GE K X e te fe) (hs : starEach [e] X.env = [(false, eval e X.env)] := by rfl) (hbase : attributeBase o "split" X.env (eval o X.env) = eval o X.env := by rfl) (hline : (apos.endLine == pos.line) = true := by rfl) :
    GE K X (.Call (.Attribute o "split" apos) [e] [] pos) (tM1 rSplit to te) (eSplit fo fe) := ⟨pe_split ho.p he.p hs hbase hline, se_split ho.s he.s⟩
theorem se_index (ho : SemE K to fo) (he : SemE K te fe) : SemE K (tBM K "list" (rIndex K) to (tCons te tNil)) (eIndex fo fe) := by
  intro Z σ H ρ r E h Q q
  unfold eIndex at h
  split at h
  · rename_i ds m d n e1 e2
    split at h
    · rename_i hf
      rw [Bool.and_eq_true] at hf
      obtain ⟨j, e3, h⟩ := Option.map_eq_some_iff.mp h
      subst h
      refine ho Z σ H ρ _ E e1 _ fun v H1 s1 r1 => ?_
      have o1 := r1.opd E.pok
      obtain ⟨p, vs, rfl, k1, k2, _⟩ := Opd.lst o1
      refine ⟨.inl ⟨rfl, _, SqL.of k1⟩, he Z σ H1 ρ _ (E.mono s1) e2 _ fun u H2 s2 r2 => ?_⟩
      have ru := (r2.opd (E.mono s1).pok).rp
      obtain ⟨⟨e', g1, g2⟩, g3⟩ := idxD_at e3
      have k2' := RpL.mono s2.toSme _ _ k2
      obtain ⟨z, z1, z2⟩ := k2'.get g1
      have ae := List.all_eq_true.mp hf.2
      refine ⟨p, vs, u, j, z, rfl, rfl, SqL.of (s2 _ _ k1), flat_of ru hf.1, flats_of k2' hf.2, z1, ?_, fun i z' hi hz => ?_, q _ H2 (s1.trans s2) (.int _)⟩
      · rw [eqV_of z2 ru (ae _ (List.mem_of_getElem? g1)) hf.1]
        exact g2
      · obtain ⟨e2', y1, y2⟩ := k2'.get' hz
        rw [eqV_of y2 ru (ae _ (List.mem_of_getElem? y1)) hf.1]
        exact g3 i e2' hi y1
    · cases h
  · cases h
theorem ge_index (ho : GE K X o to fo) (he : GE K X e te fe) (hbase : attributeBase o "index" X.env (eval o X.env) = eval o X.env := by rfl)
    (hfew : ((backTo pos (starEach [e] X.env)).all (fun x => !x.1) && (backToKw pos (keywordEach [] X.env)).all (fun x => x.1.isSome) && decide (([e] : List Expr).length + ([] : List Keyword).length + (if ([] : List Keyword).isEmpty then 0 else 1) < 30)) = true := by rfl)
    (hline : (apos.endLine == pos.line) = true := by rfl) (hs : starEach [e] X.env = (false, eval e X.env) :: starEach [] X.env := by rfl) (hplain : (backTo pos (starEach [] X.env)).any (·.1) = false := by rfl) (eK : X.K = K := by rfl) :
    GE K X (.Call (.Attribute o "index" apos) [e] [] pos) (tBM K "list" (rIndex K) to (tCons te tNil)) (eIndex fo fe) := by
  subst eK
  exact ⟨pe_bm PySem.F.plainAttrs_list PySem.F.slot_list_index PySem.F.type_list_index mt_index ho.p (pa_cons he.p pa_nil hs) hbase hfew hline hs hplain, se_index ho.s he.s⟩
/-! ### > of texts -/
def vGtS : VF := fun a b => match a, b with
  | ⟨.str i, _⟩, ⟨.str j, _⟩ => some (ofB (decide (j.cps.toList < i.cps.toList)))
  | _, _ => none
def rGtS : R2 := fun x y H Q => ∃ i j, x = .str i ∧ y = .str j ∧ Q (.bl (decide (j.cps.toList < i.cps.toList))) H
theorem sv_gtS : SemV K rGtS vGtS := by
  intro P H x y a b c hP ha hb h Q q
  unfold vGtS at h
  split at h
  · cases h
    exact ⟨_, _, ha.str, hb.str, q _ H (Same.refl H) (.bl _)⟩
  · cases h
/-! ### for c in a text -/
def iS (fe : EF) : IF := fun ρ => match fe ρ with
  | some ⟨.str x, _⟩ => if x.length ≤ 100000 then some (x.cps.toList.map fun c => .str ⟨#[c]⟩) else none
  | _ => none
theorem jok_str {G G2 : Hp} {x : Str} : JOk2 K G G2 (Its x) (x.cps.toList.map fun c => .str ⟨#[c]⟩) where
  go := fun i H h _ => by
    rw [List.length_map, Array.length_toList] at h
    exact h
  stop := fun i H h _ => by
    rw [List.length_map, Array.length_toList] at h
    exact h
  yld := fun i d H v H' h _ ⟨e, c, hc, hv⟩ => by
    subst e hv
    rw [List.getElem?_map, Array.getElem?_toList, hc] at h
    cases h
    exact ⟨Same.refl _, fun _ _ _ => .str _⟩
theorem si_str (h : SemE K te fe) : SemI K (iStr te) (iS fe) := by
  intro Z σ H ρ ds E e R q
  unfold iS at e
  split at e
  · rename_i x m e1
    split at e
    · cases e
      refine h Z σ H ρ _ E e1 _ fun v H1 s1 r1 => ?_
      exact ⟨x, (r1.opd E.pok).str, q _ H1 s1 jok_str⟩
    · cases e
  · cases e
theorem gi_str {tg : Expr} (h : GE K X e te fe) : GI K X tg e (iStr te) (iS fe) := ⟨pi_str h.p, si_str h.s⟩
end
end Fb
set_option maxHeartbeats 2000000
/-! FcH: methods with a default; a box's method that may raise. -/
namespace Fb
open PySem PySem.Spec PyProof.Rows L2
section
variable {K : PySem.W.Frag} {mg : Str → Option Value} {P : Program} {w : World} {base : Heap}
theorem funD_of {x qual : Str} {st : Stmt} {f : Addr} {fd : FuncData} (F : Fun K x qual st f fd) : FunD K x qual (defArgs st) (defBody st) (defScope st) [] [] f fd := by
  obtain ⟨oc, od, kV, doc, pm, an, cdv, ct, osl, h1, h2, h3⟩ := F.ex
  exact ⟨⟨oc, od, .none, kV, doc, pm, an, cdv, ct, osl, h1, h2, h3, .inl ⟨rfl, rfl⟩, .inl rfl⟩, F.kp⟩
/-- a def with defaults -/
abbrev FunDS (K : PySem.W.Frag) (x qual : Str) (st : Stmt) (dvs : List V) (f : Addr) (fd : FuncData) : Prop := FunD K x qual (defArgs st) (defBody st) (defScope st) dvs [] f fd
theorem fun_mkD {x qual : Str} {st : Stmt} {f T : Addr} {oc dc pm cd ct kV : Value} {od an odT : Option Addr} {sl slT : Array (Option Value)} {n : Nat} {t : Tok} {ocT : Value} {i : Int} (l : K.lookup f = some ⟨oc, od, .func (PySem.W.fnOf x qual (defArgs st) (defBody st) (defScope st) (.ref T) kV dc pm an cd ct), sl⟩)
    (c : PySem.W.codeIn K cd qual = true) (k : PySem.W.keepIn K (.ref f) = true) (d : K.lookup T = some ⟨ocT, odT, .seq #[.int i t] n, slT⟩) : FunDS K x qual st [.int i] f (PySem.W.fnOf x qual (defArgs st) (defBody st) (defScope st) (.ref T) kV dc pm an cd ct) :=
  ⟨⟨oc, od, .ref T, kV, dc, pm, an, cd, ct, sl, rfl, l, c, .inr ⟨by simp, T, _, [.int i t], n, rfl, d, rfl, .cons ⟨t, rfl⟩ .nil⟩, .inl rfl⟩, k⟩
theorem binds_all {x qual : Str} {st : Stmt} {dvs : List V} {f : Addr} {fd : FuncData} {ps : List Str} (F : FunDS K x qual st dvs f fd) (j : Nat) (hd : dvs ≠ []) (hj : j = dvs.length)
    (h : ∀ (T : Addr) (kV doc pm : Value) (an : Option Addr) (cdv ct : Value) (us its : List Value), us.length = ps.length → its.length = dvs.length →
      ∃ k, bindArgs (PySem.W.fnOf x qual (defArgs st) (defBody st) (defScope st) (.ref T) kV doc pm an cdv ct) ⟨us, []⟩ = seqItems? (.ref T) >>= k ∧ k (some its.toArray) = pure (ps.zip (us ++ its.drop j))) : Binds K fd ps [] := by
  obtain ⟨ds, h1, h2⟩ := FunD.binds1 F ps.length j hd (by rw [hj]; omega) h
  rw [hj, List.drop_length] at h1
  cases h1
  exact h2
theorem fn_okGD {x qual : Str} {st : Stmt} {dvs : List V} {f : Addr} {fd : FuncData} {N ps : List Str} {k m : Nat} {body : SG} (F : FunDS K x qual st dvs f fd) (S : FnScope N ps (defScope st)) (hm : N.length = ps.length + m)
    (hb : ∀ (cdv : Value) (A : Around) (outer : List Env) (s : Shared) (H : Hp) (E : XK), Room k (A.deeper (PyProof.Rows.envOfC qual (defScope st) s.heap.objs.size f cdv)) → ∃ t, GUs K (cxOf (L2.CX P w) P w K mg base N qual (defScope st) f cdv A outer s H E) (WN mg E) (defBody st) t body) :
    FnOk P w K mg base (L2.CX P w) (k + 1) f fd ps (spG K mg ps.length (fnG m body)) := by
  refine FunD.ok (CX := L2.CX P w) F S (fun vs H Q E h => h.1) (fun cdv A outer s H vs Q E hr h => ?_)
  obtain ⟨hl, hT, g, g', Z, ds, o, hZ, hv, ho, q⟩ := h
  obtain ⟨t, gg⟩ := hb cdv A outer s H E hr
  obtain ⟨fl, e1, w1⟩ := fng_want ho q
  refine ⟨t, gg.p, ?_⟩
  letI := g
  have z1 := pok_zs hZ
  have v1 : RpL K (hide (zs g Z) H) vs ds := RpL.mono (hide_mono (fun b _ _ z => z.elim id (pok_gd hZ b)) fun _ _ _ z => z) _ _ hv
  have S0 : StOk K (zs g Z) H H (L2.start N vs) (ds.map .sh ++ List.replicate m .emp) := start_ok (by rw [hl]; exact hm) z1 hT v1
  exact gg.s Z (hide (gd g) H) g g' _ H _ fl (S0.rebase (hide_same H)) (fun a h => by unfold hide; exact if_pos h) e1 _ w1
end
/-! ### x = o.m(..), which may raise -/
def sSetBX (i : Nat) (c : Addr) (G : FF) (fo : EF) (fa : AF) : SF := fun ρ => (bxOf c (fo ρ)).bind fun b => (fa ρ).bind fun rs => if okL rs then (match G (b :: rs.map R.d) with
  | some (.val d fr) => (put i ⟨d, cMd true fr d⟩ ρ).map .nx
  | some (.exc n) => some (.ex n)
  | _ => none) else none
section
variable [γ : GSt] {K : PySem.W.Frag} {mg : Str → Option Value} {X : Cx} {G : GSt → FF} {n k i : Nat} {ta : TA} {fa : AF} {to : TE} {fo : EF} {E0 : XK} {c : Addr} {m z : Str} {e o : Expr} {es : List Expr} {pos apos zp spos : Pos}
theorem ss_setBX (hm : m ≠ "roll" ∧ m ≠ "kept") (ho : SemE K to fo) (h : SemA K ta fa) (hn : ∀ ρ rs, fa ρ = some rs → rs.length + 1 = n) : SemS K (WN mg E0) (tAsg (tMeth c m (spR K mg n G) [] E0 to ta) (gName i)) (sSetBX i c (G γ) fo fa) := by
  intro Z B σ H ρ fl S e Dn w
  obtain ⟨b, e1, e⟩ := Option.bind_eq_some_iff.mp e
  obtain ⟨rs, e2, e⟩ := Option.bind_eq_some_iff.mp e
  obtain ⟨roll, kk, mo, e3, hmo, rfl⟩ := bxOf_some e1
  split at e
  · rename_i hk
    refine ho Z σ H ρ _ S.env e3 _ fun x H1 s1 r1 => ?_
    have rr := (r1.opd S.env.pok).okR (S.env.mono s1).pok (by unfold okR; rw [hmo]; rfl)
    cases rr with
    | bx h1 h2 =>
      rename_i ax dx rx
      refine ⟨_, _, _, rfl, (hide_some.mp h1).2, ?_, ?_⟩
      · show List.lookup m [("roll", _), ("kept", _)] = none
        have n1 : (m == "roll") = false := by simpa using hm.1
        have n2 : (m == "kept") = false := by simpa using hm.2
        simp [List.lookup, n1, n2]
      · refine h Z σ H1 ρ rs (S.env.mono s1) e2 _ fun vs H2 s2 r2 => ?_
        have E2 := (S.env.mono s1).mono s2
        have rl : RpL K (hide (Pz Z σ ρ) H2) (V.ref ax :: (vs ++ [])) (.bx c roll kk :: rs.map R.d) := by
          rw [List.append_nil]
          exact .cons (Rp.mono (same_hide s2) _ _ (.bx h1 h2)) (r2.okL E2.pok hk)
        have ln : (D.bx c roll kk :: rs.map R.d).length = n := by
          rw [List.length_cons, List.length_map]
          exact hn ρ rs e2
        split at e
        · rename_i d fr e4
          obtain ⟨ρ', e5, e6⟩ := Option.map_eq_some_iff.mp e
          subst e6
          exact spR_met E2 (s1.trans s2) rl ln e4 (fun v H3 s3 q => w _ H3 (put_ok S s3 q e5)) fun _ z => nomatch z
        · rename_i x e4
          cases e
          exact spR_met (o := .exc x) E2 (s1.trans s2) rl ln e4 (fun C hC H3 s3 => w H3 (S.base.trans s3.toSme) (s3.tab S.env.tab) C hC) fun _ z => nomatch z
        · cases e
  · cases e
theorem gs_setBX {pl : Sem Bool} (B : BM X.prog X.w K mg X.base c (L2.CX X.prog X.w) k m (spR K mg n G) []) (hr : Room k X.A) (tk : Takes X fun c d _ H => E0 c d H) (hN : X.N.Nodup) (hm : m ≠ "roll" ∧ m ≠ "kept") (ho : GE K X o to fo) (ha : GA K X (e :: es) ta fa) (hn : ∀ ρ rs, fa ρ = some rs → rs.length + 1 = n)
    (hi : X.N[i]? = some z := by rfl) (hx : Loc X.env.scope z := by first | exact Or.inl rfl | exact Or.inr rfl) (hs : swapsWith (.Call (.Attribute o m apos) (e :: es) [] pos) (some (.Name z zp)) spos.line X.env = pure false := by rfl) (hf : X.fn z = true ∨ X.env.scope.names.lookup z = some .local := by first | exact .inl rfl | exact .inr rfl)
    (hst : starEach (e :: es) X.env = (false, eval e X.env) :: starEach es X.env := by rfl) (hpl : (backTo pos (starEach es X.env)).any (·.1) = false := by rfl)
    (ht : eval (.Call (.Attribute o m apos) (e :: es) [] pos) X.env = (do
      let ov ← eval o X.env
      standAt apos.atName
      let (f, first) ← holding [ov] (getMethod ov m pl)
      callWith pos f first (backTo pos (starEach (e :: es) X.env)) (backToKw pos (keywordEach [] X.env))) := by rfl) (eK : X.K = K := by rfl) (eM : X.mg = mg := by rfl) :
    GS K X (WN mg E0) (.Assign [.Name z zp] (.Call (.Attribute o m apos) (e :: es) [] pos) spos) (tAsg (tMeth c m (spR K mg n G) [] E0 to ta) (gName i)) (sSetBX i c (G γ) fo fa) := by
  subst eK eM
  obtain ⟨f, fd, ps, hc, hm', hF, hb⟩ := B.h
  exact ⟨ps_set hN hi hx (pe_meth (pl := pl) ho.p hc hm' hF hr hb .nil (passes_call tk fun _ _ _ _ z => z) ha.p hst hpl ht) hs hf, ss_setBX hm ho.s ha.s hn⟩
theorem gus_lift {W : Str → Hp → Prop} {t : TS} {st : List Stmt} {f : GSt → SF} (h : ∀ g, @GSs g K X W st t (f g)) : PSs X st t := @GSs.p gTriv _ _ _ _ _ _ (h gTriv)
theorem argM {fa : AF} {k n : Nat} {dd : List D} (h : ArgN fa k) (e : k + dd.length + 1 = n := by rfl) : ∀ ρ rs, fa ρ = some rs → rs.length + dd.length + 1 = n := fun ρ rs q => by rw [h ρ rs q]; exact e
end
end Fb
set_option maxHeartbeats 2000000
/-! FcI: boxes and dicts made where they stand for themselves; lists that only the law changes. -/
namespace Fb
open PySem PySem.Spec PyProof.Rows L2
section
variable {K : PySem.W.Frag} {mg : Str → Option Value} {Z : Addr → Prop} {B H H' : Hp} {σ : L2.St} {ρ : En} {g : GSt} {k : Addr} {kvs : List (List Int × Int)}
theorem gset_at {g : GSt} {a : Addr} {kvs : List (List Int × Int)} : (gset g a kvs).st a = some kvs := by show (if a = a then _ else _) = _; rw [if_pos rfl]
theorem gset_of {g : GSt} {a b : Addr} {kvs : List (List Int × Int)} (h : b ≠ a) : (gset g a kvs).st b = g.st b := by show (if b = a then _ else _) = _; rw [if_neg h]
/-- a new dict that stands for itself -/
theorem gnew (S : @StOk g K (zs g Z) B H σ ρ) (fb : bf g B) (hk : H k = none) (s : Same K H H') (hk' : H' k = some (.dT (encV kvs))) :
    @StOk (gset g k kvs) K (zs (gset g k kvs) Z) B H' σ ρ ∧ bf (gset g k kvs) B ∧ g.st k = none ∧ ∀ b, Pz (zs (gset g k kvs) Z) σ ρ b → Pz (zs g Z) σ ρ b ∨ b = k := by
  have gi := gin_of S
  have nk : g.st k = none := by
    cases e : g.st k with
    | none => rfl
    | some l => have := (gi k l e).2; rw [hk] at this; cases this
  have gg : ∀ b, gd (gset g k kvs) b → gd g b ∨ b = k := fun b ⟨l, z⟩ => by
    by_cases c : b = k
    · exact .inr c
    · rw [gset_of c] at z
      exact .inl ⟨l, z⟩
  have mo : gmo g (gset g k kvs) := fun b ⟨l, z⟩ => by
    by_cases c : b = k
    · exact ⟨_, by rw [c]; exact gset_at⟩
    · exact ⟨l, by rw [gset_of c]; exact z⟩
  have gi' : @GIn (gset g k kvs) (gd (gset g k kvs)) H' := fun b l z => by
    refine ⟨⟨l, z⟩, ?_⟩
    by_cases c : b = k
    · have z' : (gset g k kvs).st b = some l := z
      rw [c, gset_at] at z'
      cases z'
      rw [c]
      exact hk'
    · have z' : (gset g k kvs).st b = some l := z
      rw [gset_of c] at z'
      exact s.toSme.get _ _ (gi b l z').2 trivial
  obtain ⟨S', b'⟩ := moved S fb ((hide_same H).trans s.toSme) (s.tab (@EnvOk.tab g _ _ _ _ _ (@StOk.env g _ _ _ _ _ _ S))) gi' (fun b z => by
    rcases gg b z with c | c
    · unfold hide; exact if_pos c
    · unfold hide
      split
      · rfl
      · rw [c]; exact hk) mo
  refine ⟨S', b', nk, fun b z => ?_⟩
  rcases z with (z | z) | z
  · exact .inl (.inl (.inl z))
  · rcases gg b z with c | c
    · exact .inl (.inl (.inr c))
    · exact .inr c
  · exact .inl (.inr z)
theorem pz_none (S : @StOk g K (zs g Z) B H σ ρ) {b : Addr} (h : H b = none) : ¬ Pz (zs g Z) σ ρ b := fun z => by
  obtain ⟨o, q⟩ := @POk.there g _ _ (@EnvOk.pok g _ _ _ _ _ (@StOk.env g _ _ _ _ _ _ S)) b z
  rw [h] at q
  cases q
/-! ### __init__ -/
def spInit (K : PySem.W.Frag) (c : Addr) (F : FF) : Sp := fun vs H Q _ => ∃ (x : Addr) (v : V) (dx : Addr) (roll : List Str), vs = [.ref x, v] ∧ TabsK K H ∧ H x = some (.ins c dx []) ∧ Rp K H v (.lst (roll.map .str)) ∧ F [.lst (roll.map .str)] = some (.val (.lst (roll.map .str)) true) ∧
  ∀ (H' : Hp) (r k : Addr), Sme (hide (fun b => b = x) H) H' → TabsK K H' → H r = none → H k = none → r ≠ k → H' x = some (.ins c dx [("roll", .ref r), ("kept", .ref k)]) → H' r = some (.lst (roll.map V.str)) → H' k = some (.dT []) → Q .non H'
theorem init_t {c : Addr} {F : FF} {vs : List V} {Q : VK} {E E1 : XK} (b : BxC K c) (h : spInit K c F vs H Q E) :
    tSeq (sFld K (tVar 0) (tCall (spD K mg 1 F) [] E1 (tCons (tVar 1) tNil)) "roll") (sFld K (tVar 0) tDNewT "kept") { nx := fun _ H' => Q .non H', rt := Q } (L2.start ["self", "words"] vs) H := by
  obtain ⟨x, v, dx, roll, rfl, hT, hx, hv, hF, q⟩ := h
  have s0 : (L2.start ["self", "words"] [.ref x, v])[0]? = some (some (.ref x)) := rfl
  have s1 : (L2.start ["self", "words"] [.ref x, v])[1]? = some (some v) := rfl
  refine ⟨v, s1, rfl, hT, fun _ => False, [.lst (roll.map .str)], _, pok_no H, .cons (Rp.mono (hide_no H) _ _ hv) .nil, hF, fun y H1 ⟨m1, t1, r, er, hr, ws, w1, w2⟩ => ?_⟩
  subst er
  have ew := w2.strs
  subst ew
  have x1 : H1 x = some (.ins c dx []) := m1.get _ _ hx trivial
  have nrx : r ≠ x := fun z => by rw [z, hx] at hr; cases hr
  refine ⟨.ref x, s0, x, c, dx, [], rfl, x1, b.cl, b.r, by decide, fun k hk => ?_⟩
  have hkx : k ≠ x := fun z => by rw [z, upd_same] at hk; cases hk
  have hk1 : H1 k = none := by rw [upd_ne hkx] at hk; exact hk
  have nrk : r ≠ k := fun z => by rw [z, hk1] at w1; cases w1
  refine ⟨.ref x, s0, x, c, dx, putF (Str.ofString "roll") (.ref r) [], rfl, by rw [upd_ne hkx.symm, upd_same], b.cl, b.k, (show 1 < 1000 by decide), ?_⟩
  refine q _ r k ⟨fun d o z nt => ?_, fun d ps z => ?_⟩ (((t1.upd x1 trivial).mono (same_upd (K := K) (o := .dT []) hk)).upd (o' := .ins c dx (putF "roll" (.ref r) [])) (by rw [upd_ne hkx.symm, upd_same]) trivial) hr (Sme.none m1 hk1) nrk upd_same (by rw [upd_ne nrx, upd_ne nrk, upd_ne nrx]; exact w1) (by rw [upd_ne hkx, upd_same])
  · obtain ⟨z1, z2⟩ := hide_some.mp z
    have z3 := m1.get d o z2 nt
    rw [upd_ne z1, upd_ne (fun e => by rw [e, hk1] at z3; cases z3), upd_ne z1]
    exact z3
  · obtain ⟨z1, z2⟩ := hide_some.mp z
    obtain ⟨ps', z3⟩ := m1.tb d ps z2
    exact ⟨ps', by rw [upd_ne z1, upd_ne (fun e => by rw [e, hk1] at z3; cases z3), upd_ne z1]; exact z3⟩
/-- C(e), e a list of texts that makes a roll -/
theorem box_run {c : Addr} {F : FF} {E : XK} (S : @StOk g K (zs g Z) B H σ ρ) (fb : bf g B) {v : V} {roll : List Str} (hv : Rp K H v (.lst (roll.map .str))) (hF : F [.lst (roll.map .str)] = some (.val (.lst (roll.map .str)) true)) (Q : VK)
    (q : ∀ x k H', @StOk (gset g k []) K (zs (gset g k []) Z) B H' σ ρ → bf (gset g k []) B → Same K H H' → H k = none → g.st k = none → (∀ b, Pz (zs (gset g k []) Z) σ ρ b → Pz (zs g Z) σ ρ b ∨ b = k) → Rp K (hide (Pz (zs (gset g k []) Z) σ ρ) H') (.ref x) (.bx c roll k) → Q (.ref x) H') :
    ∀ x dx, H x = none → H dx = none → dx ≠ x → spInit K c F (.ref x :: ([v] ++ [])) (upd (upd H dx (.own x)) x (.ins c dx [])) (fun v H2 => v = .non ∧ Q (.ref x) H2) E := by
  intro x dx hx hdx hne
  have hT := @EnvOk.tab g _ _ _ _ _ (@StOk.env g _ _ _ _ _ _ S)
  have sA : Same K H (upd H dx (.own x)) := same_upd hdx
  have sB : Same K (upd H dx (.own x)) (upd (upd H dx (.own x)) x (.ins c dx [])) := same_upd (by rw [upd_ne hne.symm]; exact hx)
  have sAB := sA.trans sB
  refine ⟨x, v, dx, roll, rfl, sAB.tab hT, upd_same, Rp.mono sAB.toSme _ _ hv, hF, fun H' r k m t hr hk nrk hx' hr' hk' => ⟨rfl, ?_⟩⟩
  have hr0 : H r = none := Sme.none sAB.toSme hr
  have hk0 : H k = none := Sme.none sAB.toSme hk
  have nrx : r ≠ x := fun z => by rw [z, upd_same] at hr; cases hr
  have nkx : k ≠ x := fun z => by rw [z, upd_same] at hk; cases hk
  have sH : Same K H H' := ⟨⟨fun d o z nt => m.get d o (hide_some.mpr ⟨fun e => (by rw [e, hx] at z; cases z), sAB.toSme.get d o z nt⟩) nt, fun d ps z => by
    obtain ⟨ps1, z1⟩ := sAB.toSme.tb d ps z
    exact m.tb d ps1 (hide_some.mpr ⟨fun e => (by rw [e, hx] at z; cases z), z1⟩)⟩, fun _ => t⟩
  obtain ⟨S', b', nk, pz⟩ := gnew (kvs := []) S fb hk0 sH hk'
  have np : ∀ b, H b = none → b ≠ k → ¬ Pz (zs (gset g k []) Z) σ ρ b := fun b hb hn z => by
    rcases pz b z with c | c
    · exact pz_none S hb c
    · exact hn c
  exact q x k H' S' b' sH hk0 nk pz (.bx (hide_some.mpr ⟨np x hx nkx.symm, hx'⟩) (hide_some.mpr ⟨np r hr0 nrk, hr'⟩))
theorem dict_run (S : @StOk g K (zs g Z) B H σ ρ) (fb : bf g B) (Q : VK)
    (q : ∀ k H', @StOk (gset g k []) K (zs (gset g k []) Z) B H' σ ρ → bf (gset g k []) B → Same K H H' → H k = none → g.st k = none → (∀ b, Pz (zs (gset g k []) Z) σ ρ b → Pz (zs g Z) σ ρ b ∨ b = k) → Q (.ref k) H') : tDNewT σ H Q := by
  intro k hk
  have s : Same K H (upd H k (.dT [])) := same_upd hk
  obtain ⟨S', b', nk, pz⟩ := gnew (kvs := []) S fb hk s upd_same
  exact q k _ S' b' s hk nk pz
/-- x = [C(y[0]), C(y[1])] -/
theorem boxes_t {c : Addr} {F : FF} {E : XK} {D : Ends} {i j : Nat} {p a0 a1 : Addr} {l0 l1 : List Str} (S : @StOk g K (zs g Z) B H σ ρ) (fb : bf g B) (hσ : σ[j]? = some (some (.ref p))) (hp : H p = some (.lst [.ref a0, .ref a1])) (h0 : H a0 = some (.lst (l0.map V.str))) (h1 : H a1 = some (.lst (l1.map V.str)))
    (F0 : F [.lst (l0.map .str)] = some (.val (.lst (l0.map .str)) true)) (F1 : F [.lst (l1.map .str)] = some (.val (.lst (l1.map .str)) true)) (hi : i < ρ.length)
    (q : ∀ p' k0 k1 H', @StOk (gset (gset g k0 []) k1 []) K (zs (gset (gset g k0 []) k1 []) Z) B H' (σ.set i (some (.ref p'))) (ρ.set i (.sh (.lst [.bx c l0 k0, .bx c l1 k1]))) → bf (gset (gset g k0 []) k1 []) B → Same K H H' → H k0 = none → H k1 = none → g.st k0 = none → (gset g k0 []).st k1 = none → D.nx (σ.set i (some (.ref p'))) H') :
    tAsg (tLst (tCons (tMake c (spInit K c F) [] E (tCons (tOp (rIx K) (tVar j) (tC (.int 0))) tNil)) (tCons (tMake c (spInit K c F) [] E (tCons (tOp (rIx K) (tVar j) (tC (.int 1))) tNil)) tNil))) (gName i) D σ H := by
  refine ⟨.ref p, hσ, .inl ⟨p, _, 0, .ref a0, rfl, rfl, SqL.of hp, rfl, ?_⟩⟩
  refine box_run S fb (v := .ref a0) (.lst h0 (strsRp l0)) F0 (fun y H4 => (tCons (tMake c (spInit K c F) [] E (tCons (tOp (rIx K) (tVar j) (tC (.int 1))) tNil)) tNil) σ H4 fun xs H5 => (y :: xs).length ≤ sizeLine ∧ ∀ p', H5 p' = none → gName i (.ref p') σ (upd H5 p' (.lst (y :: xs))) D.nx) fun x0 k0 H4 S4 b4 s4 hk0 nk0 pz4 r4 => ?_
  have hp4 := s4.toSme.get _ _ hp trivial
  refine ⟨.ref p, hσ, .inl ⟨p, _, 1, .ref a1, rfl, rfl, SqL.of hp4, rfl, ?_⟩⟩
  refine box_run S4 b4 (v := .ref a1) (.lst (s4.toSme.get _ _ h1 trivial) (strsRp l1)) F1 (fun y H5 => [V.ref x0, y].length ≤ sizeLine ∧ ∀ p', H5 p' = none → gName i (.ref p') σ (upd H5 p' (.lst [V.ref x0, y])) D.nx) fun x1 k1 H5 S5 b5 s5 hk1 nk1 pz5 r5 => ?_
  refine ⟨(show 2 ≤ sizeLine by decide), fun p' hp' => ?_⟩
  have s6 : Same K H5 (upd H5 p' (.lst [.ref x0, .ref x1])) := same_upd hp'
  have r4' := Rp.mono (hide_via (P' := Pz (zs (gset (gset g k0 []) k1 []) Z) σ ρ) (fun b o qq z => by
    rcases pz5 b z with e | e
    · exact e
    · rw [e, hk1] at qq; cases qq) (s5.trans s6).toSme) _ _ r4
  have r5' := Rp.mono (same_hide (P := Pz (zs (gset (gset g k0 []) k1 []) Z) σ ρ) s6.toSme) _ _ r5
  have S6 := StOk.setSh (γ := gset (gset g k0 []) k1 []) (v := .ref p') (d := .lst [.bx c l0 k0, .bx c l1 k1]) (i := i) (StOk.mono (γ := gset (gset g k0 []) k1 []) s6 S5) (.lst (hide_some.mpr ⟨pz_none S5 hp', upd_same⟩) (.cons r4' (.cons r5' .nil))) hi
  exact q p' k0 k1 _ S6 b5 ((s4.trans s5).trans s6) hk0 (Sme.none s4.toSme hk1) nk0 nk1
/-- x = [{}, {}] -/
theorem dicts_t {D : Ends} {i : Nat} (S : @StOk g K (zs g Z) B H σ ρ) (fb : bf g B) (hi : i < ρ.length)
    (q : ∀ p' k0 k1 H', @StOk (gset (gset g k0 []) k1 []) K (zs (gset (gset g k0 []) k1 []) Z) B H' (σ.set i (some (.ref p'))) (ρ.set i (.sh (.lst [.rf k0, .rf k1]))) → bf (gset (gset g k0 []) k1 []) B → Same K H H' → g.st k0 = none → (gset g k0 []).st k1 = none → D.nx (σ.set i (some (.ref p'))) H') :
    tAsg (tLst (tCons tDNewT (tCons tDNewT tNil))) (gName i) D σ H := by
  refine dict_run S fb (fun y H4 => (tCons tDNewT tNil) σ H4 fun xs H5 => (y :: xs).length ≤ sizeLine ∧ ∀ p', H5 p' = none → gName i (.ref p') σ (upd H5 p' (.lst (y :: xs))) D.nx) fun k0 H4 S4 b4 s4 hk0 nk0 pz4 => ?_
  refine dict_run S4 b4 (fun y H5 => [V.ref k0, y].length ≤ sizeLine ∧ ∀ p', H5 p' = none → gName i (.ref p') σ (upd H5 p' (.lst [V.ref k0, y])) D.nx) fun k1 H5 S5 b5 s5 hk1 nk1 pz5 => ?_
  refine ⟨(show 2 ≤ sizeLine by decide), fun p' hp' => ?_⟩
  have s6 : Same K H5 (upd H5 p' (.lst [.ref k0, .ref k1])) := same_upd hp'
  have S6 := StOk.setSh (γ := gset (gset g k0 []) k1 []) (v := .ref p') (d := .lst [.rf k0, .rf k1]) (i := i) (StOk.mono (γ := gset (gset g k0 []) k1 []) s6 S5) (.lst (hide_some.mpr ⟨pz_none S5 hp', upd_same⟩) (.cons (.rf k0) (.cons (.rf k1) .nil))) hi
  exact q p' k0 k1 _ S6 b5 ((s4.trans s5).trans s6) nk0 nk1
/-- a list that is kept apart is changed -/
theorem updZ {a : Addr} {xs ys : List V} (S : @StOk g K Z B H σ ρ) (ha : Z a) (hx : H a = some (.lst xs)) (hB : B a = none) (hg : g.st a = none) : @StOk g K Z B (upd H a (.lst ys)) σ ρ := by
  letI := g
  have E := S.env
  have pa : Pz Z σ ρ a := .inl ha
  have sm : Sme (hide (Pz Z σ ρ) H) (hide (Pz Z σ ρ) (upd H a (.lst ys))) := hide_mono (fun _ _ _ z => z) fun b o z hb => by
    rw [upd_ne fun c => z (by rw [c]; exact pa)]
    exact hb
  refine ⟨⟨E.len, fun i d h => ?_, fun i d h => ?_, E.inj, ⟨fun b z => ?_, fun b l z => ?_⟩, E.zdis, E.tab.upd hx trivial⟩, Sme.updN S.base hB, S.free⟩
  · obtain ⟨v, h1, h2⟩ := E.sh i d h
    exact ⟨v, h1, Rp.mono sm _ _ h2⟩
  · obtain ⟨b, h1, h2⟩ := E.own i d h
    have nb : b ≠ a := fun c => E.zdis b ⟨i, d, h, h1⟩ (by rw [c]; exact ha)
    exact ⟨b, h1, h2.via (fun o k nt => by rw [upd_ne nb]; exact k) sm⟩
  · by_cases c : b = a
    · exact ⟨.lst ys, by rw [c, upd_same], trivial, fun _ _ w => by cases w⟩
    · obtain ⟨o, h1, h2, h3⟩ := E.zok b z
      exact ⟨o, by rw [upd_ne c]; exact h1, h2, h3⟩
  · obtain ⟨h1, h2⟩ := E.zok.gh b l z
    refine ⟨h1, ?_⟩
    rw [upd_ne fun c => by rw [c] at z; rw [hg] at z; cases z]
    exact h2
/-- what stands in one more place is kept apart -/
theorem moreZ {Z' : Addr → Prop} (S : @StOk g K Z B H σ ρ) (s : Same K H H') (hz : ∀ b, Z b → Z' b) (hn : ∀ b, Z' b → Z b ∨ (H b = none ∧ ∃ xs, H' b = some (.lst xs))) : @StOk g K Z' B H' σ ρ := by
  letI := g
  have E := S.env
  have nO : ∀ b, Ow σ ρ b → H b ≠ none := fun b z e => by
    obtain ⟨o, q⟩ := E.pok.there (.inr z)
    rw [e] at q
    cases q
  have sm : Sme (hide (Pz Z σ ρ) H) (hide (Pz Z' σ ρ) H') := hide_via (fun b o q z => by
    rcases z with z | z
    · rcases hn b z with c | ⟨c, _⟩
      · exact .inl c
      · rw [c] at q; cases q
    · exact .inr z) s.toSme
  refine ⟨⟨E.len, fun i d h => ?_, fun i d h => ?_, E.inj, ⟨fun b z => ?_, fun b l z => ?_⟩, fun b z w => ?_, s.tab E.tab⟩, S.base.trans s.toSme, S.free⟩
  · obtain ⟨v, h1, h2⟩ := E.sh i d h
    exact ⟨v, h1, Rp.mono sm _ _ h2⟩
  · obtain ⟨b, h1, h2⟩ := E.own i d h
    exact ⟨b, h1, h2.via (fun o k nt => s.toSme.get _ _ k nt) sm⟩
  · rcases hn b z with c | ⟨_, xs, c⟩
    · exact E.zok.mono s.toSme b c
    · exact ⟨_, c, trivial, fun _ _ w => by cases w⟩
  · obtain ⟨h1, h2⟩ := E.zok.gh b l z
    exact ⟨hz b h1, s.toSme.get _ _ h2 trivial⟩
  · rcases hn b w with c | ⟨c, _⟩
    · exact E.zdis b z c
    · exact nO b z c
end
end Fb
set_option maxHeartbeats 4000000
namespace K52
open PySem PySem.Spec L2 Fb
/-! rank: 0 names -/
def b_rank : SF := (sRet (eTup (aCons (eCB cLen (aCons (eVar 0) aNil)) (aCons (eCB cTup (aCons (eVar 0) aNil)) aNil))))
@[irreducible] def F_rank : FF := fnF 0 b_rank

/-! look_names: 0 count 1 rows 2 names 3 many 4 name -/
def B_look_names_1 : SF := (sIf (tOr' (toB (eOp vLt (eVar 4) (eC (.int 0)))) (toB (eOp vGe (eVar 4) (eVar 0)))) (sRaise "NoName") sNil)
def B_look_names_2 : SF := (sFor (iT (eVar 2)) (tgName 4) B_look_names_1)
def b_look_names : SF := (sFor (iL (eVar 1)) (tgTup [2, 3]) B_look_names_2)
@[irreducible] def F_look_names : FF := fnF 3 b_look_names

/-! heaps_of: 0 count 1 rows 2 heaps 3 names 4 many 5 like -/
def B_heaps_of_1 : SF := (sSeq (sIf (toB (eOp vLt (eVar 4) (eC (.int 0)))) (sRaise "NoHeap") sNil)
  (sIf (toB (eOp vGt (eVar 4) (eC (.int 0)))) (sSeq (sSet 5 (eCB cTup (aCons (eSrtSetT (eVar 3)) aNil)))
  (sDPut 2 (eVar 5) (eOp vAdd (eDGet2 (eVar 2) (eVar 5) (eC (.int 0))) (eVar 4)))) sNil))
def b_heaps_of : SF := (sSeq (sIf (tOr' (toB (eOp vLt (eVar 0) (eC (.int 1)))) (toB (eOp vGt (eVar 0) (eC (.int 6))))) (sRaise "NoCount") sNil)
  (sSeq (sCallX F_look_names (aCons (eVar 0) (aCons (eVar 1) aNil)))
  (sSeq (sSet 2 (eDictT))
  (sSeq (sFor (iL (eVar 1)) (tgTup [3, 4]) B_heaps_of_1)
  (sSeq (sIf (toB (eOp vEq (eCB cLenD (aCons (eVar 2) aNil)) (eC (.int 0)))) (sRaise "NoHeap") sNil)
  (sRet (eLc [3] (iLc (eSortK F_rank (eCB cLstD (aCons (eVar 2) aNil)))) (tgName 3) tYes' (eTup (aCons (eVar 3) (aCons (eDGet (eVar 2) (eVar 3)) aNil))))))))))
@[irreducible] def F_heaps_of : FF := fnF 4 b_heaps_of

/-! is_word: 0 text 1 sign -/
def B_is_word_1 : SF := (sIf (tOr' (toB (eOp vLt (eVar 1) (eC (.str "a")))) (toB (eOp vGtS (eVar 1) (eC (.str "z"))))) (sRet (eC (.bl false))) sNil)
def b_is_word : SF := (sSeq (sIf (tOr' (toB (eOp vLt (eCB cLen (aCons (eVar 0) aNil)) (eC (.int 1)))) (toB (eOp vGt (eCB cLen (aCons (eVar 0) aNil)) (eC (.int 12))))) (sRet (eC (.bl false))) sNil)
  (sSeq (sFor (iS (eVar 0)) (tgName 1) B_is_word_1)
  (sRet (eC (.bl true)))))
@[irreducible] def F_is_word : FF := fnF 1 b_is_word

/-! roll_of: 0 words 1 k -/
def B_roll_of_1 : SF := (sIf (tOr' (tNot' (toB (eCall F_is_word [] (aCons (eOp vIx (eVar 0) (eVar 1)) aNil)))) (toB (eOp (vInG false) (eOp vIx (eVar 0) (eVar 1)) (eSl (eVar 0) oNone (oSome (eVar 1)))))) (sRaise "NoRoll") sNil)
def b_roll_of : SF := (sSeq (sIf (tOr' (toB (eOp vLt (eCB cLen (aCons (eVar 0) aNil)) (eC (.int 1)))) (toB (eOp vGt (eCB cLen (aCons (eVar 0) aNil)) (eC (.int 6))))) (sRaise "NoRoll") sNil)
  (sSeq (sFor (iR1 (aCons (eCB cLen (aCons (eVar 0) aNil)) aNil)) (tgName 1) B_roll_of_1)
  (sRet (eCB cLst (aCons (eVar 0) aNil)))))
@[irreducible] def F_roll_of : FF := fnF 1 b_roll_of

/-! Box.places_named: 0 self 1 text 2 places 3 word -/
def B_Box_places_named_1 [γ : GSt] (c_Box : Addr) : SF := (sSeq (sIf (toB (eOp (vInG true) (eVar 3) (eFldR c_Box (eVar 0)))) (sRaise "NoBallot") sNil)
  (sApp 2 (eIndex (eFldR c_Box (eVar 0)) (eVar 3))))
def b_Box_places_named [γ : GSt] (c_Box : Addr) : SF := (sSeq (sIf (toB (eOp vEq (eVar 1) (eC (.str "")))) (sRet (eTup aNil)) sNil)
  (sSeq (sSet 2 (eLst aNil))
  (sSeq (sFor (iL (eSplit (eVar 1) (eC (.str " ")))) (tgName 3) (B_Box_places_named_1 c_Box))
  (sRet (eCB cTup (aCons (eSrtSet (eVar 2)) aNil))))))
@[irreducible] def F_Box_places_named [γ : GSt] (c_Box : Addr) : FF := fnF 2 (b_Box_places_named c_Box)

/-! Box.put: 0 self 1 text 2 many 3 names -/
def b_Box_put (c_Box : Addr) : SG := (sSeqG (sL fun _ => (sSetBX 3 c_Box (F_Box_places_named c_Box) (eVar 0) (aCons (eVar 1) aNil)))
  (sSeqG (sL fun _ => (sIf (toB (eOp vLt (eVar 2) (eC (.int 1)))) (sRaise "NoHeap") sNil))
  (sGPut (fun _ => (eFldK c_Box (eVar 0))) (fun _ => (eVar 3)) (fun _ => (eOp vAdd (eDGet2 (eDe (eFldK c_Box (eVar 0))) (eVar 3) (eC (.int 0))) (eVar 2))))))
@[irreducible] def F_Box_put (c_Box : Addr) : FG := fnG 1 (b_Box_put c_Box)

/-! Box.take: 0 self 1 text 2 many 3 names 4 there -/
def b_Box_take (c_Box : Addr) : SG := (sSeqG (sL fun _ => (sSetBX 3 c_Box (F_Box_places_named c_Box) (eVar 0) (aCons (eVar 1) aNil)))
  (sSeqG (sL fun _ => (sSet 4 (eDGet2 (eDe (eFldK c_Box (eVar 0))) (eVar 3) (eC (.int 0)))))
  (sSeqG (sL fun _ => (sIf (tOr' (toB (eOp vLt (eVar 2) (eC (.int 1)))) (toB (eOp vGt (eVar 2) (eVar 4)))) (sRaise "NoHeap") sNil))
  (sGPut (fun _ => (eFldK c_Box (eVar 0))) (fun _ => (eVar 3)) (fun _ => (eOp vSub (eVar 4) (eVar 2)))))))
@[irreducible] def F_Box_take (c_Box : Addr) : FG := fnG 2 (b_Box_take c_Box)

/-! Box.count: 0 self -/
def b_Box_count [γ : GSt] (c_Box : Addr) : SF := (sRet (eCB cSum (aCons (eLstVals (eFldK c_Box (eVar 0))) aNil)))
@[irreducible] def F_Box_count [γ : GSt] (c_Box : Addr) : FF := fnF 0 (b_Box_count c_Box)

/-! Box.heaps: 0 self -/
def b_Box_heaps [γ : GSt] (c_Box : Addr) : SF := (sSeq (sIf (toB (eOp vEq (eBM c_Box (F_Box_count c_Box) [] (eVar 0) aNil) (eC (.int 0)))) (sRet (eLst aNil)) sNil)
  (sRet (eCall F_heaps_of [] (aCons (eCB cLen (aCons (eFldR c_Box (eVar 0)) aNil)) (aCons (eLstItems (eFldK c_Box (eVar 0))) aNil)))))
@[irreducible] def F_Box_heaps [γ : GSt] (c_Box : Addr) : FF := fnF 0 (b_Box_heaps c_Box)

/-! _law_cell_at: 0 _law_script 1 _law_k -/
def b_law_cell_at : SF := (sSeq (sIf (toB (eOp vLt (eVar 1) (eCB cLen (aCons (eVar 0) aNil)))) (sRet (eOp vIx (eVar 0) (eVar 1))) sNil)
  (sRet (eC (.int 0))))
@[irreducible] def F_law_cell_at : FF := fnF 0 b_law_cell_at

/-! _law_mixed: 0 _law_cell 1 _law_many 2 _law_found 3 _law_number 4 _law_k -/
def B_law_mixed_1 : SF := (sSeq (sApp 2 (eOp vMod (eVar 3) (eC (.int 5040))))
  (sSet 3 (eOp vDiv (eVar 3) (eC (.int 5040)))))
def B_law_mixed_2 : SF := (sSeq (sSet 3 (eOp vMod (eOp vAdd (eOp vAdd (eOp vAdd (eOp vMul (eVar 3) (eVar 3)) (eOp vMul (eC (.int 48271)) (eVar 3))) (eVar 4)) (eC (.int 1))) (eC (.int 2147483647))))
  (sApp 2 (eVar 3)))
def b_law_mixed : SF := (sSeq (sSet 2 (eLst aNil))
  (sSeq (sSet 3 (eOp vDiv (eVar 0) (eC (.int 2))))
  (sSeq (sIf (toB (eOp vEq (eOp vMod (eVar 0) (eC (.int 2))) (eC (.int 1)))) (sSeq (sFor (iR1 (aCons (eVar 1) aNil)) (tgName 4) B_law_mixed_1)
  (sRetVar 2)) sNil)
  (sSeq (sSet 3 (eOp vMod (eOp vAdd (eOp vMul (eOp vMod (eVar 3) (eC (.int 2147483647))) (eC (.int 16807))) (eC (.int 11))) (eC (.int 2147483647))))
  (sSeq (sFor (iR1 (aCons (eVar 1) aNil)) (tgName 4) B_law_mixed_2)
  (sRetVar 2))))))
@[irreducible] def F_law_mixed : FF := fnF 3 b_law_mixed

/-! _law_base: 0 _law_cell 1 _law_size 2 _law_found 3 _law_rest 4 _law_k -/
def B_law_base_1 : SF := (sSeq (sIf (toB (eOp vEq (eOp vMod (eVar 0) (eC (.int 2))) (eC (.int 0)))) (sSet 3 (eOp vMod (eOp vAdd (eOp vAdd (eOp vAdd (eOp vMul (eVar 3) (eVar 3)) (eOp vMul (eC (.int 48271)) (eVar 3))) (eVar 4)) (eC (.int 1))) (eC (.int 2147483647)))) sNil)
  (sSeq (sSet 2 (eOp vAdd (eVar 2) (eOp vIx (eC (.str "abcdefghijklmnopqrstuvwxyz")) (eOp vMod (eVar 3) (eC (.int 26))))))
  (sIf (toB (eOp vEq (eOp vMod (eVar 0) (eC (.int 2))) (eC (.int 1)))) (sSet 3 (eOp vDiv (eVar 3) (eC (.int 26)))) sNil)))
def b_law_base : SF := (sSeq (sSet 2 (eC (.str "")))
  (sSeq (sSet 3 (eOp vDiv (eVar 0) (eC (.int 2))))
  (sSeq (sIf (toB (eOp vEq (eOp vMod (eVar 0) (eC (.int 2))) (eC (.int 0)))) (sSet 3 (eOp vMod (eOp vAdd (eOp vMul (eOp vMod (eVar 3) (eC (.int 2147483647))) (eC (.int 16807))) (eC (.int 11))) (eC (.int 2147483647)))) sNil)
  (sSeq (sFor (iR1 (aCons (eVar 1) aNil)) (tgName 4) B_law_base_1)
  (sRetVar 2)))))
@[irreducible] def F_law_base : FF := fnF 3 b_law_base

/-! _law_word: 0 _law_base_here 1 _law_place 2 _law_size 3 _law_k 4 _law_letters 5 _law_other -/
def b_law_word : SF := (sSeq (sSet 4 (eC (.str "abcdefghijklmnopqrstuvwxyz")))
  (sSeq (sSet 5 (eOp vIx (eVar 4) (eOp vMod (eOp vAdd (eFind (eVar 4) (eOp vIx (eVar 0) (eVar 1))) (eOp vMul (eC (.int 3)) (eVar 3))) (eC (.int 26)))))
  (sRet (eOp vAdd (eOp vAdd (eSl (eVar 0) oNone (oSome (eVar 1))) (eVar 5)) (eSl (eVar 0) (oSome (eOp vAdd (eVar 1) (eC (.int 1)))) (oSome (eVar 2)))))))
@[irreducible] def F_law_word : FF := fnF 2 b_law_word

/-! _law_words: 0 _law_script 1 _law_at 2 _law_many 3 _law_cell 4 _law_size 5 _law_base_here 6 _law_words_here 7 _law_k 8 _law_word_here -/
def B_law_words_1 : SF := (sSeq (sSet 8 (eCall F_law_word [] (aCons (eVar 5) (aCons (eOp vMod (eOp vDiv (eVar 3) (eC (.int 48))) (eVar 4)) (aCons (eVar 4) (aCons (eVar 7) aNil))))))
  (sSeq (sIf (toB (eOp vEq (eOp vMod (eOp vDiv (eVar 3) (eC (.int 12))) (eC (.int 4))) (eC (.int 1)))) (sSet 8 (eSl (eVar 5) oNone (oSome (eOp vAdd (eVar 7) (eC (.int 1)))))) sNil)
  (sApp 6 (eVar 8))))
def b_law_words : SF := (sSeq (sSet 3 (eCall F_law_cell_at [] (aCons (eVar 0) (aCons (eVar 1) aNil))))
  (sSeq (sSet 4 (eOp vAdd (eC (.int 1)) (eOp vMod (eVar 3) (eC (.int 12)))))
  (sSeq (sSet 5 (eCall F_law_base [] (aCons (eCall F_law_cell_at [] (aCons (eVar 0) (aCons (eOp vAdd (eVar 1) (eC (.int 1))) aNil))) (aCons (eC (.int 12)) aNil))))
  (sSeq (sSet 6 (eLst aNil))
  (sSeq (sFor (iR1 (aCons (eVar 2) aNil)) (tgName 7) B_law_words_1)
  (sRetVar 6))))))
@[irreducible] def F_law_words : FF := fnF 6 b_law_words

/-! _law_whole: 0 _law_found -/
def b_law_whole : SF := (sRet (eAnd (eIsi "int" (eVar 0)) (eNot (eIsi "bool" (eVar 0)))))
@[irreducible] def F_law_whole : FF := fnF 0 b_law_whole

/-! _law_same: 0 _law_found 1 _law_due 2 _law_k -/
def B_law_same_1 (R : FF) : SF := (sIf (tNot' (toB (eCall R [] (aCons (eOp vIx (eVar 0) (eVar 2)) (aCons (eOp vIx (eVar 1) (eVar 2)) aNil))))) (sRet (eC (.bl false))) sNil)
def b_law_same (R : FF) : SF := (sSeq (sIf (tOr' (toB (eIsi "tuple" (eVar 1))) (toB (eIsi "list" (eVar 1)))) (sSeq (sIf (tOr' (toB (eOp vNe (eIsi "tuple" (eVar 0)) (eIsi "tuple" (eVar 1)))) (toB (eOp vNe (eIsi "list" (eVar 0)) (eIsi "list" (eVar 1))))) (sRet (eC (.bl false))) sNil)
  (sSeq (sIf (toB (eOp vNe (eCB cLen (aCons (eVar 0) aNil)) (eCB cLen (aCons (eVar 1) aNil)))) (sRet (eC (.bl false))) sNil)
  (sSeq (sFor (iR1 (aCons (eCB cLen (aCons (eVar 1) aNil)) aNil)) (tgName 2) (B_law_same_1 R))
  (sRet (eC (.bl true)))))) sNil)
  (sSeq (sIf (toB (eIsi "bool" (eVar 1))) (sRet (eAnd (eIsi "bool" (eVar 0)) (eOp vEq (eVar 0) (eVar 1)))) sNil)
  (sSeq (sIf (toB (eIsi "int" (eVar 1))) (sRet (eAnd (eIsi "int" (eVar 0)) (eAnd (eNot (eIsi "bool" (eVar 0))) (eOp vEq (eVar 0) (eVar 1))))) sNil)
  (sSeq (sIf (toB (eIsi "str" (eVar 1))) (sRet (eAnd (eIsi "str" (eVar 0)) (eOp vEq (eVar 0) (eVar 1)))) sNil)
  (sRet (eAnd (eOp vIs (eVar 1) (eC .non)) (eOp vIs (eVar 0) (eC .non))))))))
def F_law_same : Nat → FF
  | 0 => fun _ => none
  | k + 1 => fnF 1 (b_law_same (F_law_same k))

/-! _law_before: 0 _law_one 1 _law_two 2 _law_left 3 _law_right_here -/
def B_law_before_1 : SF := (sIf (toB (eOp vNe (eVar 2) (eVar 3))) (sRet (eOp vLt (eVar 2) (eVar 3))) sNil)
def b_law_before : SF := (sSeq (sIf (toB (eOp vNe (eCB cLen (aCons (eVar 0) aNil)) (eCB cLen (aCons (eVar 1) aNil)))) (sRet (eOp vLt (eCB cLen (aCons (eVar 0) aNil)) (eCB cLen (aCons (eVar 1) aNil)))) sNil)
  (sSeq (sFor (iZ (aCons (eVar 0) (aCons (eVar 1) aNil))) (tgTup [2, 3]) B_law_before_1)
  (sRet (eC (.bl false)))))
@[irreducible] def F_law_before : FF := fnF 2 b_law_before

def fu_law_heaps_0 : En → Nat := fun _ => 1000
/-! _law_heaps: 0 _law_rows 1 _law_found 2 _law_names 3 _law_many 4 _law_like_here 5 _law_at 6 _law_k -/
def B_law_heaps_1 : SF := (sSet 5 (eOp vAdd (eVar 5) (eC (.int 1))))
def B_law_heaps_2 : SF := (sSeq (sSet 4 (eCB cTup (aCons (eLc [6] (iR1 (aCons (eC (.int 6)) aNil)) (tgName 6) (toB (eOp (vInG false) (eVar 6) (eVar 2))) (eVar 6)) aNil)))
  (sSeq (sSet 5 (eC (.int 0)))
  (sSeq (sWhile fu_law_heaps_0 (tAnd' (toB (eOp vLt (eVar 5) (eCB cLen (aCons (eVar 1) aNil)))) (toB (eCall F_law_before [] (aCons (eOp vIx (eOp vIx (eVar 1) (eVar 5)) (eC (.int 0))) (aCons (eVar 4) aNil))))) B_law_heaps_1)
  (sIf (tAnd' (toB (eOp vGt (eVar 3) (eC (.int 0)))) (tAnd' (toB (eOp vLt (eVar 5) (eCB cLen (aCons (eVar 1) aNil)))) (toB (eOp vEq (eOp vIx (eOp vIx (eVar 1) (eVar 5)) (eC (.int 0))) (eVar 4))))) (sSetIx 1 (eVar 5) (eTup (aCons (eVar 4) (aCons (eOp vAdd (eOp vIx (eOp vIx (eVar 1) (eVar 5)) (eC (.int 1))) (eVar 3)) aNil)))) (sIf (toB (eOp vGt (eVar 3) (eC (.int 0)))) (sIns 1 (eVar 5) (eTup (aCons (eVar 4) (aCons (eVar 3) aNil)))) sNil)))))
def b_law_heaps : SF := (sSeq (sSet 1 (eLst aNil))
  (sSeq (sFor (iL (eVar 0)) (tgTup [2, 3]) B_law_heaps_2)
  (sRetVar 1)))
@[irreducible] def F_law_heaps : FF := fnF 6 b_law_heaps

/-! _law_like: 0 _law_roll 1 _law_words_here 2 _law_k -/
def b_law_like : SF := (sRet (eCB cTup (aCons (eLc [2] (iR1 (aCons (eCB cLen (aCons (eVar 0) aNil)) aNil)) (tgName 2) (toB (eOp (vInG false) (eOp vIx (eVar 0) (eVar 2)) (eVar 1))) (eVar 2)) aNil)))
@[irreducible] def F_law_like : FF := fnF 1 b_law_like

/-! _law_right: 0 _law_box 1 _law_kept 2 _law_first 3 _law_due 4 _law_many 5 _law_found -/
def b_law_right [γ : GSt] (c_Box : Addr) : SF := (sSeq (sSet 3 (eCall F_law_heaps [] (aCons (eLstItems (eVar 1)) aNil)))
  (sSeq (sIf (toB (eVar 2)) (sSeq (sSet 5 (eBM c_Box (F_Box_heaps c_Box) [] (eVar 0) aNil))
  (sSeq (sIf (tNot' (toB (eCall (F_law_same 8) [] (aCons (eVar 5) (aCons (eVar 3) aNil))))) (sRet (eC (.bl false))) sNil)
  (sClr 5))) sNil)
  (sSeq (sSet 4 (eBM c_Box (F_Box_count c_Box) [] (eVar 0) aNil))
  (sSeq (sIf (tOr' (tNot' (toB (eCall F_law_whole [] (aCons (eVar 4) aNil)))) (toB (eOp vNe (eVar 4) (eCB cSum (aCons (eLstVals (eVar 1)) aNil))))) (sRet (eC (.bl false))) sNil)
  (sRet (eCall (F_law_same 8) [] (aCons (eBM c_Box (F_Box_heaps c_Box) [] (eVar 0) aNil) (aCons (eVar 3) aNil))))))))
@[irreducible] def F_law_right [γ : GSt] (c_Box : Addr) : FF := fnF 3 (b_law_right c_Box)

/-! _law_moved: 0 _law_box 1 _law_kept 2 _law_roll 3 _law_xs 4 _law_cell 5 _law_words_here 6 _law_like_here 7 _law_there 8 _law_text 9 _law_many 10 _law_number -/
def b_law_moved (c_Box : Addr) : SG := (sSeqG (sL fun _ => (sSet 5 (eLc [10] (iLc (eSl (eVar 3) (oSome (eC (.int 2))) (oSome (eOp vAdd (eC (.int 2)) (eOp vMod (eOp vIx (eVar 3) (eC (.int 1))) (eC (.int 5))))))) (tgName 10) tYes' (eOp vIx (eVar 2) (eOp vMod (eVar 10) (eCB cLen (aCons (eVar 2) aNil)))))))
  (sSeqG (sL fun _ => (sSet 6 (eCall F_law_like [] (aCons (eVar 2) (aCons (eVar 5) aNil)))))
  (sSeqG (sL fun _ => (sSet 7 (eDGet2 (eDe (eVar 1)) (eVar 6) (eC (.int 0)))))
  (sSeqG (sL fun _ => (sSet 8 (eJoin (eC (.str " ")) (eVar 5))))
  (sSeqG (sL fun _ => (sSet 9 (eOp vIx (eLst (aCons (eC (.int 1)) (aCons (eOp vAdd (eC (.int 1)) (eOp vMod (eOp vIx (eVar 3) (eC (.int 7))) (eC (.int 9)))) (aCons (eOp vAdd (eC (.int 1)) (eOp vMod (eVar 4) (eOp vSub (eOp vPow (eC (.int 10)) (eC (.int 38))) (eC (.int 1))))) aNil)))) (eOp vMod (eOp vIx (eVar 3) (eC (.int 8))) (eC (.int 3))))))
  (sSeqG (sIfG (fun _ => (tAnd' (toB (eOp vEq (eOp vMod (eOp vIx (eVar 3) (eC (.int 0))) (eC (.int 3))) (eC (.int 0)))) (toB (eOp vGt (eVar 7) (eC (.int 0)))))) (sSeqG (sL fun _ => (sSet 9 (eCB cMin2 (aCons (eVar 9) (aCons (eVar 7) aNil)))))
  (sSeqG (sL fun _ => (sIf (toB (eOp vEq (eOp vMod (eOp vIx (eVar 3) (eC (.int 9))) (eC (.int 3))) (eC (.int 0)))) (sSet 9 (eVar 7)) sNil))
  (sSeqG (sGPut (fun _ => (eVar 1)) (fun _ => (eVar 6)) (fun _ => (eOp vSub (eVar 7) (eVar 9))))
  (sSeqG (sIfG (fun _ => (tAnd' (toB (eOp vEq (eVar 9) (eC (.int 1)))) (toB (eOp vEq (eOp vMod (eOp vIx (eVar 3) (eC (.int 9))) (eC (.int 2))) (eC (.int 1)))))) (sRetG (eGM c_Box (F_Box_take c_Box) [.int 1] (fun _ => (eVar 0)) (fun _ => (aCons (eVar 8) aNil)))) (sL fun _ => sNil))
  (sRetG (eGM c_Box (F_Box_take c_Box) [] (fun _ => (eVar 0)) (fun _ => (aCons (eVar 8) (aCons (eVar 9) aNil))))))))) (sL fun _ => sNil))
  (sSeqG (sGPut (fun _ => (eVar 1)) (fun _ => (eVar 6)) (fun _ => (eOp vAdd (eVar 7) (eVar 9))))
  (sSeqG (sIfG (fun _ => (tAnd' (toB (eOp vEq (eVar 9) (eC (.int 1)))) (toB (eOp vEq (eOp vMod (eOp vIx (eVar 3) (eC (.int 9))) (eC (.int 2))) (eC (.int 1)))))) (sRetG (eGM c_Box (F_Box_put c_Box) [.int 1] (fun _ => (eVar 0)) (fun _ => (aCons (eVar 8) aNil)))) (sL fun _ => sNil))
  (sRetG (eGM c_Box (F_Box_put c_Box) [] (fun _ => (eVar 0)) (fun _ => (aCons (eVar 8) (aCons (eVar 9) aNil)))))))))))))
@[irreducible] def F_law_moved (c_Box : Addr) : FG := fnG 6 (b_law_moved c_Box)

/-! law: 0 _law_script 1 _law_roll 2 _law_rolls 3 _law_handed 4 _law_boxes 5 _law_kept 6 _law_cell 7 _law_xs 8 _law_which -/
def B_law_1 (c_Box : Addr) : SG := (sSeqG (sL fun _ => (sSet 7 (eCall F_law_mixed [] (aCons (eVar 6) (aCons (eC (.int 12)) aNil)))))
  (sSeqG (sL fun _ => (sFz 7 (sSet 8 (eOp vMod (eOp vIx (eVar 7) (eC (.int 10))) (eC (.int 2))))))
  (sSeqG (sIfNN (eGC (F_law_moved c_Box) (fun _ => (aCons (eOp vIx (eVar 4) (eVar 8)) (aCons (eOp vIx (eVar 5) (eVar 8)) (aCons (eOp vIx (eVar 2) (eVar 8)) (aCons (eVar 7) (aCons (eVar 6) aNil))))))) (sL fun _ => (sRet (eC (.bl false)))) (sL fun _ => sNil))
  (sL fun _ => (sIf (tNot' (toB (eCallR (F_law_right c_Box) (aCons (eOp vIx (eVar 4) (eVar 8)) (aCons (eOp vIx (eVar 5) (eVar 8)) (aCons (eOp vEq (eOp vMod (eOp vIx (eVar 7) (eC (.int 11))) (eC (.int 2))) (eC (.int 1))) aNil)))))) (sRet (eC (.bl false))) sNil)))))
def b_law (c_Box : Addr) : SG := (sSeqG (sForG (iL (eSl (eVar 0) (oSome (eC (.int 6))) (oSome (eC (.int 63))))) (tgName 6) (B_law_1 c_Box))
  (sL fun _ => (sRet (eAnd (eCallR (F_law_right c_Box) (aCons (eOp vIx (eVar 4) (eC (.int 0))) (aCons (eOp vIx (eVar 5) (eC (.int 0))) (aCons (eC (.bl true)) aNil)))) (eCallR (F_law_right c_Box) (aCons (eOp vIx (eVar 4) (eC (.int 1))) (aCons (eOp vIx (eVar 5) (eC (.int 1))) (aCons (eC (.bl false)) aNil))))))))

def topS (i : Nat) : Stmt := PySem.Challenge.pw_fairbench_k52_whole_box.main.body.getD i (.Pass ⟨0, 0, 0, 0⟩)
def clsS (i j : Nat) : Stmt := match topS i with
  | .ClassDef _ _ _ body _ _ _ _ _ _ _ => body.getD j (.Pass ⟨0, 0, 0, 0⟩)
  | s => s
section
variable {P : Program} {w : World} {K : PySem.W.Frag} {mg : Str → Option Value} {base : Heap}
abbrev N_rank : List Str := ["names"]
theorem sc_rank : FnScope ["names"] ["names"] (defScope (topS 10)) := ⟨rfl, rfl, rfl, by decide +kernel, rfl, by decide +kernel, by decide +kernel⟩
theorem ok_rank {f : Addr} {fd : FuncData} (F : Fun K "rank" "rank" (topS 10) f fd) (m_tuple : mg "tuple" = none) (m_len : mg "len" = none) : FnOk P w K mg base CX0 1 f fd ["names"] (spD K mg 1 F_rank) := by
  unfold F_rank
  refine fn_ok F sc_rank rfl fun cdv A outer s H E hr => ?_
  have nd := sc_rank.nd
  exact ⟨_, (gss_one (gs_ret (ge_tup (ga_cons (ge_callB sc_len call_len rfl m_len (by decide +kernel) (ga_cons (ge_var 0) ga_nil)) (ga_cons (ge_callTy sc_tup call_tuple_of rfl m_tuple (by decide +kernel) (ga_cons (ge_var 0) ga_nil)) ga_nil)))))⟩

abbrev N_look_names : List Str := ["count", "rows", "names", "many", "name"]
theorem sc_look_names : FnScope ["count", "rows", "names", "many", "name"] ["count", "rows"] (defScope (topS 11)) := ⟨rfl, rfl, rfl, by decide +kernel, rfl, by decide +kernel, by decide +kernel⟩
theorem ok_look_names {f : Addr} {fd : FuncData} (F : Fun K "look_names" "look_names" (topS 11) f fd) {C_NoName : Addr} (x_NoName : ExcTxt K mg "NoName" C_NoName) : FnOk P w K mg base (L2.CX P w) 1 f fd ["count", "rows"] (spD K mg 2 F_look_names) := by
  unfold F_look_names
  refine fn_okX F sc_look_names rfl fun cdv A outer s H E hr => ?_
  have nd := sc_look_names.nd
  have tk := tk_of (P := P) (w := w) (K := K) (mg := mg) (base := base) (N := ["count", "rows", "names", "many", "name"]) (qual := "look_names") (sc := defScope (topS 11)) (f := f) (cdv := cdv) (A := A) (outer := outer) (s := s) (H := H) (E := E)
  exact ⟨_, (gss_one (gs_for (passes_of rfl) rfl (gi_list (ge_var 1)) (gg_tup rfl (ggs_cons (i := 2) nd (ggs_cons (i := 3) nd ggs_nil))) (gss_one (gs_for (passes_of rfl) rfl (gi_tup (ge_var 2)) (gg_name (i := 4) nd) (gss_one (gs_if (gt_w (gw_or (gt_cmp sv_lt (op_ltA hr.units) (ge_var 4) ge_int (nomark _)) (gw_or1 (gt_cmp sv_ge op_ge (ge_var 4) (ge_var 0) (nomark _))))) (gss_one (gs_raise rfl tk x_NoName)) gss_nil))))))⟩

abbrev N_heaps_of : List Str := ["count", "rows", "heaps", "names", "many", "like"]
theorem sc_heaps_of : FnScope ["count", "rows", "heaps", "names", "many", "like"] ["count", "rows"] (defScope (topS 12)) := ⟨rfl, rfl, rfl, by decide +kernel, rfl, by decide +kernel, by decide +kernel⟩
theorem ok_heaps_of {f : Addr} {fd : FuncData} {f_look_names : Addr} {fd_look_names : FuncData} {f_rank : Addr} {fd_rank : FuncData} (F : Fun K "heaps_of" "heaps_of" (topS 12) f fd) (m_MOST : IntTxt mg "MOST" 6) {C_NoCount : Addr} (x_NoCount : ExcTxt K mg "NoCount" C_NoCount) {C_NoHeap : Addr} (x_NoHeap : ExcTxt K mg "NoHeap" C_NoHeap) (m_tuple : mg "tuple" = none) (m_sorted : mg "sorted" = none) (m_set : mg "set" = none) (m_len : mg "len" = none) (m_list : mg "list" = none) (G_look_names : FnOk P w K mg base (L2.CX P w) 1 f_look_names fd_look_names ["count", "rows"] (spD K mg 2 F_look_names)) (g_look_names : DefTxt K mg "look_names" f_look_names fd_look_names ["count", "rows"]) (G_rank : FnOk P w K mg base CX0 1 f_rank fd_rank ["names"] (spD K mg 1 F_rank)) (g_rank : DefTxt K mg "rank" f_rank fd_rank ["names"]) : FnOk P w K mg base (L2.CX P w) 4 f fd ["count", "rows"] (spD K mg 2 F_heaps_of) := by
  unfold F_heaps_of
  refine fn_okX F sc_heaps_of rfl fun cdv A outer s H E hr => ?_
  have nd := sc_heaps_of.nd
  have tk := tk_of (P := P) (w := w) (K := K) (mg := mg) (base := base) (N := ["count", "rows", "heaps", "names", "many", "like"]) (qual := "heaps_of") (sc := defScope (topS 12)) (f := f) (cdv := cdv) (A := A) (outer := outer) (s := s) (H := H) (E := E)
  exact ⟨_, (gss_cons (gs_if (gt_w (gw_or (gt_cmp sv_lt (op_ltA hr.units) (ge_var 0) ge_int (nomark _)) (gw_or1 (gt_cmp sv_gt op_gt (ge_var 0) (ge_cint m_MOST) (nomark _))))) (gss_one (gs_raise rfl tk x_NoCount)) gss_nil)
    (gss_cons (gs_callX G_look_names (hr.mono (by decide)) g_look_names.1 g_look_names.2.1 g_look_names.2.2 tk (ga_cons (ge_var 0) (ga_cons (ge_var 1) ga_nil)) (argN_cons (argN_cons argN_nil)))
    (gss_cons (gs_set (i := 2) nd ge_dictT)
    (gss_cons (gs_for (passes_of rfl) rfl (gi_list (ge_var 1)) (gg_tup rfl (ggs_cons (i := 3) nd (ggs_cons (i := 4) nd ggs_nil))) (gss_cons (gs_if (gt_cmp sv_lt (op_ltA hr.units) (ge_var 4) ge_int (nomark _)) (gss_one (gs_raise rfl tk x_NoHeap)) gss_nil)
    (gss_one (gs_if (gt_cmp sv_gt op_gt (ge_var 4) ge_int (nomark _)) (gss_cons (gs_set (i := 5) nd (ge_callTy sc_tup call_tuple_of rfl m_tuple (by decide +kernel) (ga_cons (ge_srtSetT rfl m_sorted m_set (ge_var 3)) ga_nil)))
    (gss_one (gs_dput (X := (cxOf (L2.CX P w) P w K mg base N_heaps_of "heaps_of" (defScope (topS 12)) f cdv A outer s H E)) 2 (hu_of hr) (ge_var 5) (ge_bin sv_add op_addA (ge_dget2 (hu_of hr) (ge_var 2) (ge_var 5) ge_int) (ge_var 4))))) gss_nil))))
    (gss_cons (gs_if (gt_cmp sv_eq (op_eqD hr.units) (ge_callB sc_lenD call_len_dT rfl m_len (by decide +kernel) (ga_cons (ge_var 2) ga_nil)) ge_int (nomark _)) (gss_one (gs_raise rfl tk x_NoHeap)) gss_nil)
    (gss_one (gs_ret (ge_lc [("names", 3)] rfl nd (gic_list (ge_sortF G_rank (hr.mono (by decide)) g_rank.1 g_rank.2.2 m_sorted (ge_callTy sc_lstD (call_list_dT rfl) rfl m_list (by decide +kernel) (ga_cons (ge_var 2) ga_nil)))) N_heaps_of (defScope (topS 12)) (by decide +kernel) (fun _ _ _ _ _ => (ggb_name (i := 3) nd)) (fun _ _ _ _ _ => gts_nil) (fun _ _ _ _ _ => (ge_tup (ga_cons (ge_var 3) (ga_cons (ge_dget (hu_of hr) (ge_var 2) (ge_var 3)) ga_nil))))))))))))⟩

abbrev N_is_word : List Str := ["text", "sign"]
theorem sc_is_word : FnScope ["text", "sign"] ["text"] (defScope (topS 16)) := ⟨rfl, rfl, rfl, by decide +kernel, rfl, by decide +kernel, by decide +kernel⟩
theorem ok_is_word {f : Addr} {fd : FuncData} (F : Fun K "is_word" "is_word" (topS 16) f fd) (m_len : mg "len" = none) (m_LONGEST : IntTxt mg "LONGEST" 12) : FnOk P w K mg base CX0 1 f fd ["text"] (spD K mg 1 F_is_word) := by
  unfold F_is_word
  refine fn_ok F sc_is_word rfl fun cdv A outer s H E hr => ?_
  have nd := sc_is_word.nd
  exact ⟨_, (gss_cons (gs_if (gt_w (gw_or (gt_cmp sv_lt (op_ltA hr.units) (ge_callB sc_len call_len rfl m_len (by decide +kernel) (ga_cons (ge_var 0) ga_nil)) ge_int (nomark _)) (gw_or1 (gt_cmp sv_gt op_gt (ge_callB sc_len call_len rfl m_len (by decide +kernel) (ga_cons (ge_var 0) ga_nil)) (ge_cint m_LONGEST) (nomark _))))) (gss_one (gs_ret ge_bl)) gss_nil)
    (gss_cons (gs_for PassesOwn.never rfl (gi_str (ge_var 0)) (gg_name (i := 1) nd) (gss_one (gs_if (gt_w (gw_or (gt_cmp sv_lt (op_ltA hr.units) (ge_var 1) ge_str (nomark _)) (gw_or1 (gt_cmp sv_gtS op_gt_str (ge_var 1) ge_str (nomark _))))) (gss_one (gs_ret ge_bl)) gss_nil)))
    (gss_one (gs_ret ge_bl))))⟩

abbrev N_roll_of : List Str := ["words", "k"]
theorem sc_roll_of : FnScope ["words", "k"] ["words"] (defScope (topS 17)) := ⟨rfl, rfl, rfl, by decide +kernel, rfl, by decide +kernel, by decide +kernel⟩
theorem ok_roll_of {f : Addr} {fd : FuncData} {f_is_word : Addr} {fd_is_word : FuncData} (F : Fun K "roll_of" "roll_of" (topS 17) f fd) (m_len : mg "len" = none) (m_MOST_WORDS : IntTxt mg "MOST_WORDS" 6) {C_NoRoll : Addr} (x_NoRoll : ExcTxt K mg "NoRoll" C_NoRoll) (m_range : mg "range" = none) (m_list : mg "list" = none) (G_is_word : FnOk P w K mg base CX0 1 f_is_word fd_is_word ["text"] (spD K mg 1 F_is_word)) (g_is_word : DefTxt K mg "is_word" f_is_word fd_is_word ["text"]) : FnOk P w K mg base (L2.CX P w) 2 f fd ["words"] (spD K mg 1 F_roll_of) := by
  unfold F_roll_of
  refine fn_okX F sc_roll_of rfl fun cdv A outer s H E hr => ?_
  have nd := sc_roll_of.nd
  have tk := tk_of (P := P) (w := w) (K := K) (mg := mg) (base := base) (N := ["words", "k"]) (qual := "roll_of") (sc := defScope (topS 17)) (f := f) (cdv := cdv) (A := A) (outer := outer) (s := s) (H := H) (E := E)
  exact ⟨_, (gss_cons (gs_if (gt_w (gw_or (gt_cmp sv_lt (op_ltA hr.units) (ge_callB sc_len call_len rfl m_len (by decide +kernel) (ga_cons (ge_var 0) ga_nil)) ge_int (nomark _)) (gw_or1 (gt_cmp sv_gt op_gt (ge_callB sc_len call_len rfl m_len (by decide +kernel) (ga_cons (ge_var 0) ga_nil)) (ge_cint m_MOST_WORDS) (nomark _))))) (gss_one (gs_raise rfl tk x_NoRoll)) gss_nil)
    (gss_cons (gs_for (passes_of rfl) rfl (gi_r1 m_range (ga_cons (ge_callB sc_len call_len rfl m_len (by decide +kernel) (ga_cons (ge_var 0) ga_nil)) ga_nil)) (gg_name (i := 1) nd) (gss_one (gs_if (gt_w (gw_or (gt_not (gt_val (ge_call G_is_word (hr.mono (by decide)) g_is_word.1 g_is_word.2.1 g_is_word.2.2 .nil (fun _ => .nil) pass0 (ga_cons (ge_ix (ge_var 0) (ge_var 1)) ga_nil) (argN_cons argN_nil)))) (gw_or1 (gt_cmp (sv_in false) op_in_seq (ge_ix (ge_var 0) (ge_var 1)) (ge_sl (ge_var 0) go_none (go_some (ge_var 1))) (by rfl))))) (gss_one (gs_raise rfl tk x_NoRoll)) gss_nil)))
    (gss_one (gs_ret (ge_callTy sc_lst call_list_of rfl m_list (by decide +kernel) (ga_cons (ge_var 0) ga_nil))))))⟩

abbrev N_Box_places_named : List Str := ["self", "text", "places", "word"]
theorem sc_Box_places_named : FnScope ["self", "text", "places", "word"] ["self", "text"] (defScope (clsS 18 1)) := ⟨rfl, rfl, rfl, by decide +kernel, rfl, by decide +kernel, by decide +kernel⟩
theorem ok_Box_places_named {f : Addr} {fd : FuncData} { c_Box : Addr} (F : Fun K "places_named" "Box.places_named" (clsS 18 1) f fd) {C_NoBallot : Addr} (x_NoBallot : ExcTxt K mg "NoBallot" C_NoBallot) (m_tuple : mg "tuple" = none) (m_sorted : mg "sorted" = none) (m_set : mg "set" = none) (B_Box : BxC K c_Box) : FnOk P w K mg base (L2.CX P w) 1 f fd ["self", "text"] (spR K mg 2 fun g => @F_Box_places_named g c_Box) := by
  refine fnR_of fun γ => ?_
  show FnOk P w K mg base (L2.CX P w) 1 f fd ["self", "text"] (spDg γ K mg 2 (@F_Box_places_named γ c_Box))
  unfold F_Box_places_named
  refine fn_okX F sc_Box_places_named rfl fun cdv A outer s H E hr => ?_
  have nd := sc_Box_places_named.nd
  have tk := tk_of (P := P) (w := w) (K := K) (mg := mg) (base := base) (N := ["self", "text", "places", "word"]) (qual := "Box.places_named") (sc := defScope (clsS 18 1)) (f := f) (cdv := cdv) (A := A) (outer := outer) (s := s) (H := H) (E := E)
  exact ⟨_, (gss_cons (gs_if (gt_cmp sv_eq (op_eqD hr.units) (ge_var 1) ge_str (nomark _)) (gss_one (gs_ret (ge_tup ga_nil))) gss_nil)
    (gss_cons (gs_set (i := 2) nd (ge_lst ga_nil))
    (gss_cons (gs_for (passes_of rfl) rfl (gi_list (ge_split (ge_var 1) ge_str)) (gg_name (i := 3) nd) (gss_cons (gs_if (gt_cmp (sv_in true) op_notIn_seq (ge_var 3) (ge_fldR B_Box (ge_var 0)) (by rfl)) (gss_one (gs_raise rfl tk x_NoBallot)) gss_nil)
    (gss_one (gs_app 2 (ge_index (ge_fldR B_Box (ge_var 0)) (ge_var 3))))))
    (gss_one (gs_ret (ge_callTy sc_tup call_tuple_of rfl m_tuple (by decide +kernel) (ga_cons (ge_srtSet rfl m_sorted m_set (ge_var 2)) ga_nil)))))))⟩

abbrev N_Box_put : List Str := ["self", "text", "many", "names"]
theorem sc_Box_put : FnScope ["self", "text", "many", "names"] ["self", "text", "many"] (defScope (clsS 18 2)) := ⟨rfl, rfl, rfl, by decide +kernel, rfl, by decide +kernel, by decide +kernel⟩
theorem ok_Box_put {f : Addr} {fd : FuncData} { c_Box : Addr} (F : FunDS K "put" "Box.put" (clsS 18 2) [.int 1] f fd) {C_NoHeap : Addr} (x_NoHeap : ExcTxt K mg "NoHeap" C_NoHeap) (B_Box : BxC K c_Box) (D_places_named : BM P w K mg base c_Box (L2.CX P w) 1 "places_named" (spR K mg 2 fun g => @F_Box_places_named g c_Box) []) : FnOk P w K mg base (L2.CX P w) 2 f fd ["self", "text", "many"] (spG K mg 3 (F_Box_put c_Box)) := by
  unfold F_Box_put
  refine fn_okGD F sc_Box_put rfl fun cdv A outer s H E hr => ?_
  have nd := sc_Box_put.nd
  have tk := tk_of (P := P) (w := w) (K := K) (mg := mg) (base := base) (N := ["self", "text", "many", "names"]) (qual := "Box.put") (sc := defScope (clsS 18 2)) (f := f) (cdv := cdv) (A := A) (outer := outer) (s := s) (H := H) (E := E)
  exact ⟨_, (gus_cons (gu_lift fun _ => (gs_setBX (i := 3) D_places_named (hr.mono (by decide)) tk nd (by decide) (ge_var 0) (ga_cons (ge_var 1) ga_nil) (argN1 (argN_cons argN_nil))))
    (gus_cons (gu_lift fun _ => (gs_if (gt_cmp sv_lt (op_ltA hr.units) (ge_var 2) ge_int (nomark _)) (gss_one (gs_raise rfl tk x_NoHeap)) gss_nil))
    (gus_one (gu_gput (hu_of hr) (fun _ => (ge_fldK B_Box (ge_var 0))) (fun _ => (ge_var 3)) (fun _ => (ge_bin sv_add op_addA (ge_dget2 (hu_of hr) (ge_de (ge_fldK B_Box (ge_var 0))) (ge_var 3) ge_int) (ge_var 2)))))))⟩

abbrev N_Box_take : List Str := ["self", "text", "many", "names", "there"]
theorem sc_Box_take : FnScope ["self", "text", "many", "names", "there"] ["self", "text", "many"] (defScope (clsS 18 3)) := ⟨rfl, rfl, rfl, by decide +kernel, rfl, by decide +kernel, by decide +kernel⟩
theorem ok_Box_take {f : Addr} {fd : FuncData} { c_Box : Addr} (F : FunDS K "take" "Box.take" (clsS 18 3) [.int 1] f fd) {C_NoHeap : Addr} (x_NoHeap : ExcTxt K mg "NoHeap" C_NoHeap) (B_Box : BxC K c_Box) (D_places_named : BM P w K mg base c_Box (L2.CX P w) 1 "places_named" (spR K mg 2 fun g => @F_Box_places_named g c_Box) []) : FnOk P w K mg base (L2.CX P w) 2 f fd ["self", "text", "many"] (spG K mg 3 (F_Box_take c_Box)) := by
  unfold F_Box_take
  refine fn_okGD F sc_Box_take rfl fun cdv A outer s H E hr => ?_
  have nd := sc_Box_take.nd
  have tk := tk_of (P := P) (w := w) (K := K) (mg := mg) (base := base) (N := ["self", "text", "many", "names", "there"]) (qual := "Box.take") (sc := defScope (clsS 18 3)) (f := f) (cdv := cdv) (A := A) (outer := outer) (s := s) (H := H) (E := E)
  exact ⟨_, (gus_cons (gu_lift fun _ => (gs_setBX (i := 3) D_places_named (hr.mono (by decide)) tk nd (by decide) (ge_var 0) (ga_cons (ge_var 1) ga_nil) (argN1 (argN_cons argN_nil))))
    (gus_cons (gu_lift fun _ => (gs_set (i := 4) nd (ge_dget2 (hu_of hr) (ge_de (ge_fldK B_Box (ge_var 0))) (ge_var 3) ge_int)))
    (gus_cons (gu_lift fun _ => (gs_if (gt_w (gw_or (gt_cmp sv_lt (op_ltA hr.units) (ge_var 2) ge_int (nomark _)) (gw_or1 (gt_cmp sv_gt op_gt (ge_var 2) (ge_var 4) (nomark _))))) (gss_one (gs_raise rfl tk x_NoHeap)) gss_nil))
    (gus_one (gu_gput (hu_of hr) (fun _ => (ge_fldK B_Box (ge_var 0))) (fun _ => (ge_var 3)) (fun _ => (ge_bin sv_sub op_sub (ge_var 4) (ge_var 2))))))))⟩

abbrev N_Box_count : List Str := ["self"]
theorem sc_Box_count : FnScope ["self"] ["self"] (defScope (clsS 18 4)) := ⟨rfl, rfl, rfl, by decide +kernel, rfl, by decide +kernel, by decide +kernel⟩
theorem ok_Box_count {f : Addr} {fd : FuncData} { c_Box : Addr} (F : Fun K "count" "Box.count" (clsS 18 4) f fd) (m_sum : mg "sum" = none) (m_list : mg "list" = none) (B_Box : BxC K c_Box) : FnOk P w K mg base CX0 1 f fd ["self"] (spR K mg 1 fun g => @F_Box_count g c_Box) := by
  refine fnR_of fun γ => ?_
  show FnOk P w K mg base CX0 1 f fd ["self"] (spDg γ K mg 1 (@F_Box_count γ c_Box))
  unfold F_Box_count
  refine fn_ok F sc_Box_count rfl fun cdv A outer s H E hr => ?_
  have nd := sc_Box_count.nd
  exact ⟨_, (gss_one (gs_ret (ge_callB sc_sum (cr_sum rfl) rfl m_sum (by decide +kernel) (ga_cons (ge_lstVals rfl m_list (ge_fldK B_Box (ge_var 0))) ga_nil))))⟩

abbrev N_Box_heaps : List Str := ["self"]
theorem sc_Box_heaps : FnScope ["self"] ["self"] (defScope (clsS 18 5)) := ⟨rfl, rfl, rfl, by decide +kernel, rfl, by decide +kernel, by decide +kernel⟩
theorem ok_Box_heaps {f : Addr} {fd : FuncData} { c_Box : Addr} {f_heaps_of : Addr} {fd_heaps_of : FuncData} (F : Fun K "heaps" "Box.heaps" (clsS 18 5) f fd) (m_list : mg "list" = none) (m_len : mg "len" = none) (B_Box : BxC K c_Box) (D_count : BM P w K mg base c_Box CX0 1 "count" (spR K mg 1 fun g => @F_Box_count g c_Box) []) (G_heaps_of : FnOk P w K mg base (L2.CX P w) 4 f_heaps_of fd_heaps_of ["count", "rows"] (spD K mg 2 F_heaps_of)) (g_heaps_of : DefTxt K mg "heaps_of" f_heaps_of fd_heaps_of ["count", "rows"]) : FnOk P w K mg base (L2.CX P w) 5 f fd ["self"] (spR K mg 1 fun g => @F_Box_heaps g c_Box) := by
  refine fnR_of fun γ => ?_
  show FnOk P w K mg base (L2.CX P w) 5 f fd ["self"] (spDg γ K mg 1 (@F_Box_heaps γ c_Box))
  unfold F_Box_heaps
  refine fn_okX F sc_Box_heaps rfl fun cdv A outer s H E hr => ?_
  have nd := sc_Box_heaps.nd
  have tk := tk_of (P := P) (w := w) (K := K) (mg := mg) (base := base) (N := ["self"]) (qual := "Box.heaps") (sc := defScope (clsS 18 5)) (f := f) (cdv := cdv) (A := A) (outer := outer) (s := s) (H := H) (E := E)
  exact ⟨_, (gss_cons (gs_if (gt_cmp sv_eq (op_eqD hr.units) (ge_bm0 (X := (cxOf (L2.CX P w) P w K mg base N_Box_heaps "Box.heaps" (defScope (clsS 18 5)) f cdv A outer s H E)) (dvs := []) D_count (hr.mono (by decide)) .nil (fun _ => .nil) pass0 (by decide) (ge_var 0) rfl) ge_int (nomark _)) (gss_one (gs_ret (ge_lst ga_nil))) gss_nil)
    (gss_one (gs_ret (ge_call G_heaps_of (hr.mono (by decide)) g_heaps_of.1 g_heaps_of.2.1 g_heaps_of.2.2 .nil (fun _ => .nil) passF (ga_cons (ge_callB sc_len call_len rfl m_len (by decide +kernel) (ga_cons (ge_fldR B_Box (ge_var 0)) ga_nil)) (ga_cons (ge_lstItems rfl m_list (ge_fldK B_Box (ge_var 0))) ga_nil)) (argN_cons (argN_cons argN_nil))))))⟩

abbrev N_law_cell_at : List Str := ["_law_script", "_law_k"]
theorem sc_law_cell_at : FnScope ["_law_script", "_law_k"] ["_law_script", "_law_k"] (defScope (topS 20)) := ⟨rfl, rfl, rfl, by decide +kernel, rfl, by decide +kernel, by decide +kernel⟩
theorem ok_law_cell_at {f : Addr} {fd : FuncData} (F : Fun K "_law_cell_at" "_law_cell_at" (topS 20) f fd) (m_len : mg "len" = none) : FnOk P w K mg base CX0 1 f fd ["_law_script", "_law_k"] (spD K mg 2 F_law_cell_at) := by
  unfold F_law_cell_at
  refine fn_ok F sc_law_cell_at rfl fun cdv A outer s H E hr => ?_
  have nd := sc_law_cell_at.nd
  exact ⟨_, (gss_cons (gs_if (gt_cmp sv_lt (op_ltA hr.units) (ge_var 1) (ge_callB sc_len call_len rfl m_len (by decide +kernel) (ga_cons (ge_var 0) ga_nil)) (nomark _)) (gss_one (gs_ret (ge_ix (ge_var 0) (ge_var 1)))) gss_nil)
    (gss_one (gs_ret ge_int)))⟩

abbrev N_law_mixed : List Str := ["_law_cell", "_law_many", "_law_found", "_law_number", "_law_k"]
theorem sc_law_mixed : FnScope ["_law_cell", "_law_many", "_law_found", "_law_number", "_law_k"] ["_law_cell", "_law_many"] (defScope (topS 21)) := ⟨rfl, rfl, rfl, by decide +kernel, rfl, by decide +kernel, by decide +kernel⟩
theorem ok_law_mixed {f : Addr} {fd : FuncData} (F : Fun K "_law_mixed" "_law_mixed" (topS 21) f fd) (m_range : mg "range" = none) : FnOk P w K mg base CX0 1 f fd ["_law_cell", "_law_many"] (spD K mg 2 F_law_mixed) := by
  unfold F_law_mixed
  refine fn_ok F sc_law_mixed rfl fun cdv A outer s H E hr => ?_
  have nd := sc_law_mixed.nd
  exact ⟨_, (gss_cons (gs_set (i := 2) nd (ge_lst ga_nil))
    (gss_cons (gs_set (i := 3) nd (ge_bin sv_div op_fdivW (ge_var 0) ge_int))
    (gss_cons (gs_if (gt_cmp sv_eq (op_eqD hr.units) (ge_bin sv_mod op_mod (ge_var 0) ge_int) ge_int (nomark _)) (gss_cons (gs_for PassesOwn.never rfl (gi_r1 m_range (ga_cons (ge_var 1) ga_nil)) (gg_name (i := 4) nd) (gss_cons (gs_app 2 (ge_bin sv_mod op_mod (ge_var 3) ge_int))
    (gss_one (gs_set (i := 3) nd (ge_bin sv_div op_fdivW (ge_var 3) ge_int)))))
    (gss_one (gs_retVar 2))) gss_nil)
    (gss_cons (gs_set (i := 3) nd (ge_bin sv_mod op_mod (ge_bin sv_add op_addA (ge_bin sv_mul op_mulX (ge_bin sv_mod op_mod (ge_var 3) ge_int) ge_int) ge_int) ge_int))
    (gss_cons (gs_for PassesOwn.never rfl (gi_r1 m_range (ga_cons (ge_var 1) ga_nil)) (gg_name (i := 4) nd) (gss_cons (gs_set (i := 3) nd (ge_bin sv_mod op_mod (ge_bin sv_add op_addA (ge_bin sv_add op_addA (ge_bin sv_add op_addA (ge_bin sv_mul op_mulX (ge_var 3) (ge_var 3)) (ge_bin sv_mul op_mulX ge_int (ge_var 3))) (ge_var 4)) ge_int) ge_int))
    (gss_one (gs_app 2 (ge_var 3)))))
    (gss_one (gs_retVar 2)))))))⟩

abbrev N_law_base : List Str := ["_law_cell", "_law_size", "_law_found", "_law_rest", "_law_k"]
theorem sc_law_base : FnScope ["_law_cell", "_law_size", "_law_found", "_law_rest", "_law_k"] ["_law_cell", "_law_size"] (defScope (topS 22)) := ⟨rfl, rfl, rfl, by decide +kernel, rfl, by decide +kernel, by decide +kernel⟩
theorem ok_law_base {f : Addr} {fd : FuncData} (F : Fun K "_law_base" "_law_base" (topS 22) f fd) (m_range : mg "range" = none) : FnOk P w K mg base CX0 1 f fd ["_law_cell", "_law_size"] (spD K mg 2 F_law_base) := by
  unfold F_law_base
  refine fn_ok F sc_law_base rfl fun cdv A outer s H E hr => ?_
  have nd := sc_law_base.nd
  exact ⟨_, (gss_cons (gs_set (i := 2) nd ge_str)
    (gss_cons (gs_set (i := 3) nd (ge_bin sv_div op_fdivW (ge_var 0) ge_int))
    (gss_cons (gs_if (gt_cmp sv_eq (op_eqD hr.units) (ge_bin sv_mod op_mod (ge_var 0) ge_int) ge_int (nomark _)) (gss_one (gs_set (i := 3) nd (ge_bin sv_mod op_mod (ge_bin sv_add op_addA (ge_bin sv_mul op_mulX (ge_bin sv_mod op_mod (ge_var 3) ge_int) ge_int) ge_int) ge_int))) gss_nil)
    (gss_cons (gs_for PassesOwn.never rfl (gi_r1 m_range (ga_cons (ge_var 1) ga_nil)) (gg_name (i := 4) nd) (gss_cons (gs_if (gt_cmp sv_eq (op_eqD hr.units) (ge_bin sv_mod op_mod (ge_var 0) ge_int) ge_int (nomark _)) (gss_one (gs_set (i := 3) nd (ge_bin sv_mod op_mod (ge_bin sv_add op_addA (ge_bin sv_add op_addA (ge_bin sv_add op_addA (ge_bin sv_mul op_mulX (ge_var 3) (ge_var 3)) (ge_bin sv_mul op_mulX ge_int (ge_var 3))) (ge_var 4)) ge_int) ge_int))) gss_nil)
    (gss_cons (gs_set (i := 2) nd (ge_bin sv_add op_addA (ge_var 2) (ge_ix ge_str (ge_bin sv_mod op_mod (ge_var 3) ge_int))))
    (gss_one (gs_if (gt_cmp sv_eq (op_eqD hr.units) (ge_bin sv_mod op_mod (ge_var 0) ge_int) ge_int (nomark _)) (gss_one (gs_set (i := 3) nd (ge_bin sv_div op_fdivW (ge_var 3) ge_int))) gss_nil)))))
    (gss_one (gs_retVar 2))))))⟩

abbrev N_law_word : List Str := ["_law_base_here", "_law_place", "_law_size", "_law_k", "_law_letters", "_law_other"]
theorem sc_law_word : FnScope ["_law_base_here", "_law_place", "_law_size", "_law_k", "_law_letters", "_law_other"] ["_law_base_here", "_law_place", "_law_size", "_law_k"] (defScope (topS 23)) := ⟨rfl, rfl, rfl, by decide +kernel, rfl, by decide +kernel, by decide +kernel⟩
theorem ok_law_word {f : Addr} {fd : FuncData} (F : Fun K "_law_word" "_law_word" (topS 23) f fd)  : FnOk P w K mg base CX0 1 f fd ["_law_base_here", "_law_place", "_law_size", "_law_k"] (spD K mg 4 F_law_word) := by
  unfold F_law_word
  refine fn_ok F sc_law_word rfl fun cdv A outer s H E hr => ?_
  have nd := sc_law_word.nd
  exact ⟨_, (gss_cons (gs_set (i := 4) nd ge_str)
    (gss_cons (gs_set (i := 5) nd (ge_ix (ge_var 4) (ge_bin sv_mod op_mod (ge_bin sv_add op_addA (ge_find (ge_var 4) (ge_ix (ge_var 0) (ge_var 1))) (ge_bin sv_mul op_mulX ge_int (ge_var 3))) ge_int)))
    (gss_one (gs_ret (ge_bin sv_add op_addA (ge_bin sv_add op_addA (ge_sl (ge_var 0) go_none (go_some (ge_var 1))) (ge_var 5)) (ge_sl (ge_var 0) (go_some (ge_bin sv_add op_addA (ge_var 1) ge_int)) (go_some (ge_var 2))))))))⟩

abbrev N_law_words : List Str := ["_law_script", "_law_at", "_law_many", "_law_cell", "_law_size", "_law_base_here", "_law_words_here", "_law_k", "_law_word_here"]
theorem sc_law_words : FnScope ["_law_script", "_law_at", "_law_many", "_law_cell", "_law_size", "_law_base_here", "_law_words_here", "_law_k", "_law_word_here"] ["_law_script", "_law_at", "_law_many"] (defScope (topS 24)) := ⟨rfl, rfl, rfl, by decide +kernel, rfl, by decide +kernel, by decide +kernel⟩
theorem ok_law_words {f : Addr} {fd : FuncData} {f_law_cell_at : Addr} {fd_law_cell_at : FuncData} {f_law_base : Addr} {fd_law_base : FuncData} {f_law_word : Addr} {fd_law_word : FuncData} (F : Fun K "_law_words" "_law_words" (topS 24) f fd) (m_range : mg "range" = none) (G_law_cell_at : FnOk P w K mg base CX0 1 f_law_cell_at fd_law_cell_at ["_law_script", "_law_k"] (spD K mg 2 F_law_cell_at)) (g_law_cell_at : DefTxt K mg "_law_cell_at" f_law_cell_at fd_law_cell_at ["_law_script", "_law_k"]) (G_law_base : FnOk P w K mg base CX0 1 f_law_base fd_law_base ["_law_cell", "_law_size"] (spD K mg 2 F_law_base)) (g_law_base : DefTxt K mg "_law_base" f_law_base fd_law_base ["_law_cell", "_law_size"]) (G_law_word : FnOk P w K mg base CX0 1 f_law_word fd_law_word ["_law_base_here", "_law_place", "_law_size", "_law_k"] (spD K mg 4 F_law_word)) (g_law_word : DefTxt K mg "_law_word" f_law_word fd_law_word ["_law_base_here", "_law_place", "_law_size", "_law_k"]) : FnOk P w K mg base CX0 2 f fd ["_law_script", "_law_at", "_law_many"] (spD K mg 3 F_law_words) := by
  unfold F_law_words
  refine fn_ok F sc_law_words rfl fun cdv A outer s H E hr => ?_
  have nd := sc_law_words.nd
  exact ⟨_, (gss_cons (gs_set (i := 3) nd (ge_call G_law_cell_at (hr.mono (by decide)) g_law_cell_at.1 g_law_cell_at.2.1 g_law_cell_at.2.2 .nil (fun _ => .nil) pass0 (ga_cons (ge_var 0) (ga_cons (ge_var 1) ga_nil)) (argN_cons (argN_cons argN_nil))))
    (gss_cons (gs_set (i := 4) nd (ge_bin sv_add op_addA ge_int (ge_bin sv_mod op_mod (ge_var 3) ge_int)))
    (gss_cons (gs_set (i := 5) nd (ge_call G_law_base (hr.mono (by decide)) g_law_base.1 g_law_base.2.1 g_law_base.2.2 .nil (fun _ => .nil) pass0 (ga_cons (ge_call G_law_cell_at (hr.mono (by decide)) g_law_cell_at.1 g_law_cell_at.2.1 g_law_cell_at.2.2 .nil (fun _ => .nil) pass0 (ga_cons (ge_var 0) (ga_cons (ge_bin sv_add op_addA (ge_var 1) ge_int) ga_nil)) (argN_cons (argN_cons argN_nil))) (ga_cons ge_int ga_nil)) (argN_cons (argN_cons argN_nil))))
    (gss_cons (gs_set (i := 6) nd (ge_lst ga_nil))
    (gss_cons (gs_for PassesOwn.never rfl (gi_r1 m_range (ga_cons (ge_var 2) ga_nil)) (gg_name (i := 7) nd) (gss_cons (gs_set (i := 8) nd (ge_call G_law_word (hr.mono (by decide)) g_law_word.1 g_law_word.2.1 g_law_word.2.2 .nil (fun _ => .nil) pass0 (ga_cons (ge_var 5) (ga_cons (ge_bin sv_mod op_mod (ge_bin sv_div op_fdivW (ge_var 3) ge_int) (ge_var 4)) (ga_cons (ge_var 4) (ga_cons (ge_var 7) ga_nil)))) (argN_cons (argN_cons (argN_cons (argN_cons argN_nil))))))
    (gss_cons (gs_if (gt_cmp sv_eq (op_eqD hr.units) (ge_bin sv_mod op_mod (ge_bin sv_div op_fdivW (ge_var 3) ge_int) ge_int) ge_int (nomark _)) (gss_one (gs_set (i := 8) nd (ge_sl (ge_var 5) go_none (go_some (ge_bin sv_add op_addA (ge_var 7) ge_int))))) gss_nil)
    (gss_one (gs_app 6 (ge_var 8))))))
    (gss_one (gs_retVar 6)))))))⟩

abbrev N_law_whole : List Str := ["_law_found"]
theorem sc_law_whole : FnScope ["_law_found"] ["_law_found"] (defScope (topS 25)) := ⟨rfl, rfl, rfl, by decide +kernel, rfl, by decide +kernel, by decide +kernel⟩
theorem ok_law_whole {f : Addr} {fd : FuncData} (F : Fun K "_law_whole" "_law_whole" (topS 25) f fd) (m_isinstance : mg "isinstance" = none) (m_int : mg "int" = none) (m_bool : mg "bool" = none) : FnOk P w K mg base CX0 1 f fd ["_law_found"] (spD K mg 1 F_law_whole) := by
  unfold F_law_whole
  refine fn_ok F sc_law_whole rfl fun cdv A outer s H E hr => ?_
  have nd := sc_law_whole.nd
  exact ⟨_, (gss_one (gs_ret (ge_and (ge_isi kit_int rfl m_isinstance rfl m_int (by decide +kernel) (ge_var 0)) (ge_one (ge_not (ge_isi kit_bool rfl m_isinstance rfl m_bool (by decide +kernel) (ge_var 0)))))))⟩

abbrev N_law_same : List Str := ["_law_found", "_law_due", "_law_k"]
theorem sc_law_same : FnScope ["_law_found", "_law_due", "_law_k"] ["_law_found", "_law_due"] (defScope (topS 26)) := ⟨rfl, rfl, rfl, by decide +kernel, rfl, by decide +kernel, by decide +kernel⟩
theorem ok_law_same {f : Addr} {fd : FuncData} (F : Fun K "_law_same" "_law_same" (topS 26) f fd) (m_isinstance : mg "isinstance" = none) (m_tuple : mg "tuple" = none) (m_list : mg "list" = none) (m_len : mg "len" = none) (m_range : mg "range" = none) (m_bool : mg "bool" = none) (m_int : mg "int" = none) (m_str : mg "str" = none) (g_self : DefTxt K mg "_law_same" f fd ["_law_found", "_law_due"]) : ∀ k : Nat, FnOk P w K mg base CX0 k f fd ["_law_found", "_law_due"] (spD K mg 2 (F_law_same k))
  | 0 => fn_none
  | k + 1 => by
    have ih := ok_law_same F m_isinstance m_tuple m_list m_len m_range m_bool m_int m_str g_self k
    unfold F_law_same
    refine fn_ok F sc_law_same rfl fun cdv A outer s H E hr => ?_
    have nd := sc_law_same.nd
    exact ⟨_, (gss_cons (gs_if (gt_w (gw_or (gt_val (ge_isi kit_tuple rfl m_isinstance rfl m_tuple (by decide +kernel) (ge_var 1))) (gw_or1 (gt_val (ge_isi kit_list rfl m_isinstance rfl m_list (by decide +kernel) (ge_var 1)))))) (gss_cons (gs_if (gt_w (gw_or (gt_cmp sv_ne (op_neD hr.units) (ge_isi kit_tuple rfl m_isinstance rfl m_tuple (by decide +kernel) (ge_var 0)) (ge_isi kit_tuple rfl m_isinstance rfl m_tuple (by decide +kernel) (ge_var 1)) (nomark _)) (gw_or1 (gt_cmp sv_ne (op_neD hr.units) (ge_isi kit_list rfl m_isinstance rfl m_list (by decide +kernel) (ge_var 0)) (ge_isi kit_list rfl m_isinstance rfl m_list (by decide +kernel) (ge_var 1)) (nomark _))))) (gss_one (gs_ret ge_bl)) gss_nil)
    (gss_cons (gs_if (gt_cmp sv_ne (op_neD hr.units) (ge_callB sc_len call_len rfl m_len (by decide +kernel) (ga_cons (ge_var 0) ga_nil)) (ge_callB sc_len call_len rfl m_len (by decide +kernel) (ga_cons (ge_var 1) ga_nil)) (nomark _)) (gss_one (gs_ret ge_bl)) gss_nil)
    (gss_cons (gs_for PassesOwn.never rfl (gi_r1 m_range (ga_cons (ge_callB sc_len call_len rfl m_len (by decide +kernel) (ga_cons (ge_var 1) ga_nil)) ga_nil)) (gg_name (i := 2) nd) (gss_one (gs_if (gt_not (gt_val (ge_call ih hr g_self.1 g_self.2.1 g_self.2.2 .nil (fun _ => .nil) pass0 (ga_cons (ge_ix (ge_var 0) (ge_var 2)) (ga_cons (ge_ix (ge_var 1) (ge_var 2)) ga_nil)) (argN_cons (argN_cons argN_nil))))) (gss_one (gs_ret ge_bl)) gss_nil)))
    (gss_one (gs_ret ge_bl))))) gss_nil)
    (gss_cons (gs_if (gt_val (ge_isi kit_bool rfl m_isinstance rfl m_bool (by decide +kernel) (ge_var 1))) (gss_one (gs_ret (ge_and (ge_isi kit_bool rfl m_isinstance rfl m_bool (by decide +kernel) (ge_var 0)) (ge_one (ge_cmp sv_eq (op_eqD hr.units) (ge_var 0) (ge_var 1) (nomark _)))))) gss_nil)
    (gss_cons (gs_if (gt_val (ge_isi kit_int rfl m_isinstance rfl m_int (by decide +kernel) (ge_var 1))) (gss_one (gs_ret (ge_and (ge_isi kit_int rfl m_isinstance rfl m_int (by decide +kernel) (ge_var 0)) (ge_and (ge_not (ge_isi kit_bool rfl m_isinstance rfl m_bool (by decide +kernel) (ge_var 0))) (ge_one (ge_cmp sv_eq (op_eqD hr.units) (ge_var 0) (ge_var 1) (nomark _))))))) gss_nil)
    (gss_cons (gs_if (gt_val (ge_isi kit_str rfl m_isinstance rfl m_str (by decide +kernel) (ge_var 1))) (gss_one (gs_ret (ge_and (ge_isi kit_str rfl m_isinstance rfl m_str (by decide +kernel) (ge_var 0)) (ge_one (ge_cmp sv_eq (op_eqD hr.units) (ge_var 0) (ge_var 1) (nomark _)))))) gss_nil)
    (gss_one (gs_ret (ge_and (ge_cmp sv_is op_isN1 (ge_var 1) ge_non (nomark _)) (ge_one (ge_cmp sv_is op_isN1 (ge_var 0) ge_non (nomark _))))))))))⟩

abbrev N_law_before : List Str := ["_law_one", "_law_two", "_law_left", "_law_right_here"]
theorem sc_law_before : FnScope ["_law_one", "_law_two", "_law_left", "_law_right_here"] ["_law_one", "_law_two"] (defScope (topS 27)) := ⟨rfl, rfl, rfl, by decide +kernel, rfl, by decide +kernel, by decide +kernel⟩
theorem ok_law_before {f : Addr} {fd : FuncData} (F : Fun K "_law_before" "_law_before" (topS 27) f fd) (m_len : mg "len" = none) (m_zip : mg "zip" = none) : FnOk P w K mg base CX0 1 f fd ["_law_one", "_law_two"] (spD K mg 2 F_law_before) := by
  unfold F_law_before
  refine fn_ok F sc_law_before rfl fun cdv A outer s H E hr => ?_
  have nd := sc_law_before.nd
  exact ⟨_, (gss_cons (gs_if (gt_cmp sv_ne (op_neD hr.units) (ge_callB sc_len call_len rfl m_len (by decide +kernel) (ga_cons (ge_var 0) ga_nil)) (ge_callB sc_len call_len rfl m_len (by decide +kernel) (ga_cons (ge_var 1) ga_nil)) (nomark _)) (gss_one (gs_ret (ge_cmp sv_lt (op_ltA hr.units) (ge_callB sc_len call_len rfl m_len (by decide +kernel) (ga_cons (ge_var 0) ga_nil)) (ge_callB sc_len call_len rfl m_len (by decide +kernel) (ga_cons (ge_var 1) ga_nil)) (nomark _)))) gss_nil)
    (gss_cons (gs_for PassesOwn.never rfl (gi_zip m_zip (ga_cons (ge_var 0) (ga_cons (ge_var 1) ga_nil))) (gg_tup rfl (ggs_cons (i := 2) nd (ggs_cons (i := 3) nd ggs_nil))) (gss_one (gs_if (gt_cmp sv_ne (op_neD hr.units) (ge_var 2) (ge_var 3) (nomark _)) (gss_one (gs_ret (ge_cmp sv_lt (op_ltA hr.units) (ge_var 2) (ge_var 3) (nomark _)))) gss_nil)))
    (gss_one (gs_ret ge_bl))))⟩

abbrev N_law_heaps : List Str := ["_law_rows", "_law_found", "_law_names", "_law_many", "_law_like_here", "_law_at", "_law_k"]
theorem sc_law_heaps : FnScope ["_law_rows", "_law_found", "_law_names", "_law_many", "_law_like_here", "_law_at", "_law_k"] ["_law_rows"] (defScope (topS 28)) := ⟨rfl, rfl, rfl, by decide +kernel, rfl, by decide +kernel, by decide +kernel⟩
theorem ok_law_heaps {f : Addr} {fd : FuncData} {f_law_before : Addr} {fd_law_before : FuncData} (F : Fun K "_law_heaps" "_law_heaps" (topS 28) f fd) (m_tuple : mg "tuple" = none) (m_range : mg "range" = none) (m_len : mg "len" = none) (G_law_before : FnOk P w K mg base CX0 1 f_law_before fd_law_before ["_law_one", "_law_two"] (spD K mg 2 F_law_before)) (g_law_before : DefTxt K mg "_law_before" f_law_before fd_law_before ["_law_one", "_law_two"]) : FnOk P w K mg base CX0 2 f fd ["_law_rows"] (spD K mg 1 F_law_heaps) := by
  unfold F_law_heaps
  refine fn_ok F sc_law_heaps rfl fun cdv A outer s H E hr => ?_
  have nd := sc_law_heaps.nd
  exact ⟨_, (gss_cons (gs_set (i := 1) nd (ge_lst ga_nil))
    (gss_cons (gs_for PassesOwn.never rfl (gi_list (ge_var 0)) (gg_tup rfl (ggs_cons (i := 2) nd (ggs_cons (i := 3) nd ggs_nil))) (gss_cons (gs_set (i := 4) nd (ge_callTy sc_tup call_tuple_of rfl m_tuple (by decide +kernel) (ga_cons (ge_lc [("_law_k", 6)] rfl nd (GI.c (gi_r1 m_range (ga_cons ge_int ga_nil))) N_law_heaps (defScope (topS 28)) (by decide +kernel) (fun _ _ _ _ _ => (ggb_name (i := 6) nd)) (fun _ _ _ _ _ => (gts_one (gt_cmp (sv_in false) op_in_seq (ge_var 6) (ge_var 2) (by rfl)))) (fun _ _ _ _ _ => (ge_var 6))) ga_nil)))
    (gss_cons (gs_set (i := 5) nd ge_int)
    (gss_cons (gs_while fu_law_heaps_0 PassesOwn.never (gt_w (gw_and (gt_cmp sv_lt (op_ltA hr.units) (ge_var 5) (ge_callB sc_len call_len rfl m_len (by decide +kernel) (ga_cons (ge_var 1) ga_nil)) (nomark _)) (gw_and1 (gt_val (ge_call G_law_before (hr.mono (by decide)) g_law_before.1 g_law_before.2.1 g_law_before.2.2 .nil (fun _ => .nil) pass0 (ga_cons (ge_ix (ge_ix (ge_var 1) (ge_var 5)) ge_int) (ga_cons (ge_var 4) ga_nil)) (argN_cons (argN_cons argN_nil))))))) (gss_one (gs_set (i := 5) nd (ge_bin sv_add op_addA (ge_var 5) ge_int))))
    (gss_one (gs_if (gt_w (gw_and (gt_cmp sv_gt op_gt (ge_var 3) ge_int (nomark _)) (gw_and (gt_cmp sv_lt (op_ltA hr.units) (ge_var 5) (ge_callB sc_len call_len rfl m_len (by decide +kernel) (ga_cons (ge_var 1) ga_nil)) (nomark _)) (gw_and1 (gt_cmp sv_eq (op_eqD hr.units) (ge_ix (ge_ix (ge_var 1) (ge_var 5)) ge_int) (ge_var 4) (nomark _)))))) (gss_one (gs_setIx 1 (ge_var 5) (ge_tup (ga_cons (ge_var 4) (ga_cons (ge_bin sv_add op_addA (ge_ix (ge_ix (ge_var 1) (ge_var 5)) ge_int) (ge_var 3)) ga_nil))))) (gss_one (gs_if (gt_cmp sv_gt op_gt (ge_var 3) ge_int (nomark _)) (gss_one (gs_ins 1 (ge_var 5) (ge_tup (ga_cons (ge_var 4) (ga_cons (ge_var 3) ga_nil))))) gss_nil))))))))
    (gss_one (gs_retVar 1))))⟩

abbrev N_law_like : List Str := ["_law_roll", "_law_words_here", "_law_k"]
theorem sc_law_like : FnScope ["_law_roll", "_law_words_here", "_law_k"] ["_law_roll", "_law_words_here"] (defScope (topS 29)) := ⟨rfl, rfl, rfl, by decide +kernel, rfl, by decide +kernel, by decide +kernel⟩
theorem ok_law_like {f : Addr} {fd : FuncData} (F : Fun K "_law_like" "_law_like" (topS 29) f fd) (m_tuple : mg "tuple" = none) (m_range : mg "range" = none) (m_len : mg "len" = none) : FnOk P w K mg base CX0 1 f fd ["_law_roll", "_law_words_here"] (spD K mg 2 F_law_like) := by
  unfold F_law_like
  refine fn_ok F sc_law_like rfl fun cdv A outer s H E hr => ?_
  have nd := sc_law_like.nd
  exact ⟨_, (gss_one (gs_ret (ge_callTy sc_tup call_tuple_of rfl m_tuple (by decide +kernel) (ga_cons (ge_lc [("_law_k", 2)] rfl nd (GI.c (gi_r1 m_range (ga_cons (ge_callB sc_len call_len rfl m_len (by decide +kernel) (ga_cons (ge_var 0) ga_nil)) ga_nil))) N_law_like (defScope (topS 29)) (by decide +kernel) (fun _ _ _ _ _ => (ggb_name (i := 2) nd)) (fun _ _ _ _ _ => (gts_one (gt_cmp (sv_in false) op_in_seq (ge_ix (ge_var 0) (ge_var 2)) (ge_var 1) (by rfl)))) (fun _ _ _ _ _ => (ge_var 2))) ga_nil))))⟩

abbrev N_law_right : List Str := ["_law_box", "_law_kept", "_law_first", "_law_due", "_law_many", "_law_found"]
theorem sc_law_right : FnScope ["_law_box", "_law_kept", "_law_first", "_law_due", "_law_many", "_law_found"] ["_law_box", "_law_kept", "_law_first"] (defScope (topS 31)) := ⟨rfl, rfl, rfl, by decide +kernel, rfl, by decide +kernel, by decide +kernel⟩
theorem ok_law_right {f : Addr} {fd : FuncData} { c_Box : Addr} {f_law_heaps : Addr} {fd_law_heaps : FuncData} {f_law_same : Addr} {fd_law_same : FuncData} {f_law_whole : Addr} {fd_law_whole : FuncData} (F : Fun K "_law_right" "_law_right" (topS 31) f fd) (m_list : mg "list" = none) (m_sum : mg "sum" = none) (D_count : BM P w K mg base c_Box CX0 1 "count" (spR K mg 1 fun g => @F_Box_count g c_Box) []) (D_heaps : BM P w K mg base c_Box (L2.CX P w) 5 "heaps" (spR K mg 1 fun g => @F_Box_heaps g c_Box) []) (G_law_heaps : FnOk P w K mg base CX0 2 f_law_heaps fd_law_heaps ["_law_rows"] (spD K mg 1 F_law_heaps)) (g_law_heaps : DefTxt K mg "_law_heaps" f_law_heaps fd_law_heaps ["_law_rows"]) (G_law_same : FnOk P w K mg base CX0 8 f_law_same fd_law_same ["_law_found", "_law_due"] (spD K mg 2 (F_law_same 8))) (g_law_same : DefTxt K mg "_law_same" f_law_same fd_law_same ["_law_found", "_law_due"]) (G_law_whole : FnOk P w K mg base CX0 1 f_law_whole fd_law_whole ["_law_found"] (spD K mg 1 F_law_whole)) (g_law_whole : DefTxt K mg "_law_whole" f_law_whole fd_law_whole ["_law_found"]) : FnOk P w K mg base CX0 9 f fd ["_law_box", "_law_kept", "_law_first"] (spR K mg 3 fun g => @F_law_right g c_Box) := by
  refine fnR_of fun γ => ?_
  show FnOk P w K mg base CX0 9 f fd ["_law_box", "_law_kept", "_law_first"] (spDg γ K mg 3 (@F_law_right γ c_Box))
  unfold F_law_right
  refine fn_ok F sc_law_right rfl fun cdv A outer s H E hr => ?_
  have nd := sc_law_right.nd
  exact ⟨_, (gss_cons (gs_set (i := 3) nd (ge_call G_law_heaps (hr.mono (by decide)) g_law_heaps.1 g_law_heaps.2.1 g_law_heaps.2.2 .nil (fun _ => .nil) pass0 (ga_cons (ge_lstItems rfl m_list (ge_var 1)) ga_nil) (argN_cons argN_nil)))
    (gss_cons (gs_if (gt_val (ge_var 2)) (gss_cons (gs_set (i := 5) nd (ge_bm0 (X := (cxOf CX0 P w K mg base N_law_right "_law_right" (defScope (topS 31)) f cdv A outer s H E).nox) (dvs := []) D_heaps (hr.mono (by decide)) .nil (fun _ => .nil) passF (by decide) (ge_var 0) rfl))
    (gss_cons (gs_if (gt_not (gt_val (ge_call G_law_same (hr.mono (by decide)) g_law_same.1 g_law_same.2.1 g_law_same.2.2 .nil (fun _ => .nil) pass0 (ga_cons (ge_var 5) (ga_cons (ge_var 3) ga_nil)) (argN_cons (argN_cons argN_nil))))) (gss_one (gs_ret ge_bl)) gss_nil)
    (gss_one (gs_clr 5)))) gss_nil)
    (gss_cons (gs_set (i := 4) nd (ge_bm0 (X := (cxOf CX0 P w K mg base N_law_right "_law_right" (defScope (topS 31)) f cdv A outer s H E).nox) (dvs := []) D_count (hr.mono (by decide)) .nil (fun _ => .nil) pass0 (by decide) (ge_var 0) rfl))
    (gss_cons (gs_if (gt_w (gw_or (gt_not (gt_val (ge_call G_law_whole (hr.mono (by decide)) g_law_whole.1 g_law_whole.2.1 g_law_whole.2.2 .nil (fun _ => .nil) pass0 (ga_cons (ge_var 4) ga_nil) (argN_cons argN_nil)))) (gw_or1 (gt_cmp sv_ne (op_neD hr.units) (ge_var 4) (ge_callB sc_sum (cr_sum rfl) rfl m_sum (by decide +kernel) (ga_cons (ge_lstVals rfl m_list (ge_var 1)) ga_nil)) (nomark _))))) (gss_one (gs_ret ge_bl)) gss_nil)
    (gss_one (gs_ret (ge_call G_law_same (hr.mono (by decide)) g_law_same.1 g_law_same.2.1 g_law_same.2.2 .nil (fun _ => .nil) pass0 (ga_cons (ge_bm0 (X := (cxOf CX0 P w K mg base N_law_right "_law_right" (defScope (topS 31)) f cdv A outer s H E).nox) (dvs := []) D_heaps (hr.mono (by decide)) .nil (fun _ => .nil) passF (by decide) (ge_var 0) rfl) (ga_cons (ge_var 3) ga_nil)) (argN_cons (argN_cons argN_nil)))))))))⟩

abbrev N_law_moved : List Str := ["_law_box", "_law_kept", "_law_roll", "_law_xs", "_law_cell", "_law_words_here", "_law_like_here", "_law_there", "_law_text", "_law_many", "_law_number"]
theorem sc_law_moved : FnScope ["_law_box", "_law_kept", "_law_roll", "_law_xs", "_law_cell", "_law_words_here", "_law_like_here", "_law_there", "_law_text", "_law_many", "_law_number"] ["_law_box", "_law_kept", "_law_roll", "_law_xs", "_law_cell"] (defScope (topS 32)) := ⟨rfl, rfl, rfl, by decide +kernel, rfl, by decide +kernel, by decide +kernel⟩
theorem ok_law_moved {f : Addr} {fd : FuncData} { c_Box : Addr} {f_law_like : Addr} {fd_law_like : FuncData} (F : Fun K "_law_moved" "_law_moved" (topS 32) f fd) (m_len : mg "len" = none) (m_min : mg "min" = none) (D_put : BM P w K mg base c_Box (L2.CX P w) 2 "put" (spG K mg 3 (F_Box_put c_Box)) []) {ds_put : List Value} (D1_put : BM P w K mg base c_Box (L2.CX P w) 2 "put" (spG K mg 3 (F_Box_put c_Box)) ds_put) (v_put : Vals [V.int 1] ds_put) (D_take : BM P w K mg base c_Box (L2.CX P w) 2 "take" (spG K mg 3 (F_Box_take c_Box)) []) {ds_take : List Value} (D1_take : BM P w K mg base c_Box (L2.CX P w) 2 "take" (spG K mg 3 (F_Box_take c_Box)) ds_take) (v_take : Vals [V.int 1] ds_take) (G_law_like : FnOk P w K mg base CX0 1 f_law_like fd_law_like ["_law_roll", "_law_words_here"] (spD K mg 2 F_law_like)) (g_law_like : DefTxt K mg "_law_like" f_law_like fd_law_like ["_law_roll", "_law_words_here"]) : FnOk P w K mg base (L2.CX P w) 3 f fd ["_law_box", "_law_kept", "_law_roll", "_law_xs", "_law_cell"] (spG K mg 5 (F_law_moved c_Box)) := by
  unfold F_law_moved
  refine fn_okG F sc_law_moved rfl fun cdv A outer s H E hr => ?_
  have nd := sc_law_moved.nd
  have tk := tk_of (P := P) (w := w) (K := K) (mg := mg) (base := base) (N := ["_law_box", "_law_kept", "_law_roll", "_law_xs", "_law_cell", "_law_words_here", "_law_like_here", "_law_there", "_law_text", "_law_many", "_law_number"]) (qual := "_law_moved") (sc := defScope (topS 32)) (f := f) (cdv := cdv) (A := A) (outer := outer) (s := s) (H := H) (E := E)
  exact ⟨_, (gus_cons (gu_lift fun _ => (gs_setLc (i := 5) [("_law_number", 10)] rfl nd (sw_true rfl rfl rfl (by decide +kernel)) (gic_list (ge_sl (ge_var 3) (go_some ge_int) (go_some (ge_bin sv_add op_addA ge_int (ge_bin sv_mod op_mod (ge_ix (ge_var 3) ge_int) ge_int))))) N_law_moved (defScope (topS 32)) (by decide +kernel) (fun _ _ _ _ _ => (ggb_name (i := 10) nd)) (fun _ _ _ _ _ => gts_nil) (fun _ _ _ _ _ => (ge_ix (ge_var 2) (ge_bin sv_mod op_mod (ge_var 10) (ge_callB sc_len call_len rfl m_len (by decide +kernel) (ga_cons (ge_var 2) ga_nil)))))))
    (gus_cons (gu_lift fun _ => (gs_set (i := 6) nd (ge_call G_law_like (hr.mono (by decide)) g_law_like.1 g_law_like.2.1 g_law_like.2.2 .nil (fun _ => .nil) pass0 (ga_cons (ge_var 2) (ga_cons (ge_var 5) ga_nil)) (argN_cons (argN_cons argN_nil)))))
    (gus_cons (gu_lift fun _ => (gs_set (i := 7) nd (ge_dget2 (hu_of hr) (ge_de (ge_var 1)) (ge_var 6) ge_int)))
    (gus_cons (gu_lift fun _ => (gs_set (i := 8) nd (ge_join ge_str (ge_var 5))))
    (gus_cons (gu_lift fun _ => (gs_set (i := 9) nd (ge_ix (ge_lst (ga_cons ge_int (ga_cons (ge_bin sv_add op_addA ge_int (ge_bin sv_mod op_mod (ge_ix (ge_var 3) ge_int) ge_int)) (ga_cons (ge_bin sv_add op_addA ge_int (ge_bin sv_mod op_mod (ge_var 4) (ge_bin sv_sub op_sub (ge_bin sv_pow op_pow ge_int ge_int) ge_int))) ga_nil)))) (ge_bin sv_mod op_mod (ge_ix (ge_var 3) ge_int) ge_int))))
    (gus_cons (gu_if (fun _ => (gt_w (gw_and (gt_cmp sv_eq (op_eqD hr.units) (ge_bin sv_mod op_mod (ge_ix (ge_var 3) ge_int) ge_int) ge_int (nomark _)) (gw_and1 (gt_cmp sv_gt op_gt (ge_var 7) ge_int (nomark _)))))) (gus_cons (gu_lift fun _ => (gs_set (i := 9) nd (ge_callB sc_min2 (call_min2 rfl) rfl m_min (by decide +kernel) (ga_cons (ge_var 9) (ga_cons (ge_var 7) ga_nil)))))
    (gus_cons (gu_lift fun _ => (gs_if (gt_cmp sv_eq (op_eqD hr.units) (ge_bin sv_mod op_mod (ge_ix (ge_var 3) ge_int) ge_int) ge_int (nomark _)) (gss_one (gs_set (i := 9) nd (ge_var 7))) gss_nil))
    (gus_cons (gu_gput (hu_of hr) (fun _ => (ge_var 1)) (fun _ => (ge_var 6)) (fun _ => (ge_bin sv_sub op_sub (ge_var 7) (ge_var 9))))
    (gus_cons (gu_if (fun _ => (gt_w (gw_and (gt_cmp sv_eq (op_eqD hr.units) (ge_var 9) ge_int (nomark _)) (gw_and1 (gt_cmp sv_eq (op_eqD hr.units) (ge_bin sv_mod op_mod (ge_ix (ge_var 3) ge_int) ge_int) ge_int (nomark _)))))) (gus_one (gu_ret (gg_meth (X := (cxOf (L2.CX P w) P w K mg base N_law_moved "_law_moved" (defScope (topS 32)) f cdv A outer s H E)) (dvs := [.int 1]) D1_take (hr.mono (by decide)) v_take (fun _ => .cons (.int 1) .nil) (passes_call tk fun _ _ _ _ z => z) (by decide) (fun _ => (ge_var 0)) (fun _ => (ga_cons (ge_var 8) ga_nil)) (fun _ => argM (argN_cons argN_nil))))) gus_nil)
    (gus_one (gu_ret (gg_meth (X := (cxOf (L2.CX P w) P w K mg base N_law_moved "_law_moved" (defScope (topS 32)) f cdv A outer s H E)) (dvs := []) D_take (hr.mono (by decide)) .nil (fun _ => .nil) (passes_call tk fun _ _ _ _ z => z) (by decide) (fun _ => (ge_var 0)) (fun _ => (ga_cons (ge_var 8) (ga_cons (ge_var 9) ga_nil))) (fun _ => argM (argN_cons (argN_cons argN_nil)))))))))) gus_nil)
    (gus_cons (gu_gput (hu_of hr) (fun _ => (ge_var 1)) (fun _ => (ge_var 6)) (fun _ => (ge_bin sv_add op_addA (ge_var 7) (ge_var 9))))
    (gus_cons (gu_if (fun _ => (gt_w (gw_and (gt_cmp sv_eq (op_eqD hr.units) (ge_var 9) ge_int (nomark _)) (gw_and1 (gt_cmp sv_eq (op_eqD hr.units) (ge_bin sv_mod op_mod (ge_ix (ge_var 3) ge_int) ge_int) ge_int (nomark _)))))) (gus_one (gu_ret (gg_meth (X := (cxOf (L2.CX P w) P w K mg base N_law_moved "_law_moved" (defScope (topS 32)) f cdv A outer s H E)) (dvs := [.int 1]) D1_put (hr.mono (by decide)) v_put (fun _ => .cons (.int 1) .nil) (passes_call tk fun _ _ _ _ z => z) (by decide) (fun _ => (ge_var 0)) (fun _ => (ga_cons (ge_var 8) ga_nil)) (fun _ => argM (argN_cons argN_nil))))) gus_nil)
    (gus_one (gu_ret (gg_meth (X := (cxOf (L2.CX P w) P w K mg base N_law_moved "_law_moved" (defScope (topS 32)) f cdv A outer s H E)) (dvs := []) D_put (hr.mono (by decide)) .nil (fun _ => .nil) (passes_call tk fun _ _ _ _ z => z) (by decide) (fun _ => (ge_var 0)) (fun _ => (ga_cons (ge_var 8) (ga_cons (ge_var 9) ga_nil))) (fun _ => argM (argN_cons (argN_cons argN_nil))))))))))))))⟩

abbrev N_law : List Str := ["_law_script", "_law_roll", "_law_rolls", "_law_handed", "_law_boxes", "_law_kept", "_law_cell", "_law_xs", "_law_which"]
theorem sc_law : FnScope ["_law_script", "_law_roll", "_law_rolls", "_law_handed", "_law_boxes", "_law_kept", "_law_cell", "_law_xs", "_law_which"] ["_law_script"] (defScope (topS 33)) := ⟨rfl, rfl, rfl, by decide +kernel, rfl, by decide +kernel, by decide +kernel⟩
theorem ok_tail {f : Addr} { c_Box : Addr} {f_law_mixed : Addr} {fd_law_mixed : FuncData} {f_law_moved : Addr} {fd_law_moved : FuncData} {f_law_right : Addr} {fd_law_right : FuncData} {cdv : Value} {A : Around} {outer : List Env} {s : Shared} {H : Hp} {E : XK} (hr : Room 9 (A.deeper (PyProof.Rows.envOfC "law" (defScope (topS 33)) s.heap.objs.size f cdv))) (G_law_mixed : FnOk P w K mg base CX0 1 f_law_mixed fd_law_mixed ["_law_cell", "_law_many"] (spD K mg 2 F_law_mixed)) (g_law_mixed : DefTxt K mg "_law_mixed" f_law_mixed fd_law_mixed ["_law_cell", "_law_many"]) (G_law_moved : FnOk P w K mg base (L2.CX P w) 3 f_law_moved fd_law_moved ["_law_box", "_law_kept", "_law_roll", "_law_xs", "_law_cell"] (spG K mg 5 (F_law_moved c_Box))) (g_law_moved : DefTxt K mg "_law_moved" f_law_moved fd_law_moved ["_law_box", "_law_kept", "_law_roll", "_law_xs", "_law_cell"]) (G_law_right : FnOk P w K mg base CX0 9 f_law_right fd_law_right ["_law_box", "_law_kept", "_law_first"] (spR K mg 3 fun g => @F_law_right g c_Box)) (g_law_right : DefTxt K mg "_law_right" f_law_right fd_law_right ["_law_box", "_law_kept", "_law_first"]) : ∃ t, GUs K (cxOf CX0 P w K mg base N_law "law" (defScope (topS 33)) f cdv A outer s H E).nox (WN mg fun _ _ _ => False) ((defBody (topS 33)).drop 7) t (b_law c_Box) := by
  have nd := sc_law.nd
  exact ⟨_, (gus_cons (gu_for PassesOwn.never rfl (gi_list (ge_sl (ge_var 0) (go_some ge_int) (go_some ge_int))) (fun _ => (gg_name (i := 6) nd)) (gus_cons (gu_lift fun _ => (gs_set (i := 7) nd (ge_call G_law_mixed (hr.mono (by decide)) g_law_mixed.1 g_law_mixed.2.1 g_law_mixed.2.2 .nil (fun _ => .nil) pass0 (ga_cons (ge_var 6) (ga_cons ge_int ga_nil)) (argN_cons (argN_cons argN_nil)))))
    (gus_cons (gu_lift fun _ => (gs_fz 7 (gs_set (i := 8) nd (ge_bin sv_mod op_mod (ge_ix (ge_var 7) ge_int) ge_int))))
    (gus_cons (gu_ifNN (gg_call G_law_moved (hr.mono (by decide)) g_law_moved.1 g_law_moved.2.1 g_law_moved.2.2 passF (fun _ => (ga_cons (ge_ix (ge_var 4) (ge_var 8)) (ga_cons (ge_ix (ge_var 5) (ge_var 8)) (ga_cons (ge_ix (ge_var 2) (ge_var 8)) (ga_cons (ge_var 7) (ga_cons (ge_var 6) ga_nil)))))) (fun _ => (argN_cons (argN_cons (argN_cons (argN_cons (argN_cons argN_nil))))))) (gus_one (gu_lift fun _ => (gs_ret ge_bl))) gus_nil)
    (gus_one (gu_lift fun _ => (gs_if (gt_not (gt_val (ge_callR G_law_right (hr.mono (by decide)) g_law_right.1 g_law_right.2.1 g_law_right.2.2 pass0 (ga_cons (ge_ix (ge_var 4) (ge_var 8)) (ga_cons (ge_ix (ge_var 5) (ge_var 8)) (ga_cons (ge_cmp sv_eq (op_eqD hr.units) (ge_bin sv_mod op_mod (ge_ix (ge_var 7) ge_int) ge_int) ge_int (nomark _)) ga_nil))) (argN_cons (argN_cons (argN_cons argN_nil)))))) (gss_one (gs_ret ge_bl)) gss_nil)))))))
    (gus_one (gu_lift fun _ => (gs_ret (ge_and (ge_callR G_law_right (hr.mono (by decide)) g_law_right.1 g_law_right.2.1 g_law_right.2.2 pass0 (ga_cons (ge_ix (ge_var 4) ge_int) (ga_cons (ge_ix (ge_var 5) ge_int) (ga_cons ge_bl ga_nil))) (argN_cons (argN_cons (argN_cons argN_nil)))) (ge_one (ge_callR G_law_right (hr.mono (by decide)) g_law_right.1 g_law_right.2.1 g_law_right.2.2 pass0 (ga_cons (ge_ix (ge_var 4) ge_int) (ga_cons (ge_ix (ge_var 5) ge_int) (ga_cons ge_bl ga_nil))) (argN_cons (argN_cons (argN_cons argN_nil))))))))))⟩

end
end K52
set_option maxHeartbeats 4000000
namespace K52
open PySem PySem.Spec L2 Fb
/-- a fold, told by place -/
theorem loopF_foldI {α β : Type} {tgt : GF} {body : SF} (e : α → D) (f : β → α → β) (P : Nat → β → En → Prop) : ∀ {l : List α} {i : Nat} {b : β} {ρ : En}, P i b ρ → (∀ (k : Nat) (a : α) (b : β) (ρ : En), l[k]? = some a → P (i + k) b ρ → ∃ ρ2, step tgt body (e a) ρ = some ρ2 ∧ P (i + k + 1) (f b a) ρ2) → ∃ ρ', loopF tgt body (l.map e) ρ = some (.nx ρ') ∧ P (i + l.length) (l.foldl f b) ρ'
  | [], i, b, ρ, h0, _ => ⟨ρ, rfl, h0⟩
  | a :: l, i, b, ρ, h0, h => by
    obtain ⟨ρ2, h2, h3⟩ := h 0 a b ρ rfl h0
    obtain ⟨ρ', h4, h5⟩ := loopF_foldI (l := l) (i := i + 1) e f P h3 fun k c b ρ hb hp => by
      have := h (k + 1) c b ρ hb (by rwa [show i + (k + 1) = i + 1 + k by omega])
      rwa [show i + (k + 1) + 1 = i + 1 + k + 1 by omega] at this
    refine ⟨ρ', ?_, by rw [List.length_cons, show i + (l.length + 1) = i + 1 + l.length by omega]; exact h5⟩
    rw [List.map_cons, loopF_step h2]
    exact h4
theorem at_lt {α : Type} {l : List α} {k : Nat} {a : α} (h : l[k]? = some a) : k < l.length := (List.getElem?_eq_some_iff.mp h).1
theorem srt_ints (xs : List Int) (h : xs.length ≤ 100000) : srtOk (xs.map .int) = true := by
  unfold srtOk
  simp only [Bool.and_eq_true, Bool.or_eq_true, decide_eq_true_eq, List.all_eq_true]
  refine ⟨⟨⟨by simpa using h, fun d hd => ?_⟩, fun d hd e he => ?_⟩, .inr fun d hd => ?_⟩
  · obtain ⟨p, _, rfl⟩ := List.mem_map.mp hd
    simp
  · obtain ⟨p, _, rfl⟩ := List.mem_map.mp hd
    obtain ⟨q, _, rfl⟩ := List.mem_map.mp he
    simp [toP, PySem.W.alike]
  · obtain ⟨p, _, rfl⟩ := List.mem_map.mp hd
    rfl
/-- ints, sorted -/
def srtI (xs : List Int) : List Int := xs.mergeSort fun p q => sLe (.int p) (.int q)
theorem sort_ints (xs : List Int) : sortD (xs.map .int) = (srtI xs).map .int := by
  unfold sortD srtI
  rw [List.map_mergeSort (r := fun p q => sLe (.int p) (.int q)) (s := sLe) (fun a _ b _ => rfl)]
theorem srtI_mem {xs : List Int} {x : Int} : x ∈ srtI xs ↔ x ∈ xs := List.mem_mergeSort
theorem srtI_len (xs : List Int) : (srtI xs).length = xs.length := List.length_mergeSort _
/-- a loop that gives back at the first thing that is so -/
theorem loopF_find {α : Type} {tgt : GF} {body : SF} (e : α → D) (p : α → Bool) (Iv : En → Prop) (g : α → D) : ∀ {l : List α} {ρ : En}, Iv ρ → (∀ (a : α) (ρ : En), a ∈ l → Iv ρ → (p a = true → (tgt ⟨e a, .av⟩ ρ).bind body = some (.rt (g a) false)) ∧ (p a = false → ∃ ρ2, step tgt body (e a) ρ = some ρ2 ∧ Iv ρ2)) →
    (∃ a, l.find? p = some a ∧ loopF tgt body (l.map e) ρ = some (.rt (g a) false)) ∨ (l.find? p = none ∧ ∃ ρ', loopF tgt body (l.map e) ρ = some (.nx ρ') ∧ Iv ρ')
  | [], ρ, h0, _ => .inr ⟨rfl, ρ, rfl, h0⟩
  | a :: l, ρ, h0, h => by
    obtain ⟨h1, h2⟩ := h a ρ List.mem_cons_self h0
    cases hp : p a with
    | true =>
      refine .inl ⟨a, by simp [hp], ?_⟩
      have := h1 hp
      obtain ⟨ρ1, e1, e2⟩ := Option.bind_eq_some_iff.mp this
      rw [List.map_cons, loopF, e1, Option.bind_some, e2]
    | false =>
      obtain ⟨ρ2, h3, h4⟩ := h2 hp
      have hf : (a :: l).find? p = l.find? p := by simp [hp]
      rw [List.map_cons, loopF_step h3, hf]
      exact loopF_find e p Iv g h4 fun b ρ hb => h b ρ (List.mem_cons_of_mem _ hb)
/-! sets of names, in their order -/
abbrev Ris (xs : List Int) : Prop := xs.Pairwise (· < ·)
def bef (a b : List Int) : Prop := a.length < b.length ∨ (a.length = b.length ∧ a < b)
instance (a b : List Int) : Decidable (bef a b) := by unfold bef; infer_instance
theorem bef_irrefl (a : List Int) : ¬ bef a a := fun h => by
  rcases h with h | ⟨_, h⟩
  · omega
  · exact List.lt_irrefl a h
theorem bef_trans {a b c : List Int} (h : bef a b) (h' : bef b c) : bef a c := by
  rcases h with h | ⟨e, h⟩ <;> rcases h' with h' | ⟨e', h'⟩
  · exact .inl (by omega)
  · exact .inl (by omega)
  · exact .inl (by omega)
  · exact .inr ⟨by omega, List.lt_trans h h'⟩
theorem bef_asymm {a b : List Int} (h : bef a b) : ¬ bef b a := fun h' => bef_irrefl a (bef_trans h h')
theorem bef_tri {a b : List Int} (h : ¬ bef a b) (h' : ¬ bef b a) : a = b := by
  unfold bef at h h'
  have e : a.length = b.length := by omega
  have h1 : ¬ a < b := fun z => h (.inr ⟨e, z⟩)
  have h2 : ¬ b < a := fun z => h' (.inr ⟨e.symm, z⟩)
  exact List.le_antisymm (List.not_lt.mp h2) (List.not_lt.mp h1)
theorem bef_uniq : ∀ {l l' : List (List Int)}, l.Pairwise bef → l'.Pairwise bef → (∀ x, x ∈ l ↔ x ∈ l') → l = l'
  | [], [], _, _, _ => rfl
  | [], b :: l', _, _, h => by have := (h b).mpr List.mem_cons_self; cases this
  | a :: l, [], _, _, h => by have := (h a).mp List.mem_cons_self; cases this
  | a :: l, b :: l', h1, h2, h => by
    obtain ⟨p1, q1⟩ := List.pairwise_cons.mp h1
    obtain ⟨p2, q2⟩ := List.pairwise_cons.mp h2
    have e : a = b := by
      rcases List.mem_cons.mp ((h a).mp List.mem_cons_self) with z | z
      · exact z
      · rcases List.mem_cons.mp ((h b).mpr List.mem_cons_self) with w | w
        · exact w.symm
        · exact absurd (p1 b w) (bef_asymm (p2 a z))
    subst e
    rw [bef_uniq q1 q2 fun x => ⟨fun z => ?_, fun z => ?_⟩]
    · rcases List.mem_cons.mp ((h x).mp (List.mem_cons_of_mem _ z)) with w | w
      · subst w; exact absurd (p1 x z) (bef_irrefl x)
      · exact w
    · rcases List.mem_cons.mp ((h x).mpr (List.mem_cons_of_mem _ z)) with w | w
      · subst w; exact absurd (p2 x z) (bef_irrefl x)
      · exact w
def leB (a b : List Int) : Bool := !decide (bef b a)
theorem leB_trans (a b c : List Int) (h1 : leB a b = true) (h2 : leB b c = true) : leB a c = true := by
  unfold leB at *
  simp only [Bool.not_eq_true', decide_eq_false_iff_not] at *
  intro h
  by_cases e : bef a b
  · exact h2 (bef_trans h e)
  · have : a = b := bef_tri e h1
    subst this
    exact h2 h
theorem leB_total (a b : List Int) : (leB a b || leB b a) = true := by
  unfold leB
  by_cases h : bef b a
  · have := bef_asymm h
    simp [this]
  · simp [h]
theorem srtB_strict {l : List (List Int)} (h : l.Nodup) : (l.mergeSort leB).Pairwise bef := by
  have h1 := List.pairwise_mergeSort leB_trans leB_total l
  have h2 : (l.mergeSort leB).Nodup := (List.mergeSort_perm l leB).nodup_iff.mpr h
  refine (h1.and h2).imp fun {a b} z => ?_
  obtain ⟨z1, z2⟩ := z
  unfold leB at z1
  simp only [Bool.not_eq_true', decide_eq_false_iff_not] at z1
  by_cases e : bef a b
  · exact e
  · exact absurd (bef_tri e z1) z2
def tD (xs : List Int) : D := .tup (xs.map .int)
def rL (xs : List Int) : D := .tup [.int xs.length, .tup (xs.map .int)]
theorem ltD_rL (a b : List Int) : ltD (rL a) (rL b) = decide (bef a b) := by
  unfold rL bef
  rw [ltD_rank]
  by_cases e : a.length = b.length
  · simp [e]
  · have e' : ¬ (a.length : Int) = b.length := by omega
    simp [e, e']
theorem alike_tD (xs ys : List Int) : PySem.W.alike (toP (tD xs)) (toP (tD ys)) = true := by
  show PySem.W.alike (.tuple (toPL _)) (.tuple (toPL _)) = true
  rw [toPL_ints, toPL_ints]
  simp [PySem.W.alike, PySem.W.alike_ints]
theorem ltD_tD (xs ys : List Int) : ltD (tD xs) (tD ys) = decide (xs < ys) := by
  show PySem.W.dataLt (.tuple (toPL _)) (.tuple (toPL _)) = _
  rw [toPL_ints, toPL_ints, PySem.W.dataLt_tuple]
  have e3 := PySem.W.dataLt_ints xs ys
  unfold PySem.W.rowLt at e3
  exact e3
theorem srt_tD (l : List (List Int)) (h : l.length ≤ 100000) (hn : ∀ xs ∈ l, xs ≠ []) : srtOk (l.map tD) = true := by
  unfold srtOk
  simp only [Bool.and_eq_true, Bool.or_eq_true, decide_eq_true_eq, List.all_eq_true]
  refine ⟨⟨⟨by simpa using h, fun d hd => ?_⟩, fun d hd e he => ?_⟩, .inl fun d hd => ?_⟩
  · obtain ⟨p, _, rfl⟩ := List.mem_map.mp hd
    simp [tD]
  · obtain ⟨p, _, rfl⟩ := List.mem_map.mp hd
    obtain ⟨q, _, rfl⟩ := List.mem_map.mp he
    exact alike_tD _ _
  · obtain ⟨p, hp, rfl⟩ := List.mem_map.mp hd
    unfold tD
    cases p with
    | nil => exact absurd rfl (hn [] hp)
    | cons x r => rfl
theorem srt_rL (l : List (List Int)) (h : l.length ≤ 100000) : srtOk (l.map rL) = true := by
  have := srt_rw (l.map fun xs => (xs, 0)) (by simpa using h)
  rw [List.map_map] at this
  exact this
def srtT (l : List (List Int)) : List (List Int) := l.mergeSort fun a b => sLe (tD a) (tD b)
theorem sort_tD (l : List (List Int)) : sortD (l.map tD) = (srtT l).map tD := by
  unfold sortD srtT
  rw [List.map_mergeSort (r := fun a b => sLe (tD a) (tD b)) (s := sLe) (fun a _ b _ => rfl)]
/-- of lists of one length -/
theorem srtT_len {l : List (List Int)} {n : Nat} (h : ∀ xs ∈ l, xs.length = n) : srtT l = l.mergeSort leB := by
  unfold srtT
  have e := List.map_mergeSort (f := fun x : List Int => x) (r := fun a b => sLe (tD a) (tD b)) (s := leB) (l := l) (fun a ha b hb => ?_)
  · simpa using e
  · have h1 := h a ha
    have h2 := h b hb
    unfold sLe leB bef
    rw [ltD_tD]
    have e1 : ¬ b.length < a.length := by omega
    have e2 : b.length = a.length := by omega
    simp [e1, e2]
/-! a rising list and its parts -/
theorem ris_last {b : List Int} {x : Int} (h : Ris (b ++ [x])) : ∀ y ∈ b, y < x := fun y hy => (List.pairwise_append.mp h).2.2 y hy x (List.mem_singleton.mpr rfl)
/-- what the loop of sets_of gathers -/
def gatS (found : List (List Int)) (x : Int) : List (List Int) := found ++ found.map (· ++ [x])
def setsL (b : List Int) : List (List Int) := b.foldl gatS [[]]
theorem setsL_snoc (b : List Int) (x : Int) : setsL (b ++ [x]) = gatS (setsL b) x := by unfold setsL; rw [List.foldl_append]; rfl
theorem setsL_mem {b : List Int} (hb : Ris b) : ∀ xs, xs ∈ setsL b ↔ Ris xs ∧ ∀ x ∈ xs, x ∈ b := by
  obtain ⟨c, rfl⟩ : ∃ c : List Int, b = c.reverse := ⟨b.reverse, by simp⟩
  induction c with
  | nil =>
    intro xs
    constructor
    · intro h
      have : xs = [] := by simpa [setsL] using h
      subst this
      exact ⟨List.Pairwise.nil, fun x h => by cases h⟩
    · rintro ⟨_, h⟩
      cases xs with
      | nil => simp [setsL]
      | cons x r => have := h x List.mem_cons_self; simp at this
  | cons y c ih =>
    rw [List.reverse_cons] at hb ⊢
    have hc : Ris c.reverse := (List.pairwise_append.mp hb).1
    have hl := ris_last hb
    intro xs
    rw [setsL_snoc]
    unfold gatS
    rw [List.mem_append, List.mem_map]
    constructor
    · rintro (h | ⟨zs, h, rfl⟩)
      · obtain ⟨h1, h2⟩ := (ih hc xs).mp h
        exact ⟨h1, fun x hx => List.mem_append_left _ (h2 x hx)⟩
      · obtain ⟨h1, h2⟩ := (ih hc zs).mp h
        refine ⟨List.pairwise_append.mpr ⟨h1, List.pairwise_singleton _ _, fun a ha b hb => ?_⟩, fun x hx => ?_⟩
        · rw [List.mem_singleton.mp hb]
          exact hl a (h2 a ha)
        · rcases List.mem_append.mp hx with hx | hx
          · exact List.mem_append_left _ (h2 x hx)
          · exact List.mem_append_right _ hx
    · rintro ⟨h1, h2⟩
      by_cases hy : y ∈ xs
      · right
        obtain ⟨zs, ws, rfl⟩ := List.append_of_mem hy
        obtain ⟨p1, p2, p3⟩ := List.pairwise_append.mp h1
        have hw : ws = [] := by
          cases ws with
          | nil => rfl
          | cons w ws =>
            have q1 : y < w := (List.pairwise_cons.mp p2).1 w List.mem_cons_self
            have q2 := h2 w (List.mem_append_right _ (List.mem_cons_of_mem _ List.mem_cons_self))
            rcases List.mem_append.mp q2 with q2 | q2
            · have := hl w q2; omega
            · have := List.mem_singleton.mp q2; omega
        subst hw
        refine ⟨zs, (ih hc zs).mpr ⟨p1, fun x hx => ?_⟩, rfl⟩
        rcases List.mem_append.mp (h2 x (List.mem_append_left _ hx)) with q | q
        · exact q
        · have := p3 x hx y List.mem_cons_self
          have := List.mem_singleton.mp q
          omega
      · left
        refine (ih hc xs).mpr ⟨h1, fun x hx => ?_⟩
        rcases List.mem_append.mp (h2 x hx) with q | q
        · exact q
        · rw [List.mem_singleton.mp q] at hx
          exact absurd hx hy
theorem setsL_nodup {b : List Int} (hb : Ris b) : (setsL b).Nodup := by
  obtain ⟨c, rfl⟩ : ∃ c : List Int, b = c.reverse := ⟨b.reverse, by simp⟩
  induction c with
  | nil => simp [setsL]
  | cons y c ih =>
    rw [List.reverse_cons] at hb ⊢
    have hc : Ris c.reverse := (List.pairwise_append.mp hb).1
    have hl := ris_last hb
    rw [setsL_snoc]
    unfold gatS
    refine List.nodup_append.mpr ⟨ih hc, ?_, fun a ha b hb e => ?_⟩
    · unfold List.Nodup
      rw [List.pairwise_map]
      exact (ih hc).imp fun {a b} z e => z (List.append_cancel_right e)
    · obtain ⟨zs, hz, rfl⟩ := List.mem_map.mp hb
      subst e
      have := ((setsL_mem hc _).mp ha).2 y (List.mem_append_right _ (List.mem_singleton.mpr rfl))
      have := hl y this
      omega
theorem setsL_len (b : List Int) : (setsL b).length = 2 ^ b.length := by
  obtain ⟨c, rfl⟩ : ∃ c : List Int, b = c.reverse := ⟨b.reverse, by simp⟩
  induction c with
  | nil => rfl
  | cons y c ih =>
    rw [List.reverse_cons, setsL_snoc]
    unfold gatS
    rw [List.length_append, List.length_map, ih, List.length_append, List.length_singleton, Nat.pow_succ]
    omega
/-- all sets of some names, in their order -/
def allS (b : List Int) : List (List Int) := (setsL b).mergeSort leB
theorem allS_mem {b : List Int} (hb : Ris b) (xs : List Int) : xs ∈ allS b ↔ Ris xs ∧ ∀ x ∈ xs, x ∈ b := List.mem_mergeSort.trans (setsL_mem hb xs)
theorem allS_strict {b : List Int} (hb : Ris b) : (allS b).Pairwise bef := srtB_strict (setsL_nodup hb)
theorem allS_len (b : List Int) : (allS b).length = 2 ^ b.length := (List.length_mergeSort _).trans (setsL_len b)
theorem allS_cons {b : List Int} (hb : Ris b) : ∃ l, allS b = [] :: l ∧ ∀ xs, xs ∈ l ↔ (Ris xs ∧ (∀ x ∈ xs, x ∈ b) ∧ xs ≠ []) := by
  have hm := allS_mem hb
  have hs := allS_strict hb
  cases e : allS b with
  | nil => rw [e] at hm; have := (hm []).mpr ⟨List.Pairwise.nil, fun x h => by cases h⟩; cases this
  | cons a l =>
    rw [e] at hm hs
    obtain ⟨p, q⟩ := List.pairwise_cons.mp hs
    have ha : a = [] := by
      rcases List.mem_cons.mp ((hm []).mpr ⟨List.Pairwise.nil, fun x h => by cases h⟩) with z | z
      · exact z.symm
      · have := p [] z
        unfold bef at this
        rcases this with z | ⟨z, w⟩
        · cases z
        · cases a with
          | nil => rfl
          | cons x r => cases z
    subst ha
    refine ⟨l, rfl, fun xs => ⟨fun z => ?_, fun ⟨z1, z2, z3⟩ => ?_⟩⟩
    · obtain ⟨w1, w2⟩ := (hm xs).mp (List.mem_cons_of_mem _ z)
      refine ⟨w1, w2, fun c => ?_⟩
      subst c
      exact bef_irrefl [] (p [] z)
    · rcases List.mem_cons.mp ((hm xs).mpr ⟨z1, z2⟩) with w | w
      · exact absurd w z3
      · exact w
/-! sets by bits -/
def rng (n : Nat) : List Int := (List.range n).map fun (k : Nat) => (k : Int)
theorem ris_rng (n : Nat) : Ris (rng n) := by
  unfold rng Ris
  rw [List.pairwise_map]
  exact List.pairwise_lt_range.imp fun {a b} h => by omega
theorem mem_rng {n : Nat} {x : Int} : x ∈ rng n ↔ 0 ≤ x ∧ x < n := by
  unfold rng
  rw [List.mem_map]
  constructor
  · rintro ⟨k, hk, rfl⟩
    have := List.mem_range.mp hk
    omega
  · rintro ⟨h1, h2⟩
    exact ⟨x.toNat, List.mem_range.mpr (by omega), by omega⟩
theorem rng_len (n : Nat) : (rng n).length = n := by unfold rng; simp
theorem ris_uniq : ∀ {a b : List Int}, Ris a → Ris b → (∀ x, x ∈ a ↔ x ∈ b) → a = b
  | [], [], _, _, _ => rfl
  | [], y :: b, _, _, h => by have := (h y).mpr List.mem_cons_self; cases this
  | x :: a, [], _, _, h => by have := (h x).mp List.mem_cons_self; cases this
  | x :: a, y :: b, h1, h2, h => by
    obtain ⟨p1, q1⟩ := List.pairwise_cons.mp h1
    obtain ⟨p2, q2⟩ := List.pairwise_cons.mp h2
    have e : x = y := by
      rcases List.mem_cons.mp ((h x).mp List.mem_cons_self) with z | z
      · exact z
      · rcases List.mem_cons.mp ((h y).mpr List.mem_cons_self) with w | w
        · exact w.symm
        · have := p1 y w; have := p2 x z; omega
    subst e
    rw [ris_uniq q1 q2 fun z => ⟨fun w => ?_, fun w => ?_⟩]
    · rcases List.mem_cons.mp ((h z).mp (List.mem_cons_of_mem _ w)) with v | v
      · subst v; have := p1 z w; omega
      · exact v
    · rcases List.mem_cons.mp ((h z).mpr (List.mem_cons_of_mem _ w)) with v | v
      · subst v; have := p2 z w; omega
      · exact v
theorem putI_keys {l : Tb} {k : List Int} {v : Int} (h : (l.map (·.1)).Nodup) : ((putI l k v).map (·.1)).Nodup := by
  unfold putI
  split
  · have e : (l.map fun p => if p.1 = k then (p.1, v) else p).map (·.1) = l.map (·.1) := by
      rw [List.map_map]
      refine List.map_congr_left fun p _ => ?_
      show (if p.1 = k then (p.1, v) else p).1 = p.1
      split <;> rfl
    rw [e]
    exact h
  · rename_i hn
    rw [List.map_append]
    refine List.nodup_append.mpr ⟨h, by simp, fun a ha b hb e => ?_⟩
    simp only [List.map_cons, List.map_nil, List.mem_singleton] at hb
    subst hb
    subst e
    obtain ⟨p, hp, e2⟩ := List.mem_map.mp ha
    exact hn (List.any_eq_true.mpr ⟨p, hp, by simpa using e2⟩)
theorem rwD_rL (p : List Int × Int) : rwD p = rL p.1 := rfl
theorem sLe_rL (a b : List Int) : sLe (rL a) (rL b) = leB a b := by
  unfold sLe leB
  rw [ltD_rL]
theorem imm_tD (l : List (List Int)) : imm.immL (l.map tD) = true := immL_map _ (fun p => by simp [tD]) l
theorem sortKB_eq {G : FF} {l : List (List Int)} {m : Md} (hk : ∀ xs ∈ l, kOf G (tD xs) = some (rL xs)) (hl : l.length ≤ 100000) : sortKB G ⟨.lst (l.map tD), m⟩ = some ⟨.lst ((l.mergeSort leB).map tD), .fr⟩ := by
  have hkD : ∀ xs ∈ l, kD G (tD xs) = rL xs := fun xs h => by unfold kD; rw [hk xs h]; rfl
  have h1 : (l.map tD).all (fun d => (kOf G d).isSome) = true := by
    rw [List.all_eq_true]
    intro d hd
    obtain ⟨xs, hx, rfl⟩ := List.mem_map.mp hd
    rw [hk xs hx]
    rfl
  have h2 : (l.map tD).map (kD G) = l.map rL := by
    rw [List.map_map]
    exact List.map_congr_left fun xs h => hkD xs h
  have h3 : sortK (kD G) (l.map tD) = (l.mergeSort leB).map tD := by
    unfold sortK
    rw [List.map_mergeSort (r := leB) (s := fun a b => sLe (kD G a) (kD G b)) (fun a ha b hb => by rw [hkD a ha, hkD b hb, sLe_rL])]
  unfold sortKB
  dsimp only
  rw [h1, h2, srt_rL l hl, h3]
  simp [imm_tD]
theorem ev_sortK {G : FF} {fe : EF} {ρ : En} : eSortK G fe ρ = (fe ρ).bind (sortKB G) := (rfl)
/-! heaps_of, asked for rows that make heaps -/
/-- (list of names, how many) -/
def rowD (r : List Int × Int) : D := .tup [.tup (r.1.map .int), .int r.2]
/-- the ballots of all rows of just these names -/
def tot (rows : Tb) (S : List Int) : Int := (rows.map fun r => if uSet r.1 = S then r.2 else 0).sum
def RowsOk (n : Nat) (rows : Tb) : Prop := rows.length ≤ 1000 ∧ ∀ r ∈ rows, (∀ x ∈ r.1, 0 ≤ x ∧ x < n) ∧ r.1.length < 60 ∧ 0 ≤ r.2
/-- the heaps of these rows -/
def Hof (rows hs : Tb) : Prop := (hs.map (·.1)).Pairwise bef ∧ ∀ p : List Int × Int, p ∈ hs ↔ (p.2 = tot rows p.1 ∧ 0 < p.2)
theorem tot_cons (r : List Int × Int) (rows : Tb) (S : List Int) : tot (r :: rows) S = (if uSet r.1 = S then r.2 else 0) + tot rows S := by unfold tot; rw [List.map_cons, List.sum_cons]
theorem tot_append (a b : Tb) (S : List Int) : tot (a ++ b) S = tot a S + tot b S := by unfold tot; rw [List.map_append, List.sum_append]
theorem tot_nil (S : List Int) : tot [] S = 0 := rfl
theorem tot_nn {rows : Tb} (h : ∀ r ∈ rows, 0 ≤ r.2) (S : List Int) : 0 ≤ tot rows S := by
  induction rows with
  | nil => exact Int.le_refl _
  | cons r t ih =>
    rw [tot_cons]
    have h1 := h r List.mem_cons_self
    have h2 := ih fun q hq => h q (List.mem_cons_of_mem _ hq)
    split <;> omega
theorem pair_eq_of_map : ∀ {a b : Tb}, a.map (·.1) = b.map (·.1) → (∀ p ∈ a, ∀ q ∈ b, p.1 = q.1 → p.2 = q.2) → a = b
  | [], [], _, _ => rfl
  | [], _ :: _, h, _ => by cases h
  | _ :: _, [], h, _ => by cases h
  | p :: a, q :: b, h, hv => by
    rw [List.map_cons, List.map_cons] at h
    injection h with h1 h2
    have e : p = q := Prod.ext h1 (hv p List.mem_cons_self q List.mem_cons_self h1)
    rw [e, pair_eq_of_map h2 fun x hx y hy => hv x (List.mem_cons_of_mem _ hx) y (List.mem_cons_of_mem _ hy)]
theorem hof_uniq {rows rows' hs hs' : Tb} (h : Hof rows hs) (h' : Hof rows' hs') (e : ∀ S, tot rows S = tot rows' S) : hs = hs' := by
  have hm : ∀ p, p ∈ hs ↔ p ∈ hs' := fun p => by rw [h.2, h'.2, e]
  refine pair_eq_of_map (bef_uniq h.1 h'.1 fun S => ?_) fun p hp q hq hpq => ?_
  · rw [List.mem_map, List.mem_map]
    constructor
    · rintro ⟨p, h1, h2⟩; exact ⟨p, (hm p).mp h1, h2⟩
    · rintro ⟨p, h1, h2⟩; exact ⟨p, (hm p).mpr h1, h2⟩
  · rw [((h.2 p).mp hp).1, ((h'.2 q).mp hq).1, e, hpq]
theorem valI_putI (l : Tb) (k S : List Int) (v : Int) : valI (putI l k v) S = if S = k then some v else valI l S := by
  unfold putI
  split
  · rename_i h
    have hex : ∃ p ∈ l, p.1 = k := by
      obtain ⟨p, h1, h2⟩ := List.any_eq_true.mp h
      exact ⟨p, h1, by simpa using h2⟩
    clear h
    by_cases c : S = k
    · rw [if_pos c]
      subst c
      induction l with
      | nil => obtain ⟨p, h1, _⟩ := hex; cases h1
      | cons p r ih =>
        rw [List.map_cons]
        unfold valI
        by_cases c2 : p.1 = S
        · simp [c2]
        · have hex' : ∃ p ∈ r, p.1 = S := by
            obtain ⟨q, h1, h2⟩ := hex
            rcases List.mem_cons.mp h1 with z | z
            · subst z; exact absurd h2 c2
            · exact ⟨q, z, h2⟩
          have := ih hex'
          unfold valI at this
          simp only [c2, if_false, List.find?_cons, decide_false]
          exact this
    · rw [if_neg c]
      clear hex
      induction l with
      | nil => rfl
      | cons p r ih =>
        rw [List.map_cons]
        unfold valI at ih ⊢
        by_cases c2 : p.1 = k
        · have c3 : ¬ k = S := fun z => c z.symm
          have c4 : ¬ p.1 = S := fun z => c (by rw [← z, c2])
          simp only [c2, if_true, List.find?_cons, c3, decide_false, c4]
          rw [← c2] at c3
          exact ih
        · simp only [c2, if_false, List.find?_cons]
          by_cases c4 : p.1 = S
          · simp [c4]
          · simp only [c4, decide_false]
            exact ih
  · rename_i h
    have hno : ∀ p ∈ l, ¬ p.1 = k := fun p hp z => h (List.any_eq_true.mpr ⟨p, hp, by simpa using z⟩)
    clear h
    unfold valI
    rw [List.find?_append]
    by_cases c : S = k
    · rw [if_pos c]
      subst c
      have : (l.find? fun p => decide (p.1 = S)) = none := List.find?_eq_none.mpr fun p hp => by simpa using hno p hp
      rw [this]
      simp
    · rw [if_neg c]
      have c3 : ¬ k = S := fun z => c z.symm
      cases e : (l.find? fun p => decide (p.1 = S)) with
      | some q => simp
      | none => simp [c3]
theorem valI_none_of {l : Tb} {S : List Int} (h : valI l S = none) : ∀ p ∈ l, p.1 ≠ S := fun p hp z => by
  obtain ⟨v, hv⟩ := valI_some hp
  rw [z, h] at hv
  cases hv
/-- what the loop has gathered of the first rows -/
def Gth (rows : Tb) (l : Tb) : Prop := l.length ≤ rows.length ∧ (l.map (·.1)).Nodup ∧ (∀ p ∈ l, 0 < p.2) ∧ ∀ S, (valI l S).getD 0 = tot rows S
theorem gth_nil : Gth [] [] := ⟨Nat.le_refl _, List.Pairwise.nil, fun p hp => (by cases hp), fun S => rfl⟩
theorem Gth.skip {rows l : Tb} {r : List Int × Int} (h : Gth rows l) (h0 : r.2 = 0) : Gth (rows ++ [r]) l := ⟨by rw [List.length_append]; have := h.1; omega, h.2.1, h.2.2.1, fun S => by
  rw [h.2.2.2, tot_append, tot_cons, tot_nil, h0]
  split <;> omega⟩
theorem Gth.put {rows l : Tb} {r : List Int × Int} (h : Gth rows l) (h0 : 0 < r.2) : Gth (rows ++ [r]) (putI l (uSet r.1) ((valI l (uSet r.1)).getD 0 + r.2)) := by
  have hv0 : 0 ≤ (valI l (uSet r.1)).getD 0 := by
    cases e : valI l (uSet r.1) with
    | none => simp
    | some v => have := h.2.2.1 _ (valI_mem e); simp; omega
  refine ⟨?_, putI_keys h.2.1, fun p hp => ?_, fun S => ?_⟩
  · rw [List.length_append]
    exact Nat.le_trans (putI_len _ _ _) (by have := h.1; simp; omega)
  · rcases putI_mem hp with z | z
    · exact h.2.2.1 p z
    · rw [z]; show 0 < _ + r.2; omega
  · rw [valI_putI, tot_append, tot_cons, tot_nil, ← h.2.2.2]
    by_cases c : S = uSet r.1
    · rw [if_pos c, if_pos c.symm, c]; simp
    · rw [if_neg c, if_neg fun z => c z.symm]; simp
theorem ho_turn (dc : D) (rows l : Tb) (r : List Int × Int) (s3 s4 s5 : Sl) (h1 : r.1.length < 60) (h2 : 0 ≤ r.2) (hl : l.length < 10000) : ∃ s5', step (tgTup [3, 4]) B_heaps_of_1 (rowD r) [.sh dc, .sh (.lst (rows.map rowD)), .own (.dT (enT l)), s3, s4, s5] = some [.sh dc, .sh (.lst (rows.map rowD)), .own (.dT (enT (if 0 < r.2 then putI l (uSet r.1) ((valI l (uSet r.1)).getD 0 + r.2) else l))), .sh (.tup (r.1.map .int)), .sh (.int r.2), s5'] := by
  have hu := uSet_len r.1
  have hu1 : (uSet r.1).length ≤ 100000 := by omega
  have hl1 : l.length < 100000 := by omega
  have n1 : ¬ r.2 < 0 := by omega
  have ei : intsD (r.1.map D.int) = some r.1 := intsD_map r.1
  unfold B_heaps_of_1 rowD
  by_cases c : 0 < r.2
  · exact ⟨.sh (.tup ((uSet r.1).map .int)), by simp [c, n1, ei, h1, hu1, hl1, keysD_ints]⟩
  · exact ⟨s5, by simp [c, n1]⟩
theorem Gth.next {rows l : Tb} {r : List Int × Int} (h : Gth rows l) (h0 : 0 ≤ r.2) : Gth (rows ++ [r]) (if 0 < r.2 then putI l (uSet r.1) ((valI l (uSet r.1)).getD 0 + r.2) else l) := by
  split
  · rename_i c; exact h.put c
  · exact h.skip (by omega)
/-- the table in its order -/
theorem gth_end {rows l : Tb} (g : Gth rows l) : Hof rows (((l.map (·.1)).mergeSort leB).map fun S => (S, (valI l S).getD 0)) := by
  refine ⟨?_, fun p => ?_⟩
  · have e : ((((l.map (·.1)).mergeSort leB).map fun S => (S, (valI l S).getD 0)).map (·.1)) = (l.map (·.1)).mergeSort leB := by
      rw [List.map_map]
      exact List.map_id' _
    rw [e]
    exact srtB_strict g.2.1
  · rw [List.mem_map]
    constructor
    · rintro ⟨S, hS, rfl⟩
      obtain ⟨q, hq, rfl⟩ := List.mem_map.mp (List.mem_mergeSort.mp hS)
      obtain ⟨v, hv⟩ := valI_some hq
      have := g.2.2.1 _ (valI_mem hv)
      refine ⟨g.2.2.2 _, ?_⟩
      show 0 < (valI l q.1).getD 0
      rw [hv]
      exact this
    · rintro ⟨h1, h2⟩
      cases e : valI l p.1 with
      | none =>
        have := g.2.2.2 p.1
        rw [e] at this
        have : tot rows p.1 = 0 := this.symm
        omega
      | some v =>
        refine ⟨p.1, List.mem_mergeSort.mpr (List.mem_map.mpr ⟨_, valI_mem e, rfl⟩), ?_⟩
        exact Prod.ext rfl ((g.2.2.2 p.1).trans h1.symm)
theorem look_eq (n : Nat) (rows : Tb) (h : RowsOk n rows) : F_look_names [.int (n : Int), .lst (rows.map rowD)] = some (.val .non false) := by
  obtain ⟨ρ', h1, s2, s3, s4, h2⟩ := loopF_all (tgt := tgTup [2, 3]) (body := B_look_names_2) (l := rows) rowD (fun _ ρ => ∃ s2 s3 s4, ρ = [.sh (.int (n : Int)), .sh (.lst (rows.map rowD)), s2, s3, s4]) (i := 0) (ρ := [.sh (.int (n : Int)), .sh (.lst (rows.map rowD)), .emp, .emp, .emp]) ⟨_, _, _, rfl⟩ (by
    rintro k r ρ hk ⟨s2, s3, s4, rfl⟩
    obtain ⟨q1, q2, q3⟩ := h.2 r (List.mem_of_getElem? hk)
    obtain ⟨ρ', h1, s4', h2⟩ := loopF_all (tgt := tgName 4) (body := B_look_names_1) (l := r.1) D.int (fun _ ρ => ∃ s4, ρ = [.sh (.int (n : Int)), .sh (.lst (rows.map rowD)), .sh (.tup (r.1.map .int)), .sh (.int r.2), s4]) (i := 0) (ρ := [.sh (.int (n : Int)), .sh (.lst (rows.map rowD)), .sh (.tup (r.1.map .int)), .sh (.int r.2), s4]) ⟨_, rfl⟩ (by
      rintro j x ρ hj ⟨s4, rfl⟩
      obtain ⟨x0, x1⟩ := q1 x (List.mem_of_getElem? hj)
      have n1 : ¬ x < 0 := by omega
      have n2 : ¬ (n : Int) ≤ x := by omega
      unfold B_look_names_1
      simp [n1, n2])
    subst h2
    have er : rowD r = .tup [.tup (r.1.map .int), .int r.2] := rfl
    unfold B_look_names_2
    exact ⟨[.sh (.int (n : Int)), .sh (.lst (rows.map rowD)), .sh (.tup (r.1.map .int)), .sh (.int r.2), s4'], by rw [er]; simp [h1], _, _, _, rfl⟩)
  subst h2
  unfold F_look_names b_look_names
  simp [h1]
theorem rank_eq (xs : List Int) (h : xs.length ≤ 100000) : kOf F_rank (tD xs) = some (rL xs) := by
  unfold kOf F_rank b_rank tD rL
  simp [h]
theorem hof_len {rows l : Tb} (g : Gth rows l) : (((l.map (·.1)).mergeSort leB)).length = l.length := by
  rw [List.length_mergeSort, List.length_map]
theorem heaps_of_eq (n : Nat) (h1n : 1 ≤ n) (h6 : n ≤ 6) (rows : Tb) (h : RowsOk n rows) (hpos : ∃ r ∈ rows, 0 < r.2) : ∃ hs : Tb, Hof rows hs ∧ hs.length ≤ rows.length ∧ F_heaps_of [.int (n : Int), .lst (rows.map rowD)] = some (.val (.lst (hs.map hD)) true) := by
  have el := look_eq n rows h
  obtain ⟨ρ', h1, l, s3, s4, s5, g, hs3, h2⟩ := loopF_all (tgt := tgTup [3, 4]) (body := B_heaps_of_1) (l := rows) rowD (fun i ρ => ∃ (l : Tb) (s3 s4 s5 : Sl), Gth (rows.take i) l ∧ (s3 = .emp ∨ ∃ d, s3 = .sh d) ∧ ρ = [.sh (.int (n : Int)), .sh (.lst (rows.map rowD)), .own (.dT (enT l)), s3, s4, s5]) (i := 0) (ρ := [.sh (.int (n : Int)), .sh (.lst (rows.map rowD)), .own (.dT (enT [])), .emp, .emp, .emp]) ⟨[], _, _, _, gth_nil, .inl rfl, rfl⟩ (by
    rintro k r ρ hk ⟨l, s3, s4, s5, g, _, rfl⟩
    obtain ⟨q1, q2, q3⟩ := h.2 r (List.mem_of_getElem? hk)
    rw [Nat.zero_add] at g ⊢
    have hl : l.length < 10000 := by
      have := g.1
      rw [List.length_take] at this
      have := h.1
      omega
    obtain ⟨s5', ht⟩ := ho_turn (.int (n : Int)) rows l r s3 s4 s5 q2 q3 hl
    refine ⟨_, ht, _, _, _, _, ?_, .inr ⟨_, rfl⟩, rfl⟩
    rw [List.take_add_one, hk]
    exact g.next q3)
  rw [Nat.zero_add, List.take_length] at g
  subst h2
  have e0 : enT [] = [] := rfl
  rw [e0] at h1
  have hne : l ≠ [] := fun z => by
    obtain ⟨r, hr, hr0⟩ := hpos
    have h1 := g.2.2.2 (uSet r.1)
    rw [z] at h1
    have h2 : tot rows (uSet r.1) = 0 := h1.symm
    have h3 : ∀ rows : Tb, (∀ r ∈ rows, 0 ≤ r.2) → r ∈ rows → 0 < tot rows (uSet r.1) := by
      intro rows
      induction rows with
      | nil => intro _ hm; cases hm
      | cons q t ih =>
        intro hnn hm
        rw [tot_cons]
        have hq := hnn q List.mem_cons_self
        have ht := tot_nn (fun x hx => hnn x (List.mem_cons_of_mem _ hx)) (uSet r.1)
        rcases List.mem_cons.mp hm with z | z
        · subst z
          rw [if_pos rfl]
          omega
        · have := ih (fun x hx => hnn x (List.mem_cons_of_mem _ hx)) z
          split <;> omega
    have := h3 rows (fun q hq => (h.2 q hq).2.2) hr
    omega
  have hl1 : l.length ≤ 100000 := by have := g.1; have := h.1; omega
  have hl0 : ¬ (l.length : Int) = 0 := by
    have : l.length ≠ 0 := fun z => hne (List.length_eq_zero_iff.mp z)
    omega
  have hl0' : ¬ l.length = 0 := by omega
  have ge := gth_end g
  have gl := hof_len g
  have keyl : ∀ S ∈ l.map (·.1), S.length ≤ 60 := fun S hS => by
    obtain ⟨p, hp, rfl⟩ := List.mem_map.mp hS
    have hp0 := g.2.2.1 p hp
    obtain ⟨v, hv⟩ := valI_some hp
    have h1 := g.2.2.2 p.1
    have h2 := g.2.2.1 _ (valI_mem hv)
    rw [hv] at h1
    have h3 : v = tot rows p.1 := h1
    have h4 : ∀ rows : Tb, (∀ r ∈ rows, r.1.length < 60) → tot rows p.1 ≠ 0 → p.1.length ≤ 60 := by
      intro rows
      induction rows with
      | nil => intro _ z; exact absurd rfl z
      | cons q t ih =>
        intro hb z
        rw [tot_cons] at z
        by_cases c : uSet q.1 = p.1
        · have := uSet_len q.1
          have := hb q List.mem_cons_self
          rw [← c]
          omega
        · rw [if_neg c] at z
          exact ih (fun r hr => hb r (List.mem_cons_of_mem _ hr)) (by omega)
    exact h4 rows (fun r hr => (h.2 r hr).2.1) (by have h5 : 0 < v := h2; omega)
  have hsk := fun m => sortKB_eq (G := F_rank) (l := l.map (·.1)) (m := m) (fun S hS => rank_eq S (by have := keyl S hS; omega)) (by rw [List.length_map]; exact hl1)
  have ek : ((enT l).map fun kv => keyT kv.1) = (l.map (·.1)).map tD := by rw [keys_en, List.map_map]; rfl
  have hcf := compF_all (tgt := tgName 3) (ft := tYes') (fe := eTup (aCons (eVar 3) (aCons (eDGet (eVar 2) (eVar 3)) aNil))) (ρ := [.sh (.int (n : Int)), .sh (.lst (rows.map rowD)), .own (.dT (enT l)), .emp, s4, s5]) (l := (l.map (·.1)).mergeSort leB) tD (fun S => hD (S, (valI l S).getD 0)) fun S hS => by
    obtain ⟨p, hp, rfl⟩ := List.mem_map.mp (List.mem_mergeSort.mp hS)
    obtain ⟨v, hv⟩ := valI_some hp
    exact ⟨_, by simp; rfl, rfl, .av, by simp [tD, hD, hv], rfl⟩
  have e5 : (((l.map (·.1)).mergeSort leB).map fun S => hD (S, (valI l S).getD 0)) = (((l.map (·.1)).mergeSort leB).map fun S => (S, (valI l S).getD 0)).map hD := by rw [List.map_map]; rfl
  rw [e5] at hcf
  refine ⟨_, ge, by rw [List.length_map, gl]; exact g.1, ?_⟩
  generalize (((l.map (·.1)).mergeSort leB).map fun S => (S, (valI l S).getD 0)) = hs at hcf
  have gl1 : ((l.map (·.1)).mergeSort leB).length ≤ 100000 := by rw [gl]; exact hl1
  have b1 : ¬ (n : Int) < 1 := by omega
  have b2 : ¬ 6 < (n : Int) := by omega
  have n0 : ¬ n = 0 := by omega
  have n6 : ¬ 6 < n := by omega
  generalize (l.map (·.1)).mergeSort leB = srt at hsk hcf gl1
  unfold F_heaps_of b_heaps_of
  rcases hs3 with rfl | ⟨d3, rfl⟩ <;> simp [-List.map_map, el, h1, b1, b2, n0, n6, hl0, hl0', ek, ev_sortK, hsk, hcf, gl1]
/-! what the texts that many laws share answer -/
theorem cell_at_eq (ns : List Int) (k : Nat) : ∃ c : Int, F_law_cell_at [.ro ns, .int (k : Int)] = some (.val (.int c) false) := by
  unfold F_law_cell_at b_law_cell_at
  by_cases h : (k : Int) < ns.length
  · obtain ⟨x, hx, _⟩ := atI_ok (xs := ns) (i := (k : Int)) (by omega) h
    exact ⟨x, by simp [h, hx]⟩
  · exact ⟨0, by simp [h]⟩
/-! the law's own heaps: put in by place -/
def fstD (a b : List Int) : Bool := match (List.zip a b).find? (fun p => !decide (p.1 = p.2)) with
  | some p => decide (p.1 < p.2)
  | none => false
theorem fstD_lt : ∀ {a b : List Int}, a.length = b.length → fstD a b = decide (a < b)
  | [], [], _ => by simp [fstD]
  | [], _ :: _, h => by cases h
  | _ :: _, [], h => by cases h
  | x :: a, y :: b, h => by
    have ih := fstD_lt (a := a) (b := b) (by simpa using h)
    unfold fstD at ih ⊢
    rw [List.zip_cons_cons, List.find?_cons]
    by_cases c : x = y
    · subst c
      simp only [decide_true, Bool.not_true]
      rw [ih]
      simp [List.cons_lt_cons_iff]
    · simp [c, List.cons_lt_cons_iff]
theorem before_eq (a b : List Int) (ha : a.length ≤ 100) (hb : b.length ≤ 100) : F_law_before [tD a, tD b] = some (.val (.bl (decide (bef a b))) false) := by
  have ht : ∀ xs : List Int, cLen [⟨tD xs, .av⟩] = some ⟨.int xs.length, .av⟩ := fun xs => by unfold tD; simp
  by_cases c : a.length = b.length
  · have eb : decide (bef a b) = fstD a b := by
      rw [fstD_lt c]
      exact decide_eq_decide.mpr ⟨fun h => h.elim (fun z => by omega) (·.2), fun h => .inr ⟨c, h⟩⟩
    rw [eb]
    have ez : zipD (a.map D.int) (b.map D.int) = (List.zip a b).map fun p => D.tup [.int p.1, .int p.2] := zipD_ints a b
    have hz : zB (some [⟨tD a, .av⟩, ⟨tD b, .av⟩]) = some ((List.zip a b).map fun p : Int × Int => D.tup [.int p.1, .int p.2]) := by
      unfold tD
      simp [zB, ez]
    rcases loopF_find (tgt := tgTup [2, 3]) (body := B_law_before_1) (l := List.zip a b) (fun p : Int × Int => D.tup [.int p.1, .int p.2]) (fun p => !decide (p.1 = p.2)) (fun ρ => ∃ s2 s3, ρ = [.sh (tD a), .sh (tD b), s2, s3]) (fun p => .bl (decide (p.1 < p.2))) (ρ := [.sh (tD a), .sh (tD b), .emp, .emp]) ⟨_, _, rfl⟩ (by
      rintro p ρ hp ⟨s2, s3, rfl⟩
      constructor
      · intro h
        have h' : ¬ p.1 = p.2 := by simpa using h
        have z : B_law_before_1 [.sh (tD a), .sh (tD b), .sh (.int p.1), .sh (.int p.2)] = some (.rt (.bl (decide (p.1 < p.2))) false) := by
          unfold B_law_before_1
          simp [h']
        exact Option.bind_eq_some_iff.mpr ⟨[.sh (tD a), .sh (tD b), .sh (.int p.1), .sh (.int p.2)], by simp, z⟩
      · intro h
        have h' : p.1 = p.2 := by simpa using h
        unfold B_law_before_1
        simp [h']) with ⟨p, h1, h2⟩ | ⟨h1, ρ', h2, s2, s3, h3⟩
    · have e : fstD a b = decide (p.1 < p.2) := by unfold fstD; rw [h1]
      rw [e]
      unfold F_law_before b_law_before
      simp [ht, c, hz, h2]
    · have e : fstD a b = false := by unfold fstD; rw [h1]
      rw [e]
      subst h3
      unfold F_law_before b_law_before
      simp [ht, c, hz, h2]
  · have eb : decide (bef a b) = decide (a.length < b.length) := decide_eq_decide.mpr ⟨fun h => h.elim id (fun z => absurd z.1 c), .inl⟩
    rw [eb]
    have c' : ¬ (a.length : Int) = b.length := by omega
    unfold F_law_before b_law_before
    by_cases d : a.length < b.length <;> simp [ht, c, c', d]
/-- where a set belongs -/
def plc (l : Tb) (S : List Int) : Nat := (l.takeWhile fun p => decide (bef p.1 S)).length
def putL (l : Tb) (S : List Int) (v : Int) : Tb := match l[plc l S]? with
  | some p => if p.1 = S then l.set (plc l S) (S, p.2 + v) else l.take (plc l S) ++ [(S, v)] ++ l.drop (plc l S)
  | none => l.take (plc l S) ++ [(S, v)] ++ l.drop (plc l S)
theorem plc_split : ∀ (l : Tb) (S : List Int), ∃ A B : Tb, l = A ++ B ∧ A.length = plc l S ∧ (∀ p ∈ A, bef p.1 S) ∧ (∀ p ∈ B.head?, ¬ bef p.1 S)
  | [], S => ⟨[], [], rfl, rfl, (fun p h => by cases h), fun p h => by cases h⟩
  | q :: l, S => by
    by_cases c : bef q.1 S
    · obtain ⟨A, B, h1, h2, h3, h4⟩ := plc_split l S
      refine ⟨q :: A, B, by rw [h1]; rfl, ?_, fun p hp => ?_, h4⟩
      · unfold plc at h2 ⊢
        rw [List.length_cons, h2]
        simp [c]
      · rcases List.mem_cons.mp hp with z | z
        · rw [z]; exact c
        · exact h3 p z
    · refine ⟨[], q :: l, rfl, by unfold plc; simp [c], (fun p h => by cases h), fun p hp => ?_⟩
      have : p = q := by simpa using hp.symm
      rw [this]; exact c
theorem putL_ok {l : Tb} {S : List Int} {v : Int} (hs : (l.map (·.1)).Pairwise bef) : ((putL l S v).map (·.1)).Pairwise bef ∧ (∀ p, p ∈ putL l S v ↔ (p.1 ≠ S ∧ p ∈ l) ∨ p = (S, ((l.find? fun q => decide (q.1 = S)).map (·.2)).getD 0 + v)) ∧ (putL l S v).length ≤ l.length + 1 := by
  obtain ⟨A, B, h1, h2, h3, h4⟩ := plc_split l S
  unfold putL
  rw [← h2]
  have nA : ∀ p ∈ A, p.1 ≠ S := fun p hp z => by have := h3 p hp; rw [z] at this; exact bef_irrefl _ this
  have hsA : (A.map (·.1)).Pairwise bef ∧ (B.map (·.1)).Pairwise bef ∧ ∀ a ∈ A.map (·.1), ∀ b ∈ B.map (·.1), bef a b := by
    rw [h1, List.map_append] at hs
    exact List.pairwise_append.mp hs
  obtain ⟨sA, sB, sAB⟩ := hsA
  have fA : A.find? (fun q => decide (q.1 = S)) = none := List.find?_eq_none.mpr fun p hp => by simpa using nA p hp
  cases B with
  | nil =>
    have e1 : l = A := by rw [h1, List.append_nil]
    subst e1
    have e2 : l[l.length]? = none := List.getElem?_eq_none (Nat.le_refl _)
    rw [e2]
    dsimp only
    rw [List.take_length, List.drop_length, List.append_nil, fA]
    refine ⟨?_, fun p => ?_, by rw [List.length_append]; simp⟩
    · rw [List.map_append]
      refine List.pairwise_append.mpr ⟨sA, by simp, fun a ha b hb => ?_⟩
      obtain ⟨p, hp, rfl⟩ := List.mem_map.mp ha
      have : b = S := by simpa using hb
      rw [this]; exact h3 p hp
    · rw [List.mem_append, List.mem_singleton]
      constructor
      · rintro (z | z)
        · exact .inl ⟨nA p z, z⟩
        · exact .inr (by rw [z]; simp)
      · rintro (z | z)
        · exact .inl z.2
        · exact .inr (by rw [z]; simp)
  | cons q B =>
    have hq : ¬ bef q.1 S := h4 q rfl
    obtain ⟨sq, sB'⟩ := List.pairwise_cons.mp sB
    have e2 : l[A.length]? = some q := by rw [h1, List.getElem?_append_right (Nat.le_refl _), Nat.sub_self]; rfl
    have et : l.take A.length = A := by rw [h1, List.take_left']; rfl
    have ed : l.drop A.length = q :: B := by rw [h1, List.drop_left']; rfl
    rw [e2]
    dsimp only
    by_cases c : q.1 = S
    · rw [if_pos c]
      have es : l.set A.length (S, q.2 + v) = A ++ (S, q.2 + v) :: B := by
        rw [h1, List.set_append_right _ _ (Nat.le_refl _), Nat.sub_self]
        rfl
      have fl : l.find? (fun r => decide (r.1 = S)) = some q := by rw [h1, List.find?_append, fA]; simp [c]
      have nB : ∀ p ∈ B, p.1 ≠ S := fun p hp z => by
        have : bef q.1 p.1 := sq p.1 (List.mem_map.mpr ⟨p, hp, rfl⟩)
        rw [z, c] at this
        exact bef_irrefl _ this
      rw [es, fl]
      refine ⟨?_, fun p => ?_, by rw [h1]; simp⟩
      · have ek : (A ++ (S, q.2 + v) :: B).map (·.1) = l.map (·.1) := by rw [h1, List.map_append, List.map_append, List.map_cons, List.map_cons, c]
        rw [ek]; exact hs
      · rw [h1, List.mem_append, List.mem_cons, List.mem_append, List.mem_cons]
        constructor
        · rintro (z | z | z)
          · exact .inl ⟨nA p z, .inl z⟩
          · exact .inr (by rw [z]; rfl)
          · exact .inl ⟨nB p z, .inr (.inr z)⟩
        · rintro (⟨z1, z2 | z2 | z2⟩ | z)
          · exact .inl z2
          · exact absurd (by rw [z2]; exact c) z1
          · exact .inr (.inr z2)
          · exact .inr (.inl (by rw [z]; rfl))
    · rw [if_neg c, et, ed]
      have hSq : bef S q.1 := by
        by_cases z : bef S q.1
        · exact z
        · exact absurd (bef_tri hq z) c
      have nB : ∀ p ∈ q :: B, bef S p.1 := fun p hp => by
        rcases List.mem_cons.mp hp with z | z
        · rw [z]; exact hSq
        · exact bef_trans hSq (sq p.1 (List.mem_map.mpr ⟨p, z, rfl⟩))
      have nB' : ∀ p ∈ q :: B, p.1 ≠ S := fun p hp z => by have := nB p hp; rw [z] at this; exact bef_irrefl _ this
      have fB : (q :: B).find? (fun r => decide (r.1 = S)) = none := List.find?_eq_none.mpr fun p hp => by simpa using nB' p hp
      have fl : l.find? (fun r => decide (r.1 = S)) = none := by rw [h1, List.find?_append, fA, fB]; rfl
      rw [fl]
      refine ⟨?_, fun p => ?_, by rw [h1]; simp; omega⟩
      · rw [List.map_append, List.map_append]
        refine List.pairwise_append.mpr ⟨List.pairwise_append.mpr ⟨sA, by simp, fun a ha b hb => ?_⟩, sB, fun a ha b hb => ?_⟩
        · obtain ⟨p, hp, rfl⟩ := List.mem_map.mp ha
          have : b = S := by simpa using hb
          rw [this]; exact h3 p hp
        · obtain ⟨r, hr, rfl⟩ := List.mem_map.mp hb
          rcases List.mem_append.mp ha with z | z
          · exact sAB a z r.1 (List.mem_map.mpr ⟨r, hr, rfl⟩)
          · have : a = S := by simpa using z
            rw [this]; exact nB r hr
      · rw [List.mem_append, List.mem_append, List.mem_singleton, h1, List.mem_append]
        constructor
        · rintro ((z | z) | z)
          · exact .inl ⟨nA p z, .inl z⟩
          · exact .inr (by rw [z]; simp)
          · exact .inl ⟨nB' p z, .inr z⟩
        · rintro (⟨_, z | z⟩ | z)
          · exact .inl (.inl z)
          · exact .inr z
          · exact .inl (.inr (by rw [z]; simp))
theorem hof_nil : Hof [] [] := ⟨List.Pairwise.nil, fun p => ⟨fun h => (by cases h), fun h => (by rw [tot_nil] at h; omega)⟩⟩
theorem hof_look {rows l : Tb} (h : Hof rows l) (hnn : ∀ r ∈ rows, 0 ≤ r.2) (S : List Int) : ((l.find? fun q => decide (q.1 = S)).map (·.2)).getD 0 = tot rows S := by
  cases e : l.find? fun q => decide (q.1 = S) with
  | some q =>
    have h1 := List.find?_some e
    have h2 := List.mem_of_find?_eq_some e
    have h3 : q.1 = S := by simpa using h1
    have := ((h.2 q).mp h2).1
    rw [h3] at this
    exact this
  | none =>
    have h0 := tot_nn hnn S
    by_cases z : 0 < tot rows S
    · have := List.find?_eq_none.mp e (S, tot rows S) ((h.2 _).mpr ⟨rfl, z⟩)
      simp at this
    · show (0 : Int) = _
      omega
theorem hof_put {rows l : Tb} {r : List Int × Int} (h : Hof rows l) (hnn : ∀ q ∈ rows, 0 ≤ q.2) (h0 : 0 < r.2) : Hof (rows ++ [r]) (putL l (uSet r.1) r.2) := by
  obtain ⟨p1, p2, _⟩ := putL_ok (S := uSet r.1) (v := r.2) h.1
  refine ⟨p1, fun p => ?_⟩
  have ht : tot (rows ++ [r]) p.1 = tot rows p.1 + (if uSet r.1 = p.1 then r.2 else 0) := by rw [tot_append, tot_cons, tot_nil]; omega
  rw [p2, hof_look h hnn, ht]
  by_cases c : p.1 = uSet r.1
  · rw [if_pos c.symm]
    constructor
    · rintro (z | z)
      · exact absurd c z.1
      · have hn := tot_nn hnn (uSet r.1)
        rw [z]
        exact ⟨rfl, by show 0 < tot rows (uSet r.1) + r.2; omega⟩
    · rintro ⟨z1, z2⟩
      exact .inr (Prod.ext c (by rw [z1, c]))
  · rw [if_neg fun z => c z.symm, Int.add_zero, h.2]
    constructor
    · rintro (z | z)
      · exact z.2
      · exact absurd (by rw [z]) c
    · exact fun z => .inl ⟨c, z⟩
theorem hof_skip {rows l : Tb} {r : List Int × Int} (h : Hof rows l) (h0 : r.2 = 0) : Hof (rows ++ [r]) l := ⟨h.1, fun p => by
  have ht : tot (rows ++ [r]) p.1 = tot rows p.1 := by rw [tot_append, tot_cons, tot_nil, h0]; split <;> omega
  rw [ht]; exact h.2 p⟩
theorem like_eq (r : List Int × Int) (h : ∀ x ∈ r.1, 0 ≤ x ∧ x < 6) : (((List.range 6).filter fun (k : Nat) => decide ((k : Int) ∈ r.1)).map fun (k : Nat) => (k : Int)) = uSet r.1 := by
  refine lt_uniq ?_ (uSet_lt _) fun x => ?_
  · rw [List.pairwise_map]
    exact (List.pairwise_lt_range.filter _).imp fun {a b} z => by omega
  · rw [uSet_mem, List.mem_map]
    constructor
    · rintro ⟨k, hk, rfl⟩
      simpa using (List.mem_filter.mp hk).2
    · intro hx
      have := h x hx
      exact ⟨x.toNat, by rw [List.mem_filter, List.mem_range, decide_eq_true_eq]; exact ⟨by omega, by rw [show ((x.toNat : Nat) : Int) = x by omega]; exact hx⟩, by omega⟩
theorem plc_le (l : Tb) (S : List Int) : plc l S ≤ l.length := by
  obtain ⟨A, B, h1, h2, _, _⟩ := plc_split l S
  rw [← h2, h1, List.length_append]
  omega
theorem while_eq (x : D) (l : Tb) (S : List Int) (s2 s3 s6 : Sl) (hl : l.length < 900) (hS : S.length ≤ 100) (hk : ∀ p ∈ l, p.1.length ≤ 100) : ∀ (d i f : Nat), i + d = plc l S → d < f →
    loopW (tAnd' (toB (eOp vLt (eVar 5) (eCB cLen (aCons (eVar 1) aNil)))) (toB (eCall F_law_before [] (aCons (eOp vIx (eOp vIx (eVar 1) (eVar 5)) (eC (.int 0))) (aCons (eVar 4) aNil))))) B_law_heaps_1 f [.sh x, .own (.lst (l.map hD)), s2, s3, .sh (tD S), .sh (.int (i : Int)), s6] = some (.nx [.sh x, .own (.lst (l.map hD)), s2, s3, .sh (tD S), .sh (.int (plc l S : Nat)), s6]) := by
  obtain ⟨A, B, h1, h2, h3, h4⟩ := plc_split l S
  have hp := plc_le l S
  have ix : ∀ (i : Nat) (p : List Int × Int), l[i]? = some p → atI (l.map hD) (i : Int) = some (hD p) := fun i p h => atI_nat (by rw [List.getElem?_map, h]; rfl)
  have i0 : ∀ (p : List Int × Int), vIx ⟨hD p, .av⟩ ⟨.int 0, .av⟩ = some ⟨tD p.1, .av⟩ := fun p => by
    have a0 : atI [D.tup (p.1.map .int), D.int p.2] 0 = some (.tup (p.1.map .int)) := rfl
    simp [hD, a0, tD]
  have ih : ∀ p : List Int × Int, imm (hD p) = true := fun p => by simp [hD]
  intro d
  induction d with
  | zero =>
    intro i f hi hf
    obtain ⟨f, rfl⟩ : ∃ g, f = g + 1 := ⟨f - 1, by omega⟩
    have hi' : i = plc l S := by omega
    subst hi'
    unfold loopW
    cases e : l[plc l S]? with
    | none =>
      have hge : ¬ ((plc l S : Nat) : Int) < (l.length : Int) := by
        have := List.getElem?_eq_none_iff.mp e
        omega
      have hge' : ¬ plc l S < l.length := by omega
      simp [hge, hge']
    | some p =>
      have hlt := (List.getElem?_eq_some_iff.mp e).1
      have hnb : ¬ bef p.1 S := h4 p (by
        rw [← h2, h1, List.getElem?_append_right (Nat.le_refl _), Nat.sub_self] at e
        cases B with
        | nil => cases e
        | cons q B => exact e)
      have eb := before_eq p.1 S (hk p (List.mem_of_getElem? e)) hS
      rw [decide_eq_false hnb] at eb
      have ex := ix _ p e
      have hlt' : ((plc l S : Nat) : Int) < (l.length : Int) := by omega
      simp [hlt, hlt', ex, i0, ih, eb]
  | succ d ihd =>
    intro i f hi hf
    obtain ⟨f, rfl⟩ : ∃ g, f = g + 1 := ⟨f - 1, by omega⟩
    have hlt : i < l.length := by omega
    obtain ⟨p, e⟩ : ∃ p, l[i]? = some p := ⟨_, List.getElem?_eq_getElem hlt⟩
    have hb : bef p.1 S := h3 p (by
      rw [h1, List.getElem?_append_left (by omega)] at e
      exact List.mem_of_getElem? e)
    have eb := before_eq p.1 S (hk p (List.mem_of_getElem? e)) hS
    rw [decide_eq_true hb] at eb
    have ex := ix _ p e
    have rc := ihd (i + 1) f (by omega) (by omega)
    have ec : ((i + 1 : Nat) : Int) = (i : Int) + 1 := by omega
    rw [ec] at rc
    have hlt' : (i : Int) < (l.length : Int) := by omega
    unfold loopW
    unfold B_law_heaps_1 at rc ⊢
    simp [hlt, hlt', ex, i0, ih, eb, rc]
theorem lh_turn (x : D) (l : Tb) (r : List Int × Int) (s2 s3 s4 s5 : Sl) (hl : l.length < 900) (hk : ∀ p ∈ l, p.1.length ≤ 100) (hn : ∀ x ∈ r.1, 0 ≤ x ∧ x < 6) (h6 : r.1.length < 60) (h0 : 0 ≤ r.2) : step (tgTup [2, 3]) B_law_heaps_2 (rowD r) [.sh x, .own (.lst (l.map hD)), s2, s3, s4, s5, .emp] = some [.sh x, .own (.lst ((if 0 < r.2 then putL l (uSet r.1) r.2 else l).map hD)), .sh (.tup (r.1.map .int)), .sh (.int r.2), .sh (tD (uSet r.1)), .sh (.int (plc l (uSet r.1) : Nat)), .emp] := by
  have er : rowD r = .tup [.tup (r.1.map .int), .int r.2] := rfl
  have hc := fun s4 s5 : Sl => compF_map (tgt := tgName 6) (ft := toB (eOp (vInG false) (eVar 6) (eVar 2))) (fe := eVar 6) (ρ := [.sh x, .own (.lst (l.map hD)), .sh (.tup (r.1.map .int)), .sh (.int r.2), s4, s5, .emp]) (l := List.range 6) (fun (k : Nat) => D.int (k : Int)) (fun k => decide ((k : Int) ∈ r.1)) (fun k => D.int (k : Int)) fun k _ => ⟨[.sh x, .own (.lst (l.map hD)), .sh (.tup (r.1.map .int)), .sh (.int r.2), s4, s5, .sh (.int (k : Int))], by simp, by simp [inD_ints, atom_ints], fun _ => ⟨.av, by simp, rfl⟩⟩
  have e5 : (((List.range 6).filter fun (k : Nat) => decide ((k : Int) ∈ r.1)).map fun (k : Nat) => D.int (k : Int)) = (uSet r.1).map D.int := by
    rw [← like_eq r hn, List.map_map]
    rfl
  rw [e5] at hc
  have hu := uSet_len r.1
  have hu1 : (uSet r.1).length ≤ 100000 := by omega
  have hp := plc_le l (uSet r.1)
  have wh := while_eq x l (uSet r.1) (.sh (.tup (r.1.map .int))) (.sh (.int r.2)) .emp hl (by omega) hk (plc l (uSet r.1)) 0 1000 (by omega) (by omega)
  have ef : ∀ ρ, fu_law_heaps_0 ρ = 1000 := fun _ => rfl
  have w0 : ((0 : Nat) : Int) = 0 := rfl
  rw [w0] at wh
  have ix : ∀ (i : Nat) (p : List Int × Int), l[i]? = some p → atI (l.map hD) (i : Int) = some (hD p) := fun i p h => atI_nat (by rw [List.getElem?_map, h]; rfl)
  have i0 : ∀ (p : List Int × Int), vIx ⟨hD p, .av⟩ ⟨.int 0, .av⟩ = some ⟨tD p.1, .av⟩ := fun p => by
    have a0 : atI [D.tup (p.1.map .int), D.int p.2] 0 = some (.tup (p.1.map .int)) := rfl
    simp [hD, a0, tD]
  have i1 : ∀ (p : List Int × Int), vIx ⟨hD p, .av⟩ ⟨.int 1, .av⟩ = some ⟨.int p.2, .av⟩ := fun p => by
    have a0 : atI [D.tup (p.1.map .int), D.int p.2] 1 = some (.int p.2) := rfl
    simp [hD, a0]
  have ih : ∀ p : List Int × Int, imm (hD p) = true := fun p => by simp [hD]
  have eq : ∀ (a b : List Int), eqD (tD a) (tD b) = decide (a = b) := fun a b => eqD_ints a b
  have ft : ∀ n (a : List Int), fit (n + 1) (tD a) = true := fun n a => fit_ints n a
  have et : (.tup ((uSet r.1).map .int) : D) = tD (uSet r.1) := rfl
  have eh : ∀ (a : List Int) (v : Int), (.tup [tD a, .int v] : D) = hD (a, v) := fun _ _ => rfl
  have it : ∀ a : List Int, imm (tD a) = true := fun a => by simp [tD]
  have hl1 : l.length < 100000 := by omega
  have hpl : ((plc l (uSet r.1) : Nat) : Int) < 100000 := by omega
  unfold B_law_heaps_2 putL
  rw [er]
  by_cases c : 0 < r.2
  · cases e : l[plc l (uSet r.1)]? with
    | none =>
      have hge : ¬ plc l (uSet r.1) < l.length := fun z => by
        rw [List.getElem?_eq_getElem z] at e
        cases e
      simp [hc, hu1, et, ef, wh, c, hge, hl1, hpl, eh, it]
    | some p =>
      have hlt := (List.getElem?_eq_some_iff.mp e).1
      have ex := ix _ p e
      by_cases c2 : p.1 = uSet r.1
      · simp [hc, hu1, et, ef, wh, c, hlt, hl1, hpl, eh, it, ex, i0, i1, ih, eq, ft, c2]
      · simp [hc, hu1, et, ef, wh, c, hlt, hl1, hpl, eh, it, ex, i0, i1, ih, eq, ft, c2]
  · simp [hc, hu1, et, ef, wh, c]
theorem putL_len {l : Tb} {S : List Int} {v : Int} (hs : (l.map (·.1)).Pairwise bef) : (putL l S v).length ≤ l.length + 1 := (putL_ok hs).2.2
theorem putL_keys {l : Tb} {S : List Int} {v : Int} (hs : (l.map (·.1)).Pairwise bef) {p : List Int × Int} (h : p ∈ putL l S v) : p ∈ l ∨ p.1 = S := by
  rcases ((putL_ok hs).2.1 p).mp h with z | z
  · exact .inl z.2
  · exact .inr (by rw [z])
theorem law_heaps_eq (rows : Tb) (hl : rows.length ≤ 800) (h : ∀ r ∈ rows, (∀ x ∈ r.1, 0 ≤ x ∧ x < 6) ∧ r.1.length < 60 ∧ 0 ≤ r.2) : ∃ hs : Tb, Hof rows hs ∧ hs.length ≤ rows.length ∧ (∀ p ∈ hs, p.1.length ≤ 60) ∧ F_law_heaps [.lst (rows.map rowD)] = some (.val (.lst (hs.map hD)) true) := by
  obtain ⟨ρ', h1, l, s2, s3, s4, s5, g1, g2, g3, h2⟩ := loopF_all (tgt := tgTup [2, 3]) (body := B_law_heaps_2) (l := rows) rowD (fun i ρ => ∃ (l : Tb) (s2 s3 s4 s5 : Sl), Hof (rows.take i) l ∧ l.length ≤ i ∧ (∀ p ∈ l, p.1.length ≤ 60) ∧ ρ = [.sh (.lst (rows.map rowD)), .own (.lst (l.map hD)), s2, s3, s4, s5, .emp]) (i := 0) (ρ := [.sh (.lst (rows.map rowD)), .own (.lst []), .emp, .emp, .emp, .emp, .emp]) ⟨[], _, _, _, _, hof_nil, Nat.le_refl _, (fun p hp => by cases hp), rfl⟩ (by
    rintro k r ρ hk ⟨l, s2, s3, s4, s5, g1, g2, g3, rfl⟩
    have hr := h r (List.mem_of_getElem? hk)
    have hk' := (List.getElem?_eq_some_iff.mp hk).1
    rw [Nat.zero_add] at g1 g2 ⊢
    have ht := lh_turn (.lst (rows.map rowD)) l r s2 s3 s4 s5 (by omega) (fun p hp => by have := g3 p hp; omega) hr.1 hr.2.1 hr.2.2
    refine ⟨_, ht, _, _, _, _, _, ?_, ?_, ?_, rfl⟩
    · rw [List.take_add_one, hk]
      have hnn : ∀ q ∈ rows.take k, 0 ≤ q.2 := fun q hq => (h q (List.mem_of_mem_take hq)).2.2
      split
      · rename_i c; exact hof_put g1 hnn c
      · exact hof_skip g1 (by omega)
    · split
      · have := putL_len (S := uSet r.1) (v := r.2) g1.1
        omega
      · omega
    · intro p hp
      split at hp
      · rcases putL_keys g1.1 hp with z | z
        · exact g3 p z
        · rw [z]
          have := uSet_len r.1
          omega
      · exact g3 p hp)
  rw [Nat.zero_add, List.take_length] at g1
  rw [Nat.zero_add] at g2
  subst h2
  refine ⟨l, g1, g2, g3, ?_⟩
  unfold F_law_heaps b_law_heaps
  simp [h1]
/-- data that are compared place by place -/
def gd : Nat → D → Bool
  | _, .int _ => true
  | _, .bl _ => true
  | _, .non => true
  | n + 1, .tup ds => decide (ds.length ≤ 100000) && ds.all (gd n)
  | n + 1, .lst ds => decide (ds.length ≤ 100000) && ds.all (gd n)
  | _, _ => false
theorem same_loop (ds : List D) (R : FF) (hR : ∀ d ∈ ds, R [d, d] = some (.val (.bl true) false)) (x : D) (hx : ∀ (i : Nat) (d : D), ds[i]? = some d → vIx ⟨x, .av⟩ ⟨.int (i : Int), .av⟩ = some ⟨d, .av⟩) (s2 : Sl) : ∃ z2, loopF (tgName 2) (B_law_same_1 R) ((List.range ds.length).map fun (i : Nat) => D.int (i : Int)) [.sh x, .sh x, s2] = some (.nx [.sh x, .sh x, z2]) := by
  obtain ⟨ρ', h1, z2, h2⟩ := loopF_all (tgt := tgName 2) (body := B_law_same_1 R) (l := List.range ds.length) (fun (i : Nat) => D.int (i : Int)) (fun _ ρ => ∃ s2, ρ = [.sh x, .sh x, s2]) (i := 0) (ρ := [.sh x, .sh x, s2]) ⟨_, rfl⟩ (by
    rintro k a ρ hk ⟨s2, rfl⟩
    obtain ⟨ha, rfl⟩ := List.getElem?_eq_some_iff.mp hk
    simp only [List.length_range] at ha
    simp only [List.getElem_range]
    have e1 := hx k ds[k] (List.getElem?_eq_getElem ha)
    have e2 := hR ds[k] (List.getElem_mem _)
    unfold B_law_same_1
    simp [e1, e2])
  exact ⟨z2, by rw [h1, h2]⟩
theorem same_refl : ∀ (k : Nat) (d : D), gd k d = true → F_law_same (k + 1) [d, d] = some (.val (.bl true) false)
  | k, .int i, _ => by
    unfold F_law_same b_law_same
    simp
  | k, .bl b, _ => by
    unfold F_law_same b_law_same
    simp
  | k, .non, _ => by
    unfold F_law_same b_law_same
    simp
  | k + 1, .tup ds, h => by
    have h' : (decide (ds.length ≤ 100000) && ds.all (gd k)) = true := h
    rw [Bool.and_eq_true, decide_eq_true_eq] at h'
    obtain ⟨z2, hz⟩ := same_loop ds (F_law_same (k + 1)) (fun d hd => same_refl k d (List.all_eq_true.mp h'.2 d hd)) (.tup ds) (fun i d e => by simp [atI_nat e]) .emp
    have hl : ds.length ≤ 1000000 := by omega
    unfold F_law_same b_law_same
    simp [hz, hl]
  | k + 1, .lst ds, h => by
    have h' : (decide (ds.length ≤ 100000) && ds.all (gd k)) = true := h
    rw [Bool.and_eq_true, decide_eq_true_eq] at h'
    obtain ⟨z2, hz⟩ := same_loop ds (F_law_same (k + 1)) (fun d hd => same_refl k d (List.all_eq_true.mp h'.2 d hd)) (.lst ds) (fun i d e => by simp [atI_nat e]) .emp
    have hl : ds.length ≤ 1000000 := by omega
    unfold F_law_same b_law_same
    simp [hz, hl]
  | 0, .tup _, h => by simp [gd] at h
  | 0, .lst _, h => by simp [gd] at h
  | 0, .str _, h => by simp [gd] at h
  | _ + 1, .str _, h => by simp [gd] at h
  | 0, .dT _, h => by simp [gd] at h
  | _ + 1, .dT _, h => by simp [gd] at h
  | 0, .dK _, h => by simp [gd] at h
  | _ + 1, .dK _, h => by simp [gd] at h
  | 0, .obj _, h => by simp [gd] at h
  | 0, .exc _, h => by simp [gd] at h
  | _ + 1, .obj _, h => by simp [gd] at h
  | _ + 1, .exc _, h => by simp [gd] at h
  | 0, .rf _, h => by simp [gd] at h
  | _ + 1, .rf _, h => by simp [gd] at h
  | 0, .bx _ _ _, h => by simp [gd] at h
  | _ + 1, .bx _ _ _, h => by simp [gd] at h
  | 0, .ro _, h => by simp [gd] at h
  | _ + 1, .ro _, h => by simp [gd] at h
theorem gd_int (n : Nat) (i : Int) : gd n (.int i) = true := by cases n <;> rfl
theorem gd_hs (hs : Tb) (hl : hs.length ≤ 1000) (hk : ∀ p ∈ hs, p.1.length ≤ 60) : gd 7 (.lst (hs.map hD)) = true := by
  have h1 : hs.length ≤ 100000 := by omega
  have h2 : ∀ p ∈ hs, gd 6 (hD p) = true := fun p hp => by
    have := hk p hp
    have h3 : p.1.length ≤ 100000 := by omega
    simp [gd, hD, h3, gd_int]
  unfold gd
  rw [Bool.and_eq_true, decide_eq_true_eq, List.length_map]
  refine ⟨h1, List.all_eq_true.mpr fun d hd => ?_⟩
  obtain ⟨p, hp, rfl⟩ := List.mem_map.mp hd
  exact h2 p hp
/-! words, rolls -/
@[simp] theorem ev_find {fo fe : EF} {ρ : En} : eFind fo fe ρ = match fo ρ, fe ρ with
  | some ⟨.str a, _⟩, some ⟨.str b, _⟩ => some ⟨.int (Txt.find a b), .av⟩
  | _, _ => none := (rfl)
@[simp] theorem ev_join {fo fe : EF} {ρ : En} : eJoin fo fe ρ = match fo ρ, fe ρ with
  | some ⟨.str a, _⟩, some ⟨.lst ds, _⟩ => (strsD ds).bind fun ys => if (ys.map (·.length)).sum + ys.length * a.length ≤ 100000 then some ⟨.str (Txt.join a ys), .av⟩ else none
  | _, _ => none := (rfl)
@[simp] theorem ev_split {fo fe : EF} {ρ : En} : eSplit fo fe ρ = match fo ρ, fe ρ with
  | some ⟨.str a, _⟩, some ⟨.str b, _⟩ => if (b.length == 0) = false ∧ a.length ≤ 100000 then some ⟨.lst ((Txt.split a b).map .str), .fr⟩ else none
  | _, _ => none := (rfl)
@[simp] theorem ev_index {fo fe : EF} {ρ : En} : eIndex fo fe ρ = match fo ρ, fe ρ with
  | some ⟨.lst ds, _⟩, some ⟨d, _⟩ => if atom d && ds.all atom then (idxD d ds).map fun (j : Nat) => ⟨.int (j : Int), .av⟩ else none
  | _, _ => none := (rfl)
@[simp] theorem ev_iS {fe : EF} {ρ : En} : iS fe ρ = match fe ρ with
  | some ⟨.str x, _⟩ => if x.length ≤ 100000 then some (x.cps.toList.map fun c => .str ⟨#[c]⟩) else none
  | _ => none := (rfl)
@[simp] theorem vGtS_str {i j : Str} {m n : Md} : vGtS ⟨.str i, m⟩ ⟨.str j, n⟩ = some (ofB (decide (j.cps.toList < i.cps.toList))) := (rfl)
@[simp] theorem vLt_str {i j : Str} {m n : Md} : vLt ⟨.str i, m⟩ ⟨.str j, n⟩ = some (ofB (decide (i.cps.toList < j.cps.toList))) := (rfl)
@[simp] theorem cLen_str {z : Str} {m : Md} : cLen [⟨.str z, m⟩] = if z.length ≤ 100000 then some ⟨.int z.length, .av⟩ else none := (rfl)
def isW (w : Str) : Prop := 1 ≤ w.length ∧ w.length ≤ 12 ∧ ∀ c ∈ w.cps.toList, 97 ≤ c ∧ c ≤ 122
structure Roll (ws : List Str) : Prop where
  l1 : 1 ≤ ws.length
  l6 : ws.length ≤ 6
  w : ∀ x ∈ ws, isW x
  nd : ws.Nodup
theorem lt_one {c d : Nat} : ([c] : List Nat) < [d] ↔ c < d := by
  constructor
  · intro h
    rcases List.cons_lt_cons_iff.mp h with z | z
    · exact z
    · exact absurd z.2 (List.lt_irrefl [])
  · intro h
    exact List.cons_lt_cons_iff.mpr (.inl h)
theorem is_word_eq (w : Str) (h : isW w) : F_is_word [.str w] = some (.val (.bl true) false) := by
  obtain ⟨h1, h2, h3⟩ := h
  have ea : (Str.ofString "a").cps.toList = [97] := by rfl
  have ez : (Str.ofString "z").cps.toList = [122] := by rfl
  obtain ⟨ρ', q1, s1, q2⟩ := loopF_all (tgt := tgName 1) (body := B_is_word_1) (l := w.cps.toList) (fun c => D.str ⟨#[c]⟩) (fun _ ρ => ∃ s1, ρ = [.sh (.str w), s1]) (i := 0) (ρ := [.sh (.str w), .emp]) ⟨_, rfl⟩ (by
    rintro k c ρ hk ⟨s1, rfl⟩
    obtain ⟨c1, c2⟩ := h3 c (List.mem_of_getElem? hk)
    refine ⟨[.sh (.str w), .sh (.str ⟨#[c]⟩)], ?_, _, rfl⟩
    have n1 : ¬ ([c] : List Nat) < [97] := fun z => by have := lt_one.mp z; omega
    have n2 : ¬ ([122] : List Nat) < [c] := fun z => by have := lt_one.mp z; omega
    unfold B_is_word_1
    simp [ea, ez, n1, n2])
  subst q2
  have b1 : ¬ (w.length : Int) < 1 := by omega
  have b2 : ¬ 12 < (w.length : Int) := by omega
  have b3 : w.length ≤ 100000 := by omega
  have b4 : ¬ w.length = 0 := by omega
  have b5 : ¬ 12 < w.length := by omega
  unfold F_is_word b_is_word
  simp [b1, b2, b3, b4, b5, q1]
theorem inD_strs (x : Str) (ws : List Str) : inD (.str x) (ws.map .str) = decide (x ∈ ws) := by
  unfold inD
  rw [List.any_map]
  induction ws with
  | nil => simp
  | cons w r ih =>
    rw [List.any_cons, ih]
    have e : eqA (.str w) (.str x) = (w == x) := rfl
    simp only [Function.comp, e]
    by_cases c : w = x
    · subst c; simp
    · have c' : ¬ x = w := fun z => c z.symm
      simp [c, c']
theorem atom_strs (ws : List Str) : (ws.map D.str).all atom = true := by
  rw [List.all_map]
  exact List.all_eq_true.mpr fun _ _ => rfl
theorem take_no {ws : List Str} (nd : ws.Nodup) {k : Nat} {w : Str} (h : ws[k]? = some w) : w ∉ ws.take k := fun m => by
  obtain ⟨j, hj⟩ := List.mem_iff_getElem?.mp m
  have lt : j < k := by
    have := (List.getElem?_eq_some_iff.mp hj).1
    rw [List.length_take] at this
    omega
  rw [List.getElem?_take_of_lt lt] at hj
  obtain ⟨a1, a2⟩ := List.getElem?_eq_some_iff.mp hj
  obtain ⟨b1, b2⟩ := List.getElem?_eq_some_iff.mp h
  exact List.pairwise_iff_getElem.mp nd j k a1 b1 lt (by rw [a2, b2])
theorem cutG_to {α : Type} (l : List α) (k : Nat) : cutG l none (some (k : Int)) = l.take k := by
  have c : ¬ (k : Int) < 0 := by omega
  unfold cutG HT.sIx
  simp only [c, if_false]
  rw [List.drop_zero]
  by_cases h : k ≤ l.length
  · rw [Nat.min_eq_left (by omega)]; simp
  · rw [Nat.min_eq_right (by omega), Nat.sub_zero, List.take_of_length_le (Nat.le_refl _), List.take_of_length_le (by omega)]
theorem roll_of_eq (ws : List Str) (h : Roll ws) : F_roll_of [.lst (ws.map .str)] = some (.val (.lst (ws.map .str)) true) := by
  have l1 := h.l1
  have l6 := h.l6
  obtain ⟨ρ', q1, s1, q2⟩ := loopF_all (tgt := tgName 1) (body := B_roll_of_1) (l := List.range ws.length) (fun (k : Nat) => D.int (k : Int)) (fun _ ρ => ∃ s1, ρ = [.sh (.lst (ws.map .str)), s1]) (i := 0) (ρ := [.sh (.lst (ws.map .str)), .emp]) ⟨_, rfl⟩ (by
    rintro k a ρ hk ⟨s1, rfl⟩
    obtain ⟨ha, rfl⟩ := List.getElem?_eq_some_iff.mp hk
    simp only [List.length_range] at ha
    simp only [List.getElem_range]
    refine ⟨[.sh (.lst (ws.map .str)), .sh (.int (k : Int))], ?_, _, rfl⟩
    have hw : ws[k]? = some ws[k] := List.getElem?_eq_getElem ha
    have e1 : atI (ws.map D.str) (k : Int) = some (.str ws[k]) := atI_nat (by rw [List.getElem?_map, hw]; rfl)
    have e2 := is_word_eq ws[k] (h.w _ (List.getElem_mem ha))
    have e3 : inD (.str ws[k]) ((ws.take k).map .str) = false := by
      rw [inD_strs]
      exact decide_eq_false (take_no h.nd hw)
    have e4 : cutG (ws.map D.str) none (some (k : Int)) = (ws.take k).map .str := by rw [cutG_to, List.map_take]
    have e5 := atom_strs (ws.take k)
    have e6 : atom (.str ws[k]) = true := rfl
    unfold B_roll_of_1
    simp only [List.map_take] at e3 e4 e5
    simp [-List.map_take, -List.all_map, -List.all_eq_true, e1, e2, e3, e4, e5, e6, vInG])
  subst q2
  have b1 : ¬ (ws.length : Int) < 1 := by omega
  have b2 : ¬ 6 < (ws.length : Int) := by omega
  have b3 : ws.length ≤ 1000000 := by omega
  have b4 : ¬ ws.length = 0 := by omega
  have b5 : ¬ 6 < ws.length := by omega
  have b6 : ws.length ≤ 100000 := by omega
  have b7 : ¬ ws = [] := fun z => b4 (by rw [z]; rfl)
  unfold F_roll_of b_roll_of
  simp [b1, b2, b3, b4, b5, b6, b7, q1]
/-! ballots' texts -/
theorem eqD_str (x y : Str) : eqD (.str x) (.str y) = decide (x = y) := by
  show PyData.eqv (.str x) (.str y) = _
  simp only [PyData.eqv]
  by_cases h : x = y <;> simp [h]
theorem fit_str (n : Nat) (x : Str) : fit n (.str x) = PyData.strOk x := by cases n <;> simp [fit]
theorem joinL_all {P : Nat → Prop} {S : List Nat} (hS : ∀ c ∈ S, P c) : ∀ {ps : List (List Nat)}, (∀ p ∈ ps, ∀ c ∈ p, P c) → ∀ c ∈ TL.joinL S ps, P c
  | [], _, c, h => by cases h
  | [p], hp, c, h => hp p List.mem_cons_self c h
  | p :: q :: r, hp, c, h => by
    have h' : c ∈ p ++ (S ++ TL.joinL S (q :: r)) := h
    rcases List.mem_append.mp h' with z | z
    · exact hp p List.mem_cons_self c z
    · rcases List.mem_append.mp z with y | y
      · exact hS c y
      · exact joinL_all hS (ps := q :: r) (fun p hm => hp p (List.mem_cons_of_mem _ hm)) c y
theorem joinL_len {S : List Nat} {n : Nat} : ∀ {ps : List (List Nat)}, (∀ p ∈ ps, p.length ≤ n) → (TL.joinL S ps).length ≤ ps.length * (n + S.length)
  | [], _ => Nat.zero_le _
  | [p], hp => by
    have := hp p List.mem_cons_self
    show p.length ≤ 1 * _
    omega
  | p :: q :: r, hp => by
    have h1 := hp p List.mem_cons_self
    have h2 := joinL_len (S := S) (ps := q :: r) fun p hm => hp p (List.mem_cons_of_mem _ hm)
    show (p ++ (S ++ TL.joinL S (q :: r))).length ≤ _
    rw [List.length_append, List.length_append]
    have e : (p :: q :: r).length * (n + S.length) = (q :: r).length * (n + S.length) + (n + S.length) := by rw [List.length_cons (a := p), Nat.succ_mul]
    omega
theorem joinL_one {S : List Nat} : ∀ {ps : List (List Nat)}, ps ≠ [] → (∀ p ∈ ps, 1 ≤ p.length) → 1 ≤ (TL.joinL S ps).length
  | [], h, _ => absurd rfl h
  | [p], _, hp => hp p List.mem_cons_self
  | p :: q :: r, _, hp => by
    have h1 := hp p List.mem_cons_self
    show 1 ≤ (p ++ (S ++ TL.joinL S (q :: r))).length
    rw [List.length_append]
    omega
def spc : Str := Str.ofString " "
theorem spc_tl : TL.tl spc = [32] := by rfl
/-- the text of some words -/
def txt (ws : List Str) : Str := Txt.join spc ws
theorem tl_txt (ws : List Str) : TL.tl (txt ws) = TL.joinL [32] (ws.map TL.tl) := by
  unfold txt
  rw [TL.join_eq, TL.tl_join, spc_tl]
theorem txt_len {ws : List Str} (h : ∀ w ∈ ws, isW w) (h50 : ws.length ≤ 50) : (txt ws).length ≤ 650 := by
  rw [TL.len_tl, tl_txt]
  have := joinL_len (S := [32]) (n := 12) (ps := ws.map TL.tl) fun p hp => by
    obtain ⟨w, hw, rfl⟩ := List.mem_map.mp hp
    have := (h w hw).2.1
    rw [TL.len_tl] at this
    exact this
  rw [List.length_map] at this
  simp at this ⊢
  omega
theorem txt_ok {ws : List Str} (h : ∀ w ∈ ws, isW w) : PyData.strOk (txt ws) = true := by
  unfold PyData.strOk
  rw [← Array.all_toList]
  refine List.all_eq_true.mpr fun c hc => ?_
  have hc' : c ∈ TL.tl (txt ws) := hc
  rw [tl_txt] at hc'
  have := joinL_all (P := fun c => c < 1114112) (S := [32]) (fun c hc => by rw [List.mem_singleton.mp hc]; decide) (ps := ws.map TL.tl) (fun p hp c hc => by
    obtain ⟨w, hw, rfl⟩ := List.mem_map.mp hp
    have := (h w hw).2.2 c hc
    omega) c hc'
  exact decide_eq_true this
theorem txt_split {ws : List Str} (h : ∀ w ∈ ws, isW w) (hne : ws ≠ []) : Txt.split (txt ws) spc = ws := by
  unfold txt
  refine TL.split_join (y := spc) (s := 32) (S := []) spc_tl (by decide +kernel) hne fun p hp hm => ?_
  have := (h p hp).2.2 32 hm
  omega
theorem txt_nil : txt [] = Str.ofString "" := by rfl
theorem txt_ne {ws : List Str} (h : ∀ w ∈ ws, isW w) (hne : ws ≠ []) : txt ws ≠ Str.ofString "" := fun e => by
  have h1 := joinL_one (S := [32]) (ps := ws.map TL.tl) (by simpa using hne) fun p hp => by
    obtain ⟨w, hw, rfl⟩ := List.mem_map.mp hp
    have := (h w hw).1
    rw [TL.len_tl] at this
    exact this
  rw [← tl_txt, e] at h1
  have e0 : TL.tl (Str.ofString "") = [] := by rfl
  rw [e0] at h1
  exact absurd h1 (by decide)
theorem idxD_strs (x : Str) : ∀ {ws : List Str}, x ∈ ws → idxD (.str x) (ws.map .str) = some (ws.idxOf x)
  | [], h => by cases h
  | w :: r, h => by
    rw [List.map_cons]
    unfold idxD
    have e : eqA (.str w) (.str x) = (w == x) := rfl
    rw [e, List.idxOf_cons]
    by_cases c : w = x
    · subst c
      simp
    · have hr : x ∈ r := by
        rcases List.mem_cons.mp h with z | z
        · exact absurd z.symm c
        · exact z
      have c' : (w == x) = false := by simpa using c
      rw [c', idxD_strs x hr]
      rfl
/-- the places of some words -/
def idxs (roll ws : List Str) : List Int := ws.map fun w => (roll.idxOf w : Int)
def likeI (roll ws : List Str) : List Int := uSet (idxs roll ws)
theorem places_eq [γ : GSt] (c k : Addr) (roll : List Str) (hr : Roll roll) (ws : List Str) (hw : ∀ w ∈ ws, w ∈ roll) (hl : ws.length ≤ 50) : F_Box_places_named c [.bx c roll k, .str (txt ws)] = some (.val (tD (likeI roll ws)) false) := by
  have hW : ∀ w ∈ ws, isW w := fun w hm => hr.w w (hw w hm)
  have ok1 := txt_ok hW
  have ok2 : PyData.strOk (Str.ofString "") = true := by decide +kernel
  by_cases hne : ws = []
  · subst hne
    have e0 : (txt [] : Str) = Str.ofString "" := txt_nil
    unfold F_Box_places_named b_Box_places_named
    simp [e0, vEq, fit_str, ok2, eqD_str, likeI, idxs, uSet, tD]
  · obtain ⟨ρ', q1, s3, q2⟩ := loopF_all (tgt := tgName 3) (body := B_Box_places_named_1 c) (l := ws) D.str (fun i ρ => ∃ s3, ρ = [.sh (.bx c roll k), .sh (.str (txt ws)), .own (.lst ((idxs roll (ws.take i)).map .int)), s3]) (i := 0) (ρ := [.sh (.bx c roll k), .sh (.str (txt ws)), .own (.lst []), .emp]) ⟨_, rfl⟩ (by
      rintro j w ρ hj ⟨s3, rfl⟩
      have hm := hw w (List.mem_of_getElem? hj)
      have hj' := (List.getElem?_eq_some_iff.mp hj).1
      have e1 : inD (.str w) (roll.map .str) = true := by rw [inD_strs]; exact decide_eq_true hm
      have e2 := idxD_strs w hm
      have e3 := atom_strs roll
      have e4 : atom (.str w) = true := rfl
      have e5 : (idxs roll (ws.take (0 + j))).length < 100000 := by
        unfold idxs
        rw [List.length_map, List.length_take]
        omega
      have e6 : idxs roll (ws.take (0 + j + 1)) = idxs roll (ws.take (0 + j)) ++ [(roll.idxOf w : Int)] := by
        unfold idxs
        rw [Nat.zero_add, List.take_add_one, hj, List.map_append]
        rfl
      refine ⟨[.sh (.bx c roll k), .sh (.str (txt ws)), .own (.lst ((idxs roll (ws.take (0 + j + 1))).map .int)), .sh (.str w)], ?_, _, rfl⟩
      unfold B_Box_places_named_1
      rw [e6]
      generalize idxs roll (ws.take (0 + j)) = acc at e5
      simp [-List.all_map, -List.all_eq_true, eFldR, vInG, e1, e2, e3, e4, e5])
    rw [Nat.zero_add, List.take_length] at q2
    subst q2
    have e1 : ¬ txt ws = Str.ofString "" := txt_ne hW hne
    have e2 : (txt ws).length ≤ 100000 := by have := txt_len hW hl; omega
    have e3 := txt_split hW hne
    have e4 : ((Str.ofString " ").length == 0) = false := by rfl
    have e5 : Txt.split (txt ws) (Str.ofString " ") = ws := e3
    have e6 : (idxs roll ws).length < 60 := by unfold idxs; rw [List.length_map]; omega
    have e7 : (uSet (idxs roll ws)).length ≤ 100000 := by have := uSet_len (idxs roll ws); omega
    have e8 : ¬ (Str.ofString " ").length = 0 := by decide
    unfold F_Box_places_named b_Box_places_named likeI
    simp [vEq, fit_str, ok1, ok2, eqD_str, e1, e2, e4, e5, e6, e7, e8, q1, tD]
/-! the law's texts: sets of places, numbers of a cell, words -/
def pickW (roll ws : List Str) (k : Nat) : Bool := match roll[k]? with
  | some w => decide (w ∈ ws)
  | none => false
theorem likeI_eq (roll ws : List Str) (nd : roll.Nodup) (hw : ∀ w ∈ ws, w ∈ roll) : (((List.range roll.length).filter (pickW roll ws)).map fun (k : Nat) => (k : Int)) = likeI roll ws := by
  refine lt_uniq ?_ (uSet_lt _) fun x => ?_
  · rw [List.pairwise_map]
    exact (List.pairwise_lt_range.filter _).imp fun {a b} z => by omega
  · unfold likeI
    rw [uSet_mem, List.mem_map]
    unfold idxs
    rw [List.mem_map]
    constructor
    · rintro ⟨k, hk, rfl⟩
      obtain ⟨h1, h2⟩ := List.mem_filter.mp hk
      have h3 := List.mem_range.mp h1
      unfold pickW at h2
      rw [List.getElem?_eq_getElem h3] at h2
      refine ⟨roll[k], of_decide_eq_true h2, ?_⟩
      rw [nd.idxOf_getElem k h3]
    · rintro ⟨w, hm, rfl⟩
      have h1 := List.idxOf_lt_length_iff.mpr (hw w hm)
      refine ⟨roll.idxOf w, List.mem_filter.mpr ⟨List.mem_range.mpr h1, ?_⟩, rfl⟩
      unfold pickW
      rw [List.getElem?_eq_getElem h1, List.getElem_idxOf h1]
      exact decide_eq_true hm
theorem like_law (roll : List Str) (hr : Roll roll) (ws : List Str) (hw : ∀ w ∈ ws, w ∈ roll) (hl : ws.length ≤ 50) : F_law_like [.lst (roll.map .str), .lst (ws.map .str)] = some (.val (tD (likeI roll ws)) false) := by
  have h6 := hr.l6
  have hc := compF_map (tgt := tgName 2) (ft := toB (eOp (vInG false) (eOp vIx (eVar 0) (eVar 2)) (eVar 1))) (fe := eVar 2) (ρ := [.sh (.lst (roll.map .str)), .sh (.lst (ws.map .str)), .emp]) (l := List.range roll.length) (fun (k : Nat) => D.int (k : Int)) (pickW roll ws) (fun k => D.int (k : Int)) fun k hk => ⟨[.sh (.lst (roll.map .str)), .sh (.lst (ws.map .str)), .sh (.int (k : Int))], by simp, by
      have h3 := List.mem_range.mp hk
      have hx : roll[k]? = some roll[k] := List.getElem?_eq_getElem h3
      have e1 : atI (roll.map D.str) (k : Int) = some (.str roll[k]) := atI_nat (by rw [List.getElem?_map, hx]; rfl)
      have e2 := inD_strs roll[k] ws
      have e3 := atom_strs ws
      have e4 : atom (.str roll[k]) = true := rfl
      unfold pickW
      rw [hx]
      simp [-List.all_map, -List.all_eq_true, vInG, e1, e2, e3, e4], fun _ => ⟨.av, by simp, rfl⟩⟩
  have e5 : (((List.range roll.length).filter (pickW roll ws)).map fun (k : Nat) => D.int (k : Int)) = (likeI roll ws).map D.int := by
    rw [← likeI_eq roll ws hr.nd hw, List.map_map]
    rfl
  rw [e5] at hc
  have l1 : roll.length ≤ 1000000 := by omega
  have l2 : roll.length ≤ 100000 := by omega
  have l3 : (likeI roll ws).length ≤ 100000 := by
    have := uSet_len (idxs roll ws)
    have e : (idxs roll ws).length = ws.length := by unfold idxs; rw [List.length_map]
    unfold likeI
    omega
  unfold F_law_like b_law_like
  simp [l1, l2, l3, hc, tD]
theorem likeI_mem {roll ws : List Str} (hw : ∀ w ∈ ws, w ∈ roll) : ∀ x ∈ likeI roll ws, 0 ≤ x ∧ x < roll.length := fun x hx => by
  unfold likeI idxs at hx
  rw [uSet_mem, List.mem_map] at hx
  obtain ⟨w, hm, rfl⟩ := hx
  have := List.idxOf_lt_length_iff.mpr (hw w hm)
  omega
theorem likeI_len {roll ws : List Str} : (likeI roll ws).length ≤ ws.length := by
  have := uSet_len (idxs roll ws)
  have e : (idxs roll ws).length = ws.length := by unfold idxs; rw [List.length_map]
  unfold likeI
  omega
theorem likeI_ris {roll ws : List Str} : (likeI roll ws).Pairwise (· < ·) := uSet_lt _
/-- twelve numbers from a cell -/
theorem mixed_eq (c : Int) : ∃ xs : List Int, xs.length = 12 ∧ (∀ x ∈ xs, 0 ≤ x) ∧ F_law_mixed [.int c, .int 12] = some (.val (.lst (xs.map .int)) true) := by
  by_cases c2 : c % 2 = 1
  · obtain ⟨ρ', h1, xs, m, s4, q1, q2, h2⟩ := loopF_all (tgt := tgName 4) (body := B_law_mixed_1) (l := List.range 12) (fun (k : Nat) => D.int (k : Int)) (fun i ρ => ∃ (xs : List Int) (m : Int) (s4 : Sl), xs.length = i ∧ (∀ x ∈ xs, 0 ≤ x) ∧ ρ = [.sh (.int c), .sh (.int 12), .own (.lst (xs.map .int)), .sh (.int m), s4]) (i := 0) (ρ := [.sh (.int c), .sh (.int 12), .own (.lst []), .sh (.int (c / 2)), .emp]) ⟨[], _, _, rfl, (fun x hx => by cases hx), rfl⟩ (by
      rintro k a ρ hk ⟨xs, m, s4, q1, q2, rfl⟩
      obtain ⟨ha, rfl⟩ := List.getElem?_eq_some_iff.mp hk
      simp only [List.length_range] at ha
      simp only [List.getElem_range]
      have hl : xs.length < 100000 := by omega
      refine ⟨[.sh (.int c), .sh (.int 12), .own (.lst ((xs ++ [m % 5040]).map .int)), .sh (.int (m / 5040)), .sh (.int (k : Int))], ?_, _, _, _, by rw [List.length_append, q1]; rfl, fun x hx => ?_, rfl⟩
      · unfold B_law_mixed_1
        simp [hl]
      · rcases List.mem_append.mp hx with z | z
        · exact q2 x z
        · rw [List.mem_singleton.mp z]; exact Int.emod_nonneg _ (by decide))
    rw [Nat.zero_add, List.length_range] at q1
    subst h2
    refine ⟨xs, q1, q2, ?_⟩
    unfold F_law_mixed b_law_mixed
    simp [c2, h1]
  · obtain ⟨ρ', h1, xs, m, s4, q1, q2, h2⟩ := loopF_all (tgt := tgName 4) (body := B_law_mixed_2) (l := List.range 12) (fun (k : Nat) => D.int (k : Int)) (fun i ρ => ∃ (xs : List Int) (m : Int) (s4 : Sl), xs.length = i ∧ (∀ x ∈ xs, 0 ≤ x) ∧ (0 ≤ m ∧ m < 2147483647) ∧ ρ = [.sh (.int c), .sh (.int 12), .own (.lst (xs.map .int)), .sh (.int m), s4]) (i := 0) (ρ := [.sh (.int c), .sh (.int 12), .own (.lst []), .sh (.int ((c / 2 % 2147483647 * 16807 + 11) % 2147483647)), .emp]) ⟨[], _, _, rfl, (fun x hx => by cases hx), by omega, rfl⟩ (by
      rintro k a ρ hk ⟨xs, m, s4, q1, q2, q3, rfl⟩
      obtain ⟨ha, rfl⟩ := List.getElem?_eq_some_iff.mp hk
      simp only [List.length_range] at ha
      simp only [List.getElem_range]
      have hl : xs.length < 100000 := by omega
      have sm : Sm m := smI (by omega) (by omega)
      have sk : Sm 48271 := smI (by omega) (by omega)
      have z0 : 0 ≤ (m * m + 48271 * m + (k : Int) + 1) % 2147483647 := Int.emod_nonneg _ (by decide)
      have z1 : (m * m + 48271 * m + (k : Int) + 1) % 2147483647 < 2147483647 := Int.emod_lt_of_pos _ (by decide)
      refine ⟨[.sh (.int c), .sh (.int 12), .own (.lst ((xs ++ [(m * m + 48271 * m + (k : Int) + 1) % 2147483647]).map .int)), .sh (.int ((m * m + 48271 * m + (k : Int) + 1) % 2147483647)), .sh (.int (k : Int))], ?_, _, _, _, by rw [List.length_append, q1]; rfl, fun x hx => ?_, ⟨z0, z1⟩, rfl⟩
      · unfold B_law_mixed_2
        simp [hl, sm, sk]
      · rcases List.mem_append.mp hx with z | z
        · exact q2 x z
        · rw [List.mem_singleton.mp z]; exact z0)
    rw [Nat.zero_add, List.length_range] at q1
    obtain ⟨_, h2⟩ := h2
    subst h2
    refine ⟨xs, q1, q2, ?_⟩
    have sm : Sm (c / 2 % 2147483647) := smI (by omega) (by omega)
    have sk : Sm 16807 := smI (by omega) (by omega)
    unfold F_law_mixed b_law_mixed
    simp [c2, h1, sm, sk]
/-! the words of the roll -/
@[simp] theorem vIx_str {z : Str} {i : Int} {m n : Md} : vIx ⟨.str z, m⟩ ⟨.int i, n⟩ = if z.length ≤ 100000 then (atI z.cps.toList i).map fun c => ⟨.str ⟨#[c]⟩, .av⟩ else none := (rfl)
@[simp] theorem vAdd_str {i j : Str} {m n : Md} : vAdd ⟨.str i, m⟩ ⟨.str j, n⟩ = if i.length + j.length ≤ 100000 then some ⟨.str (i ++ j), .av⟩ else none := (rfl)
@[simp] theorem slF_str {z : Str} {m : Md} {lo hi : Option Int} : slF ⟨.str z, m⟩ lo hi = if z.length ≤ 100000 then some ⟨.str (cutS z lo hi), .av⟩ else none := (rfl)
def abc : Str := Str.ofString "abcdefghijklmnopqrstuvwxyz"
theorem abc_at (i : Nat) (h : i < 26) : abc.cps.toList[i]? = some (97 + i) := by
  have : ∀ i : Fin 26, abc.cps.toList[i.val]? = some (97 + i.val) := by decide +kernel
  exact this ⟨i, h⟩
theorem abc_find (i : Nat) (h : i < 26) : Txt.find abc ⟨#[97 + i]⟩ = (i : Int) := by
  have : ∀ i : Fin 26, Txt.find abc ⟨#[97 + i.val]⟩ = (i.val : Int) := by decide +kernel
  exact this ⟨i, h⟩
/-- letters -/
def Let (l : List Nat) : Prop := ∀ c ∈ l, 97 ≤ c ∧ c ≤ 122
def sW (l : List Nat) : Str := ⟨l.toArray⟩
@[simp] theorem sW_list (l : List Nat) : (sW l).cps.toList = l := by simp [sW]
@[simp] theorem sW_len (l : List Nat) : (sW l).length = l.length := by rw [TL.len_tl]; simp
theorem sW_app (a b : List Nat) : sW a ++ sW b = sW (a ++ b) := TL.ext_tl (by rw [TL.tl_append]; simp [TL.tl])
theorem sW_inj {a b : List Nat} (h : sW a = sW b) : a = b := by
  have := congrArg (fun s : Str => s.cps.toList) h
  simpa using this
theorem abc_len : abc.length = 26 := by decide +kernel
theorem base_eq (c : Int) : ∃ b : List Nat, b.length = 12 ∧ Let b ∧ F_law_base [.int c, .int 12] = some (.val (.str (sW b)) false) := by
  have abcAt : ∀ i : Int, 0 ≤ i → i < 26 → atI abc.cps.toList i = some (97 + i.toNat) := fun i h0 h1 => by
    have := atI_nat (xs := abc.cps.toList) (abc_at i.toNat (by omega))
    rw [show ((i.toNat : Nat) : Int) = i by omega] at this
    exact this
  have hz : abc.length ≤ 100000 := by rw [abc_len]; decide
  have e0 : Str.ofString "abcdefghijklmnopqrstuvwxyz" = abc := rfl
  have ee : Str.ofString "" = sW [] := by rfl
  obtain ⟨ρ', h1, b, m, s4, q1, q2, q3, h2⟩ := loopF_all (tgt := tgName 4) (body := B_law_base_1) (l := List.range 12) (fun (k : Nat) => D.int (k : Int)) (fun i ρ => ∃ (b : List Nat) (m : Int) (s4 : Sl), b.length = i ∧ Let b ∧ (c % 2 = 0 → 0 ≤ m ∧ m < 2147483647) ∧ ρ = [.sh (.int c), .sh (.int 12), .sh (.str (sW b)), .sh (.int m), s4]) (i := 0) (ρ := [.sh (.int c), .sh (.int 12), .sh (.str (sW [])), .sh (.int (if c % 2 = 0 then (c / 2 % 2147483647 * 16807 + 11) % 2147483647 else c / 2)), .emp]) ⟨[], _, _, rfl, (fun x hx => by cases hx), fun hc => by rw [if_pos hc]; omega, rfl⟩ (by
    rintro k a ρ hk ⟨b, m, s4, q1, q2, q3, rfl⟩
    obtain ⟨ha, rfl⟩ := List.getElem?_eq_some_iff.mp hk
    simp only [List.length_range] at ha
    simp only [List.getElem_range]
    by_cases c2 : c % 2 = 0
    · obtain ⟨m0, m1⟩ := q3 c2
      have sm : Sm m := smI (by omega) (by omega)
      have sk : Sm 48271 := smI (by omega) (by omega)
      have c1 : ¬ c % 2 = 1 := by omega
      have z0 : 0 ≤ (m * m + 48271 * m + (k : Int) + 1) % 2147483647 := Int.emod_nonneg _ (by decide)
      have z1 : (m * m + 48271 * m + (k : Int) + 1) % 2147483647 < 2147483647 := Int.emod_lt_of_pos _ (by decide)
      generalize hm : (m * m + 48271 * m + (k : Int) + 1) % 2147483647 = m' at z0 z1
      have y0 : 0 ≤ m' % 26 := Int.emod_nonneg _ (by decide)
      have y1 : m' % 26 < 26 := Int.emod_lt_of_pos _ (by decide)
      have ea := abcAt _ y0 y1
      have el : b.length + 1 ≤ 100000 := by omega
      have es : ((sW b) ++ (⟨#[97 + (m' % 26).toNat]⟩ : Str)) = sW (b ++ [97 + (m' % 26).toNat]) := sW_app b [97 + (m' % 26).toNat]
      have e1 : (⟨#[97 + (m' % 26).toNat]⟩ : Str).length = 1 := rfl
      refine ⟨[.sh (.int c), .sh (.int 12), .sh (.str (sW (b ++ [97 + (m' % 26).toNat]))), .sh (.int m'), .sh (.int (k : Int))], ?_, _, _, _, by rw [List.length_append, q1]; rfl, fun x hx => ?_, fun _ => ⟨z0, z1⟩, rfl⟩
      · unfold B_law_base_1
        rw [e0]
        simp [c2, c1, sm, sk, hm, ea, hz, el, es, e1]
      · rcases List.mem_append.mp hx with z | z
        · exact q2 x z
        · rw [List.mem_singleton.mp z]; omega
    · have c1 : c % 2 = 1 := by omega
      have y0 : 0 ≤ m % 26 := Int.emod_nonneg _ (by decide)
      have y1 : m % 26 < 26 := Int.emod_lt_of_pos _ (by decide)
      have ea := abcAt _ y0 y1
      have el : b.length + 1 ≤ 100000 := by omega
      have es : ((sW b) ++ (⟨#[97 + (m % 26).toNat]⟩ : Str)) = sW (b ++ [97 + (m % 26).toNat]) := sW_app b [97 + (m % 26).toNat]
      have e1 : (⟨#[97 + (m % 26).toNat]⟩ : Str).length = 1 := rfl
      refine ⟨[.sh (.int c), .sh (.int 12), .sh (.str (sW (b ++ [97 + (m % 26).toNat]))), .sh (.int (m / 26)), .sh (.int (k : Int))], ?_, _, _, _, by rw [List.length_append, q1]; rfl, fun x hx => ?_, fun z => absurd z c2, rfl⟩
      · unfold B_law_base_1
        rw [e0]
        simp [c2, c1, ea, hz, el, es, e1]
      · rcases List.mem_append.mp hx with z | z
        · exact q2 x z
        · rw [List.mem_singleton.mp z]; omega)
  rw [Nat.zero_add, List.length_range] at q1
  subst h2
  refine ⟨b, q1, q2, ?_⟩
  unfold F_law_base b_law_base
  by_cases c2 : c % 2 = 0
  · have sm : Sm (c / 2 % 2147483647) := smI (by omega) (by omega)
    have sk : Sm 16807 := smI (by omega) (by omega)
    rw [if_pos c2] at h1
    simp [c2, ee, h1, sm, sk]
  · rw [if_neg c2] at h1
    simp [c2, ee, h1]
theorem cutS_to (b : List Nat) (k : Nat) : cutS (sW b) none (some (k : Int)) = sW (b.take k) := by
  have c : ¬ (k : Int) < 0 := by omega
  unfold cutS HT.sIx
  simp only [c, if_false, sW_list, sW_len]
  rw [List.drop_zero]
  by_cases h : k ≤ b.length
  · rw [show ((k : Int).toNat) = k by omega, Nat.min_eq_left h]; rfl
  · rw [show ((k : Int).toNat) = k by omega, Nat.min_eq_right (by omega), Nat.sub_zero, List.take_of_length_le (Nat.le_refl _), List.take_of_length_le (by omega)]; rfl
theorem cutS_ft (b : List Nat) (i k : Nat) (hi : i ≤ b.length) (hk : k ≤ b.length) : cutS (sW b) (some (i : Int)) (some (k : Int)) = sW ((b.drop i).take (k - i)) := by
  have c : ¬ (k : Int) < 0 := by omega
  have c' : ¬ (i : Int) < 0 := by omega
  unfold cutS HT.sIx
  simp only [c, c', if_false, sW_list, sW_len]
  rw [show ((k : Int).toNat) = k by omega, show ((i : Int).toNat) = i by omega, Nat.min_eq_left hi, Nat.min_eq_left hk]
  rfl
/-- the k-th word that differs at place p -/
def wd (b : List Nat) (i p s k : Nat) : List Nat := (b.take p ++ [97 + (i + 3 * k) % 26]) ++ (b.drop (p + 1)).take (s - (p + 1))
theorem wd_at (b : List Nat) (i p s k : Nat) (h : p < b.length) : (wd b i p s k)[p]? = some (97 + (i + 3 * k) % 26) := by
  have l1 : (b.take p).length = p := by rw [List.length_take]; omega
  unfold wd
  rw [List.getElem?_append_left (by rw [List.length_append, l1]; simp), List.getElem?_append_right (by omega), l1, Nat.sub_self]
  rfl
theorem word_eq (b : List Nat) (hb : b.length = 12) (p s k i : Nat) (hp : p < s) (hs : s ≤ 12) (hk : k < 6) (hi : i < 26) (hbi : b[p]? = some (97 + i)) : F_law_word [.str (sW b), .int (p : Int), .int (s : Int), .int (k : Int)] = some (.val (.str (sW (wd b i p s k))) false) := by
  have e0 : Str.ofString "abcdefghijklmnopqrstuvwxyz" = abc := rfl
  have hz : abc.length ≤ 100000 := by rw [abc_len]; decide
  have hz2 : (sW b).length ≤ 100000 := by rw [sW_len]; omega
  have e1 : atI (sW b).cps.toList (p : Int) = some (97 + i) := atI_nat (by rw [sW_list]; exact hbi)
  have e2 := abc_find i hi
  have e3 : atI abc.cps.toList (((i : Int) + 3 * (k : Int)) % 26) = some (97 + (i + 3 * k) % 26) := by
    have := atI_nat (xs := abc.cps.toList) (abc_at ((i + 3 * k) % 26) (Nat.mod_lt _ (by decide)))
    rw [← this]
    congr 1
  have e4 := cutS_to b p
  have e5 := cutS_ft b (p + 1) s (by omega) (by omega)
  have e6 : ((p + 1 : Nat) : Int) = (p : Int) + 1 := by omega
  rw [e6] at e5
  have e7 : (⟨#[97 + (i + 3 * k) % 26]⟩ : Str) = sW [97 + (i + 3 * k) % 26] := rfl
  have l1 : (b.take p).length = p := by rw [List.length_take]; omega
  have l2 : ((b.drop (p + 1)).take (s - (p + 1))).length = s - (p + 1) := by rw [List.length_take, List.length_drop]; omega
  have e8 : sW (b.take p) ++ sW [97 + (i + 3 * k) % 26] = sW (b.take p ++ [97 + (i + 3 * k) % 26]) := sW_app _ _
  have e9 : sW (b.take p ++ [97 + (i + 3 * k) % 26]) ++ sW ((b.drop (p + 1)).take (s - (p + 1))) = sW (wd b i p s k) := sW_app _ _
  have m1 : (sW (b.take p)).length + (sW [97 + (i + 3 * k) % 26]).length ≤ 100000 := by rw [sW_len, sW_len, l1]; simp; omega
  have m2 : (sW (b.take p ++ [97 + (i + 3 * k) % 26])).length + (sW ((b.drop (p + 1)).take (s - (p + 1)))).length ≤ 100000 := by rw [sW_len, sW_len, l2, List.length_append, l1]; simp; omega
  have sk : Sm (k : Int) := smI (by omega) (by omega)
  have s3 : Sm 3 := smI (by omega) (by omega)
  generalize sW ((b.drop (p + 1)).take (s - (p + 1))) = y at e5 e9 m2
  generalize sW (b.take p ++ [97 + (i + 3 * k) % 26]) = z at e8 e9 m2
  generalize sW (b.take p) = x at e4 e8 m1
  generalize sW (wd b i p s k) = q at e9
  generalize sW [97 + (i + 3 * k) % 26] = v at e7 e8 m1
  unfold F_law_word b_law_word
  rw [e0]
  simp [e1, e2, e3, e4, e5, e7, e8, e9, m1, m2, hz, hz2, sk, s3, -sW_list, -sW_len]
theorem words_eq (ns : List Int) (many : Nat) (h1 : 1 ≤ many) (h6 : many ≤ 6) : ∃ roll : List Str, Roll roll ∧ roll.length = many ∧ F_law_words [.ro ns, .int 1, .int (many : Int)] = some (.val (.lst (roll.map .str)) true) := by
  obtain ⟨c, ec⟩ := cell_at_eq ns 1
  obtain ⟨c2, ec2⟩ := cell_at_eq ns 2
  obtain ⟨b, hb, hl, eb⟩ := base_eq c2
  obtain ⟨s, es⟩ : ∃ s : Nat, 1 + c % 12 = (s : Int) := ⟨(1 + c % 12).toNat, by omega⟩
  have s1 : 1 ≤ s := by omega
  have s12 : s ≤ 12 := by omega
  obtain ⟨p, ep⟩ : ∃ p : Nat, c / 48 % (s : Int) = (p : Int) := ⟨(c / 48 % (s : Int)).toNat, by have := Int.emod_nonneg (c / 48) (b := (s : Int)) (by omega); omega⟩
  have ps : p < s := by have := Int.emod_lt_of_pos (c / 48) (b := (s : Int)) (by omega); omega
  have hpl : p < b.length := by omega
  obtain ⟨i, hi, hbi⟩ : ∃ i, i < 26 ∧ b[p]? = some (97 + i) := by
    have := hl b[p] (List.getElem_mem hpl)
    exact ⟨b[p] - 97, by omega, by rw [List.getElem?_eq_getElem hpl]; congr 1; omega⟩
  obtain ⟨g, eg⟩ : ∃ g : Nat → List Nat, ∀ k, g k = if c / 12 % 4 = 1 then b.take (k + 1) else wd b i p s k := ⟨_, fun _ => rfl⟩
  have sn : ¬ (s : Int) = 0 := by omega
  have sn' : ¬ s = 0 := by omega
  have v1 : vMod ⟨.int (c / 48), .av⟩ ⟨.int (s : Int), .av⟩ = some ⟨.int (p : Int), .av⟩ := by rw [sv5 (by omega : 0 < (s : Int)), ep]
  obtain ⟨ρ', q1, s7, s8, q2⟩ := loopF_all (tgt := tgName 7) (body := B_law_words_1) (l := List.range many) (fun (k : Nat) => D.int (k : Int)) (fun j ρ => ∃ s7 s8, ρ = [.sh (.ro ns), .sh (.int 1), .sh (.int (many : Int)), .sh (.int c), .sh (.int (s : Int)), .sh (.str (sW b)), .own (.lst ((((List.range many).take j).map fun k => sW (g k)).map .str)), s7, s8]) (i := 0) (ρ := [.sh (.ro ns), .sh (.int 1), .sh (.int (many : Int)), .sh (.int c), .sh (.int (s : Int)), .sh (.str (sW b)), .own (.lst []), .emp, .emp]) ⟨_, _, rfl⟩ (by
    rintro k a ρ hk ⟨s7, s8, rfl⟩
    obtain ⟨ha, rfl⟩ := List.getElem?_eq_some_iff.mp hk
    simp only [List.length_range] at ha
    simp only [List.getElem_range]
    have ew := word_eq b hb p s k i ps s12 (by omega) hi hbi
    have hz2 : b.length ≤ 100000 := by omega
    have et : cutS (sW b) none (some ((k : Int) + 1)) = sW (b.take (k + 1)) := by
      have := cutS_to b (k + 1)
      rw [show (((k + 1 : Nat)) : Int) = (k : Int) + 1 by omega] at this
      exact this
    have ex : (((List.range many).take (0 + k + 1)).map fun k => sW (g k)) = (((List.range many).take (0 + k)).map fun k => sW (g k)) ++ [sW (g k)] := by
      rw [Nat.zero_add, List.take_add_one, List.getElem?_range ha, List.map_append]
      rfl
    have hl : (((List.range many).take (0 + k)).map fun k => sW (g k)).length < 100000 := by
      rw [List.length_map, List.length_take, List.length_range]
      omega
    refine ⟨[.sh (.ro ns), .sh (.int 1), .sh (.int (many : Int)), .sh (.int c), .sh (.int (s : Int)), .sh (.str (sW b)), .own (.lst ((((List.range many).take (0 + k + 1)).map fun k => sW (g k)).map .str)), .sh (.int (k : Int)), .sh (.str (sW (g k)))], ?_, _, _, rfl⟩
    rw [ex, eg]
    generalize (((List.range many).take (0 + k)).map fun k => sW (g k)) = acc at hl
    unfold B_law_words_1
    by_cases cc : c / 12 % 4 = 1
    · simp [v1, ew, cc, et, hl, hz2, sn, sn']
    · simp [v1, ew, cc, hl, sn, sn'])
  refine ⟨(List.range many).map fun k => sW (g k), ⟨by simp; exact h1, by simp; exact h6, fun x hx => ?_, ?_⟩, by simp, ?_⟩
  · obtain ⟨k, hk, rfl⟩ := List.mem_map.mp hx
    have hk' := List.mem_range.mp hk
    rw [eg]
    split
    · have l1 : (b.take (k + 1)).length = k + 1 := by rw [List.length_take]; omega
      refine ⟨by rw [sW_len, l1]; omega, by rw [sW_len, l1]; omega, fun x hx => ?_⟩
      rw [sW_list] at hx
      exact hl x (List.mem_of_mem_take hx)
    · have l1 : (b.take p).length = p := by rw [List.length_take]; omega
      have l2 : ((b.drop (p + 1)).take (s - (p + 1))).length = s - (p + 1) := by rw [List.length_take, List.length_drop]; omega
      have l3 : (wd b i p s k).length = s := by
        unfold wd
        rw [List.length_append, List.length_append, l1, l2, List.length_singleton]
        omega
      refine ⟨by rw [sW_len, l3]; omega, by rw [sW_len, l3]; omega, fun x hx => ?_⟩
      rw [sW_list] at hx
      unfold wd at hx
      rcases List.mem_append.mp hx with z | z
      · rcases List.mem_append.mp z with y | y
        · exact hl x (List.mem_of_mem_take y)
        · rw [List.mem_singleton.mp y]
          have := Nat.mod_lt (i + 3 * k) (show 26 > 0 by decide)
          omega
      · exact hl x (List.mem_of_mem_drop (List.mem_of_mem_take z))
  · show List.Pairwise _ _
    rw [List.pairwise_map]
    refine List.Pairwise.imp_of_mem (fun {x y} hx hy lt e => ?_) List.pairwise_lt_range
    have hx' := List.mem_range.mp hx
    have hy' := List.mem_range.mp hy
    have e' := sW_inj e
    rw [eg, eg] at e'
    split at e'
    · have := congrArg List.length e'
      rw [List.length_take, List.length_take] at this
      omega
    · have := congrArg (fun l => l[p]?) e'
      simp only [wd_at b i p s _ hpl] at this
      have := Option.some.inj this
      omega
  · subst q2
    rw [Nat.zero_add, List.length_range, List.take_of_length_le (by simp)] at q1
    have ec2' : F_law_cell_at [.ro ns, .int 2] = some (.val (.int c2) false) := ec2
    have ec' : F_law_cell_at [.ro ns, .int 1] = some (.val (.int c) false) := ec
    have e12 : (1 : Int) + 1 = 2 := by decide
    have m6 : many ≤ 1000000 := by omega
    unfold F_law_words b_law_words
    simp [ec', ec2', e12, eb, es, q1, m6]
/-! a box: count, heaps, put, take -/
structure KvOk (n : Nat) (kvs : Tb) : Prop where
  l : kvs.length ≤ 800
  h : ∀ p ∈ kvs, (∀ x ∈ p.1, 0 ≤ x ∧ x < (n : Int)) ∧ p.1.length < 60 ∧ 0 ≤ p.2
def total (kvs : Tb) : Int := (kvs.map (·.2)).sum
theorem sum_zero : ∀ {kvs : Tb}, (∀ p ∈ kvs, 0 ≤ p.2) → total kvs = 0 → ∀ p ∈ kvs, p.2 = 0
  | [], _, _, p, hp => by cases hp
  | q :: r, h, e, p, hp => by
    have h1 := h q List.mem_cons_self
    have hn : ∀ r : Tb, (∀ p ∈ r, 0 ≤ p.2) → 0 ≤ total r := fun r => by
      induction r with
      | nil => intro _; exact Int.le_refl _
      | cons a t ih =>
        intro h
        have := ih fun p hp => h p (List.mem_cons_of_mem _ hp)
        have := h a List.mem_cons_self
        show 0 ≤ a.2 + total t
        omega
    have h2 := hn r fun p hp => h p (List.mem_cons_of_mem _ hp)
    have e' : q.2 + total r = 0 := e
    rcases List.mem_cons.mp hp with z | z
    · rw [z]; omega
    · exact sum_zero (fun p hp => h p (List.mem_cons_of_mem _ hp)) (by omega) p z
theorem sum_some {kvs : Tb} (h : ∀ p ∈ kvs, 0 ≤ p.2) (e : total kvs ≠ 0) : ∃ p ∈ kvs, 0 < p.2 := by
  by_cases c : ∃ p ∈ kvs, 0 < p.2
  · exact c
  · refine absurd ?_ e
    clear e
    induction kvs with
    | nil => rfl
    | cons a t ih =>
      have h1 := h a List.mem_cons_self
      have h2 : ¬ 0 < a.2 := fun z => c ⟨a, List.mem_cons_self, z⟩
      have h3 := ih (fun p hp => h p (List.mem_cons_of_mem _ hp)) fun ⟨p, hp, z⟩ => c ⟨p, List.mem_cons_of_mem _ hp, z⟩
      show a.2 + total t = 0
      omega
theorem hof_zero {kvs : Tb} (h : ∀ p ∈ kvs, p.2 = 0) : Hof kvs [] := by
  have ht : ∀ (kvs : Tb), (∀ p ∈ kvs, p.2 = 0) → ∀ S, tot kvs S = 0 := fun kvs => by
    induction kvs with
    | nil => intro _ S; rfl
    | cons a t ih =>
      intro h S
      rw [tot_cons, ih (fun p hp => h p (List.mem_cons_of_mem _ hp)) S, h a List.mem_cons_self]
      split <;> rfl
  exact ⟨List.Pairwise.nil, fun p => ⟨fun z => (by cases z), fun z => (by rw [ht kvs h] at z; omega)⟩⟩
@[simp] theorem ev_fldR {c : Addr} {fe : EF} {ρ : En} : eFldR c fe ρ = match fe ρ with
  | some ⟨.bx C roll k, m⟩ => if C = c ∧ m.ok = true then some ⟨.lst (roll.map .str), .av⟩ else none
  | _ => none := (rfl)
@[simp] theorem ev_fldK {c : Addr} {fe : EF} {ρ : En} : eFldK c fe ρ = match fe ρ with
  | some ⟨.bx C roll k, m⟩ => if C = c then some ⟨.rf k, .av⟩ else none
  | _ => none := (rfl)
@[simp] theorem ev_de [γ : GSt] {fe : EF} {ρ : En} : eDe fe ρ = match fe ρ with
  | some ⟨.rf a, _⟩ => (GSt.st a).map fun kvs => ⟨.dT (enT kvs), .top⟩
  | _ => none := (rfl)
@[simp] theorem ev_lstVals [γ : GSt] {fe : EF} {ρ : En} : eLstVals fe ρ = match fe ρ with
  | some ⟨.rf a, _⟩ => (GSt.st a).map fun kvs => ⟨.lst (kvs.map fun p => .int p.2), .fr⟩
  | _ => none := (rfl)
@[simp] theorem ev_lstItems [γ : GSt] {fe : EF} {ρ : En} : eLstItems fe ρ = match fe ρ with
  | some ⟨.rf a, _⟩ => (GSt.st a).map fun kvs => ⟨.lst (kvs.map rowD), .fr⟩
  | _ => none := (rfl)
@[simp] theorem ev_bm {c : Addr} {G : FF} {dd : List D} {fo : EF} {fa : AF} {ρ : En} : eBM c G dd fo fa ρ = (bxOf c (fo ρ)).bind fun b => (fa ρ).bind fun rs => if okL rs then valR (G (b :: (rs.map R.d ++ dd))) else none := (rfl)
@[simp] theorem ev_callR {G : FF} {fa : AF} {ρ : En} : eCallR G fa ρ = (fa ρ).bind fun rs => if okL rs then valR (G (rs.map R.d)) else none := (rfl)
@[simp] theorem bxOf_av {c : Addr} {roll : List Str} {k : Addr} : bxOf c (some ⟨.bx c roll k, .av⟩) = some (.bx c roll k) := by simp [bxOf, Md.ok]
@[simp] theorem valR_val {d : D} {fr : Bool} : valR (some (.val d fr)) = some ⟨d, if fr then .fr else .av⟩ := (rfl)
theorem count_eq [γ : GSt] (c k : Addr) (roll : List Str) (kvs : Tb) (hk : GSt.st k = some kvs) : F_Box_count c [.bx c roll k] = some (.val (.int (total kvs)) false) := by
  have e : intsD (kvs.map fun p => D.int p.2) = some (kvs.map (·.2)) := by
    have := intsD_map (kvs.map (·.2))
    rw [List.map_map] at this
    exact this
  unfold F_Box_count b_Box_count
  simp [hk, e, total]
theorem heaps_box [γ : GSt] (c k : Addr) (roll : List Str) (hr : Roll roll) (kvs : Tb) (hk : GSt.st k = some kvs) (ok : KvOk roll.length kvs) : ∃ hs : Tb, Hof kvs hs ∧ hs.length ≤ kvs.length ∧ F_Box_heaps c [.bx c roll k] = some (.val (.lst (hs.map hD)) true) := by
  have ec := count_eq c k roll kvs hk
  have h6 := hr.l6
  have l1 : roll.length ≤ 100000 := by omega
  by_cases z : total kvs = 0
  · refine ⟨[], hof_zero (sum_zero (fun p hp => (ok.h p hp).2.2) z), Nat.zero_le _, ?_⟩
    unfold F_Box_heaps b_Box_heaps
    simp [ec, z]
  · obtain ⟨hs, h1, h2, h3⟩ := heaps_of_eq roll.length hr.l1 h6 kvs ⟨by have := ok.l; omega, ok.h⟩ (sum_some (fun p hp => (ok.h p hp).2.2) z)
    refine ⟨hs, h1, h2, ?_⟩
    unfold F_Box_heaps b_Box_heaps
    simp [ec, z, l1, hk, h3]
theorem hof_keys {n : Nat} {kvs hs : Tb} (ok : KvOk n kvs) (h : Hof kvs hs) : ∀ p ∈ hs, p.1.length ≤ 60 := fun p hp => by
  have h1 := (h.2 p).mp hp
  have h4 : ∀ rows : Tb, (∀ r ∈ rows, r.1.length < 60) → tot rows p.1 ≠ 0 → p.1.length ≤ 60 := by
    intro rows
    induction rows with
    | nil => intro _ z; exact absurd rfl z
    | cons q t ih =>
      intro hb z
      rw [tot_cons] at z
      by_cases c : uSet q.1 = p.1
      · have := uSet_len q.1
        have := hb q List.mem_cons_self
        rw [← c]
        omega
      · rw [if_neg c] at z
        exact ih (fun r hr => hb r (List.mem_cons_of_mem _ hr)) (by omega)
  exact h4 kvs (fun r hr => (ok.h r hr).2.1) (by omega)
theorem right_eq [γ : GSt] (c k m : Addr) (roll : List Str) (hr : Roll roll) (kvs : Tb) (hk : GSt.st k = some kvs) (hm : GSt.st m = some kvs) (ok : KvOk roll.length kvs) (b : Bool) : F_law_right c [.bx c roll k, .rf m, .bl b] = some (.val (.bl true) false) := by
  have ec := count_eq c k roll kvs hk
  obtain ⟨hs, h1, h2, h3⟩ := heaps_box c k roll hr kvs hk ok
  have h6 := hr.l6
  obtain ⟨hs', g1, g2, g3, g4⟩ := law_heaps_eq kvs ok.l fun r hm => ⟨fun x hx => by have := (ok.h r hm).1 x hx; omega, (ok.h r hm).2⟩
  have e := hof_uniq h1 g1 fun _ => rfl
  subst e
  have hl := ok.l
  have sm := same_refl 7 (.lst (hs.map hD)) (gd_hs hs (by omega) (hof_keys ok h1))
  have e : intsD (kvs.map fun p => D.int p.2) = some (kvs.map (·.2)) := by
    have := intsD_map (kvs.map (·.2))
    rw [List.map_map] at this
    exact this
  have et : (kvs.map (·.2)).sum = total kvs := rfl
  have ew : ∀ i : Int, F_law_whole [.int i] = some (.val (.bl true) false) := fun i => by
    unfold F_law_whole b_law_whole
    simp
  generalize hs.map hD = hd at h3 g4 sm
  unfold F_law_right b_law_right
  cases b <;> simp [hk, hm, g4, h3, sm, ec, e, et, ew]
/-! put, take, the law's moves -/
theorem sL_nx {f : GSt → SF} {g : GSt} {ρ ρ' : En} (h : f g ρ = some (.nx ρ')) : sL f g ρ = some (g, .nx ρ') := by unfold sL; rw [h]
theorem sL_rt {f : GSt → SF} {g : GSt} {ρ : En} {d : D} {b : Bool} (h : f g ρ = some (.rt d b)) : sL f g ρ = some (g, .rt d b) := by unfold sL; rw [h]
theorem sSeqG_nx {f h : SG} {g g1 : GSt} {ρ ρ1 : En} (e : f g ρ = some (g1, .nx ρ1)) : sSeqG f h g ρ = h g1 ρ1 := by unfold sSeqG; rw [e]
theorem sSeqG_rt {f h : SG} {g g1 : GSt} {ρ : En} {d : D} {b : Bool} (e : f g ρ = some (g1, .rt d b)) : sSeqG f h g ρ = some (g1, .rt d b) := by unfold sSeqG; rw [e]
theorem sGPut_at {fo fk fv : GSt → EF} {g : GSt} {ρ : En} {n : Int} {a : Addr} {q : List Int} {kvs : Tb} {m1 m2 m3 : Md} (h1 : fv g ρ = some ⟨.int n, m1⟩) (h2 : fo g ρ = some ⟨.rf a, m2⟩) (h3 : fk g ρ = some ⟨.tup (q.map .int), m3⟩) (h4 : g.st a = some kvs) (h5 : kvs.length < 100000) : sGPut fo fk fv g ρ = some (gset g a (putI kvs q n), .nx ρ) := by
  unfold sGPut
  rw [h1, h2, h3]
  show (intsD (q.map .int)).bind _ = _
  rw [intsD_map, Option.bind_some, h4, Option.bind_some, if_pos h5]
theorem gset_same {g : GSt} {a : Addr} {kvs : Tb} : (gset g a kvs).st a = some kvs := by show (if a = a then _ else _) = _; rw [if_pos rfl]
theorem gset_ne {g : GSt} {a b : Addr} {kvs : Tb} (h : b ≠ a) : (gset g a kvs).st b = g.st b := by show (if b = a then _ else _) = _; rw [if_neg h]
theorem put_eq (g : GSt) (c k : Addr) (roll : List Str) (hr : Roll roll) (ws : List Str) (hw : ∀ w ∈ ws, w ∈ roll) (hl : ws.length ≤ 50) (kvs : Tb) (hk : g.st k = some kvs) (hkl : kvs.length < 100000) (many : Int) (h1 : 1 ≤ many) :
    F_Box_put c g [.bx c roll k, .str (txt ws), .int many] = some (gset g k (putI kvs (likeI roll ws) ((valI kvs (likeI roll ws)).getD 0 + many)), .inl .non) := by
  letI := g
  have ep := places_eq c k roll hr ws hw hl
  have hk' : GSt.st k = some kvs := hk
  have n1 : ¬ many < 1 := by omega
  unfold F_Box_put fnG b_Box_put
  rw [sSeqG_nx (g1 := g) (ρ1 := [.sh (.bx c roll k), .sh (.str (txt ws)), .sh (.int many), .sh (tD (likeI roll ws))]) (sL_nx (by
    unfold sSetBX
    simp [ep, cMd, tD])), sSeqG_nx (g1 := g) (ρ1 := [.sh (.bx c roll k), .sh (.str (txt ws)), .sh (.int many), .sh (tD (likeI roll ws))]) (sL_nx (by simp [n1])),
    sGPut_at (n := (valI kvs (likeI roll ws)).getD 0 + many) (a := k) (q := likeI roll ws) (kvs := kvs) (m1 := .av) (m2 := .av) (m3 := .av) (by simp [hk', tD]) (by simp) (by simp [tD]) hk hkl]
theorem take_eq (g : GSt) (c k : Addr) (roll : List Str) (hr : Roll roll) (ws : List Str) (hw : ∀ w ∈ ws, w ∈ roll) (hl : ws.length ≤ 50) (kvs : Tb) (hk : g.st k = some kvs) (hkl : kvs.length < 100000) (many : Int) (h1 : 1 ≤ many) (h2 : many ≤ (valI kvs (likeI roll ws)).getD 0) :
    F_Box_take c g [.bx c roll k, .str (txt ws), .int many] = some (gset g k (putI kvs (likeI roll ws) ((valI kvs (likeI roll ws)).getD 0 - many)), .inl .non) := by
  letI := g
  have ep := places_eq c k roll hr ws hw hl
  have hk' : GSt.st k = some kvs := hk
  have n1 : ¬ many < 1 := by omega
  have n2 : ¬ (valI kvs (likeI roll ws)).getD 0 < many := by omega
  unfold F_Box_take fnG b_Box_take
  rw [sSeqG_nx (g1 := g) (ρ1 := [.sh (.bx c roll k), .sh (.str (txt ws)), .sh (.int many), .sh (tD (likeI roll ws)), .emp]) (sL_nx (by
    unfold sSetBX
    simp [ep, cMd, tD])), sSeqG_nx (g1 := g) (ρ1 := [.sh (.bx c roll k), .sh (.str (txt ws)), .sh (.int many), .sh (tD (likeI roll ws)), .sh (.int ((valI kvs (likeI roll ws)).getD 0))]) (sL_nx (by simp [hk', tD])), sSeqG_nx (g1 := g) (ρ1 := [.sh (.bx c roll k), .sh (.str (txt ws)), .sh (.int many), .sh (tD (likeI roll ws)), .sh (.int ((valI kvs (likeI roll ws)).getD 0))]) (sL_nx (by simp [n1, n2])),
    sGPut_at (n := (valI kvs (likeI roll ws)).getD 0 - many) (a := k) (q := likeI roll ws) (kvs := kvs) (m1 := .av) (m2 := .av) (m3 := .av) (by simp) (by simp) (by simp [tD]) hk hkl]
/-- the words of a ballot -/
theorem pick_words (roll : List Str) (hr : Roll roll) (xs : List Int) (hx : xs.length ≤ 100) : ∃ ws : List Str, (∀ w ∈ ws, w ∈ roll) ∧ ws.length = xs.length ∧ ∀ ρ : En, ρ[2]? = some (.sh (.lst (roll.map .str))) → 10 < ρ.length → compF (tgName 10) tYes' (eOp vIx (eVar 2) (eOp vMod (eVar 10) (eCB cLen (aCons (eVar 2) aNil)))) ρ (xs.map .int) = some (ws.map .str) := by
  have l1 := hr.l1
  have l6 := hr.l6
  have hm : ∀ x : Int, (x % (roll.length : Int)).toNat < roll.length := fun x => by
    have h0 := Int.emod_nonneg x (b := (roll.length : Int)) (by omega)
    have h1 := Int.emod_lt_of_pos x (b := (roll.length : Int)) (by omega)
    omega
  refine ⟨xs.map fun x => roll[(x % (roll.length : Int)).toNat]'(hm x), fun w hw => ?_, by simp, fun ρ h2 h10 => ?_⟩
  · obtain ⟨x, _, rfl⟩ := List.mem_map.mp hw
    exact List.getElem_mem _
  · rw [List.map_map]
    refine compF_all (tgt := tgName 10) D.int (fun x => .str (roll[(x % (roll.length : Int)).toNat]'(hm x))) fun x _ => ⟨ρ.set 10 (.sh (.int x)), ?_, rfl, .av, ?_, rfl⟩
    · unfold tgName
      rw [if_pos ⟨rfl, h10⟩]
    · have e2 : (ρ.set 10 (.sh (.int x)))[2]? = some (.sh (.lst (roll.map .str))) := by rw [set_get_ne (by decide)]; exact h2
      have e10 : (ρ.set 10 (.sh (.int x)))[10]? = some (.sh (.int x)) := List.getElem?_set_self h10
      have v2 : eVar 2 (ρ.set 10 (.sh (.int x))) = some ⟨.lst (roll.map .str), .av⟩ := by unfold eVar; rw [e2]
      have v10 : eVar 10 (ρ.set 10 (.sh (.int x))) = some ⟨.int x, .av⟩ := by unfold eVar; rw [e10]
      have b1 : roll.length ≤ 1000000 := by omega
      have h0 := Int.emod_nonneg x (b := (roll.length : Int)) (by omega)
      have e3 : atI (roll.map D.str) (x % (roll.length : Int)) = some (.str (roll[(x % (roll.length : Int)).toNat]'(hm x))) := by
        have := atI_nat (xs := roll.map D.str) (j := (x % (roll.length : Int)).toNat) (v := .str (roll[(x % (roll.length : Int)).toNat]'(hm x))) (by rw [List.getElem?_map, List.getElem?_eq_getElem (hm x)]; rfl)
        rw [show (((x % (roll.length : Int)).toNat : Nat) : Int) = x % (roll.length : Int) by omega] at this
        exact this
      have v3 : vMod ⟨.int x, .av⟩ ⟨.int (roll.length : Int), .av⟩ = some ⟨.int (x % (roll.length : Int)), .av⟩ := sv5 (by omega)
      generalize ρ.set 10 (.sh (.int x)) = ρ' at v2 v10
      simp [-ev_var, v2, v10, b1, v3, e3]
theorem cutG_len {α : Type} (xs : List α) (a b : Option Int) : (cutG xs a b).length ≤ xs.length := by
  unfold cutG
  rw [List.length_take, List.length_drop]
  omega
theorem sIfG_t {c : GSt → TF} {f h : SG} {g : GSt} {ρ : En} (e : c g ρ = some true) : sIfG c f h g ρ = f g ρ := by unfold sIfG; rw [e]
theorem sIfG_f {c : GSt → TF} {f h : SG} {g : GSt} {ρ : En} (e : c g ρ = some false) : sIfG c f h g ρ = h g ρ := by unfold sIfG; rw [e]
theorem sRetG_at {fe : EG} {g g' : GSt} {ρ : En} {d : D} (e : fe g ρ = some (g', .inl d)) : sRetG fe g ρ = some (g', .rt d false) := by unfold sRetG oG; rw [e]
theorem eGM_at {c : Addr} {F : FG} {dd : List D} {fo : GSt → EF} {fa : AG} {g : GSt} {ρ : En} {b : D} {rs : List R} (h1 : bxOf c (fo g ρ) = some b) (h2 : fa g ρ = some rs) (h3 : okL rs = true) : eGM c F dd fo fa g ρ = F g (b :: (rs.map R.d ++ dd)) := by
  unfold eGM
  rw [h1, Option.bind_some, h2, Option.bind_some, if_pos h3]
/-- the new table of both: some set of places, how many -/
def Nxt52 (n : Nat) (kvs : Tb) (kv' : Tb) : Prop := ∃ S v, (∀ x ∈ S, 0 ≤ x ∧ x < (n : Int)) ∧ S.length < 60 ∧ 0 ≤ v ∧ kv' = putI kvs S v
theorem moved_eq (g : GSt) (c k m : Addr) (roll : List Str) (hr : Roll roll) (xs : List Int) (hx : xs.length = 12) (h0 : ∀ x ∈ xs, 0 ≤ x) (cell : Int) (kvs : Tb) (hk : g.st k = some kvs) (hm : g.st m = some kvs) (hkm : k ≠ m) (hkl : kvs.length ≤ 800) (nn : ∀ p ∈ kvs, 0 ≤ p.2) :
    ∃ kv', Nxt52 roll.length kvs kv' ∧ F_law_moved c g [.bx c roll k, .rf m, .lst (roll.map .str), .lst (xs.map .int), .int cell] = some (gset (gset g m kv') k kv', .inl .non) := by
  letI := g
  have hk' : GSt.st k = some kvs := hk
  have hm' : GSt.st m = some kvs := hm
  have ha : ∀ j : Nat, j < 12 → atI (xs.map D.int) (j : Int) = some (.int (xs.getD j 0)) := fun j hj => atI_nat (by rw [List.getElem?_map, List.getElem?_eq_getElem (by omega)]; simp [List.getD, List.getElem?_eq_getElem (show j < xs.length by omega)])
  have hn : ∀ j : Nat, j < 12 → 0 ≤ xs.getD j 0 := fun j hj => by
    have : xs.getD j 0 = xs[j]'(by omega) := by simp [List.getD, List.getElem?_eq_getElem (show j < xs.length by omega)]
    rw [this]
    exact h0 _ (List.getElem_mem _)
  have a0 : atI (xs.map D.int) 0 = some (.int (xs.getD 0 0)) := ha 0 (by decide)
  have a1 : atI (xs.map D.int) 1 = some (.int (xs.getD 1 0)) := ha 1 (by decide)
  have a7 : atI (xs.map D.int) 7 = some (.int (xs.getD 7 0)) := ha 7 (by decide)
  have a8 : atI (xs.map D.int) 8 = some (.int (xs.getD 8 0)) := ha 8 (by decide)
  have a9 : atI (xs.map D.int) 9 = some (.int (xs.getD 9 0)) := ha 9 (by decide)
  have n7 := hn 7 (by decide)
  generalize xs.getD 0 0 = x0 at a0
  generalize xs.getD 1 0 = x1 at a1
  generalize xs.getD 7 0 = x7 at a7 n7
  generalize xs.getD 8 0 = x8 at a8
  generalize xs.getD 9 0 = x9 at a9
  obtain ⟨ws, hw, wl, hc⟩ := pick_words roll hr (cutG xs (some 2) (some (2 + x1 % 5))) (by have := cutG_len xs (some 2) (some (2 + x1 % 5)); omega)
  have wl' : ws.length ≤ 50 := by have := cutG_len xs (some 2) (some (2 + x1 % 5)); omega
  have ecut : cutG (xs.map D.int) (some 2) (some (2 + x1 % 5)) = (cutG xs (some 2) (some (2 + x1 % 5))).map D.int := cutG_map _ _ _ _
  have hcl : (cutG xs (some 2) (some (2 + x1 % 5))).length ≤ 100000 := by have := cutG_len xs (some 2) (some (2 + x1 % 5)); omega
  generalize cutG xs (some 2) (some (2 + x1 % 5)) = ys at hc ecut wl hcl
  have hlk := like_law roll hr ws hw wl'
  have hSl : (likeI roll ws).length < 60 := by have := likeI_len (roll := roll) (ws := ws); omega
  have hSm := likeI_mem hw
  have hput := fun (g1 : GSt) (h : g1.st k = some kvs) (v : Int) (h1 : 1 ≤ v) => put_eq g1 c k roll hr ws hw wl' kvs h (by omega) v h1
  have htake := fun (g1 : GSt) (h : g1.st k = some kvs) (v : Int) (h1 : 1 ≤ v) (h2 : v ≤ (valI kvs (likeI roll ws)).getD 0) => take_eq g1 c k roll hr ws hw wl' kvs h (by omega) v h1 h2
  have hth : 0 ≤ (valI kvs (likeI roll ws)).getD 0 := by
    cases e : valI kvs (likeI roll ws) with
    | none => simp
    | some v => exact nn _ (valI_mem e)
  have hW : ∀ w ∈ ws, isW w := fun w hm => hr.w w (hw w hm)
  have hsum : (ws.map (·.length)).sum + ws.length * (Str.ofString " ").length ≤ 100000 := by
    have key : ∀ l : List Str, (∀ w ∈ l, isW w) → (l.map (·.length)).sum ≤ l.length * 12 := fun l => by
      induction l with
      | nil => intro _; simp
      | cons a t ih =>
        intro h
        have h1 := ih fun w hw => h w (List.mem_cons_of_mem _ hw)
        have h2 := (h a List.mem_cons_self).2.1
        rw [List.map_cons, List.sum_cons, List.length_cons, Nat.succ_mul]
        omega
    have e1 : (Str.ofString " ").length = 1 := by decide
    have := key ws hW
    rw [e1]
    omega
  have etx : Txt.join (Str.ofString " ") ws = txt ws := rfl
  obtain ⟨v, hv1, hv⟩ : ∃ v : Int, 1 ≤ v ∧ atI [D.int 1, D.int (1 + x7 % 9), D.int (1 + cell % 99999999999999999999999999999999999999)] (x8 % 3) = some (.int v) := by
    rcases (by omega : x8 % 3 = 0 ∨ x8 % 3 = 1 ∨ x8 % 3 = 2) with e | e | e <;> rw [e]
    · exact ⟨1, by decide, rfl⟩
    · exact ⟨1 + x7 % 9, by omega, rfl⟩
    · exact ⟨1 + cell % 99999999999999999999999999999999999999, by have := Int.emod_nonneg cell (b := 99999999999999999999999999999999999999) (by decide); omega, rfl⟩
  generalize hS : likeI roll ws = S at hlk hput htake hth hSl hSm
  generalize hT : (valI kvs S).getD 0 = T at hput htake hth
  have rest : ∀ (kv' : Tb) (g' : GSt) (d : D), (∃ S v, (∀ x ∈ S, 0 ≤ x ∧ x < (roll.length : Int)) ∧ S.length < 60 ∧ 0 ≤ v ∧ kv' = putI kvs S v) → g' = gset (gset g m kv') k kv' → F_law_moved c g [.bx c roll k, .rf m, .lst (roll.map .str), .lst (xs.map .int), .int cell] = some (g', .inl .non) → ∃ kv', Nxt52 roll.length kvs kv' ∧ F_law_moved c g [.bx c roll k, .rf m, .lst (roll.map .str), .lst (xs.map .int), .int cell] = some (gset (gset g m kv') k kv', .inl .non) := fun kv' g' d h1 h2 h3 => ⟨kv', h1, by rw [h3, h2]⟩
  have hck := hc [.sh (.bx c roll k), .sh (.rf m), .sh (.lst (roll.map .str)), .sh (.lst (xs.map .int)), .sh (.int cell), .emp, .emp, .emp, .emp, .emp, .emp] rfl (by show 10 < 11; decide)
  have yl : ys.length ≤ 100000 := hcl
  have g1k : ∀ kv' : Tb, (gset g m kv').st k = some kvs := fun kv' => by rw [gset_ne hkm]; exact hk
  -- up to the choice
  have head : ∀ r, (sSeqG (sIfG (fun _ => (tAnd' (toB (eOp vEq (eOp vMod (eOp vIx (eVar 3) (eC (.int 0))) (eC (.int 3))) (eC (.int 0)))) (toB (eOp vGt (eVar 7) (eC (.int 0)))))) (sSeqG (sL fun _ => (sSet 9 (eCB cMin2 (aCons (eVar 9) (aCons (eVar 7) aNil)))))
  (sSeqG (sL fun _ => (sIf (toB (eOp vEq (eOp vMod (eOp vIx (eVar 3) (eC (.int 9))) (eC (.int 3))) (eC (.int 0)))) (sSet 9 (eVar 7)) sNil))
  (sSeqG (sGPut (fun _ => (eVar 1)) (fun _ => (eVar 6)) (fun _ => (eOp vSub (eVar 7) (eVar 9))))
  (sSeqG (sIfG (fun _ => (tAnd' (toB (eOp vEq (eVar 9) (eC (.int 1)))) (toB (eOp vEq (eOp vMod (eOp vIx (eVar 3) (eC (.int 9))) (eC (.int 2))) (eC (.int 1)))))) (sRetG (eGM c (F_Box_take c) [.int 1] (fun _ => (eVar 0)) (fun _ => (aCons (eVar 8) aNil)))) (sL fun _ => sNil))
  (sRetG (eGM c (F_Box_take c) [] (fun _ => (eVar 0)) (fun _ => (aCons (eVar 8) (aCons (eVar 9) aNil))))))))) (sL fun _ => sNil))
  (sSeqG (sGPut (fun _ => (eVar 1)) (fun _ => (eVar 6)) (fun _ => (eOp vAdd (eVar 7) (eVar 9))))
  (sSeqG (sIfG (fun _ => (tAnd' (toB (eOp vEq (eVar 9) (eC (.int 1)))) (toB (eOp vEq (eOp vMod (eOp vIx (eVar 3) (eC (.int 9))) (eC (.int 2))) (eC (.int 1)))))) (sRetG (eGM c (F_Box_put c) [.int 1] (fun _ => (eVar 0)) (fun _ => (aCons (eVar 8) aNil)))) (sL fun _ => sNil))
  (sRetG (eGM c (F_Box_put c) [] (fun _ => (eVar 0)) (fun _ => (aCons (eVar 8) (aCons (eVar 9) aNil)))))))) g [.sh (.bx c roll k), .sh (.rf m), .sh (.lst (roll.map .str)), .sh (.lst (xs.map .int)), .sh (.int cell), .own (.lst (ws.map .str)), .sh (tD S), .sh (.int T), .sh (.str (txt ws)), .sh (.int v), .emp] = some (r, .rt .non false) →
      F_law_moved c g [.bx c roll k, .rf m, .lst (roll.map .str), .lst (xs.map .int), .int cell] = some (r, .inl .non) := fun r hr0 => by
    unfold F_law_moved fnG b_law_moved
    rw [sSeqG_nx (g1 := g) (ρ1 := [.sh (.bx c roll k), .sh (.rf m), .sh (.lst (roll.map .str)), .sh (.lst (xs.map .int)), .sh (.int cell), .own (.lst (ws.map .str)), .emp, .emp, .emp, .emp, .emp]) (sL_nx (by
        simp [a1, ecut, yl, hck])),
      sSeqG_nx (g1 := g) (ρ1 := [.sh (.bx c roll k), .sh (.rf m), .sh (.lst (roll.map .str)), .sh (.lst (xs.map .int)), .sh (.int cell), .own (.lst (ws.map .str)), .sh (tD S), .emp, .emp, .emp, .emp]) (sL_nx (by
        simp [hlk, tD])),
      sSeqG_nx (g1 := g) (ρ1 := [.sh (.bx c roll k), .sh (.rf m), .sh (.lst (roll.map .str)), .sh (.lst (xs.map .int)), .sh (.int cell), .own (.lst (ws.map .str)), .sh (tD S), .sh (.int T), .emp, .emp, .emp]) (sL_nx (by
        simp [hm', tD, hT])),
      sSeqG_nx (g1 := g) (ρ1 := [.sh (.bx c roll k), .sh (.rf m), .sh (.lst (roll.map .str)), .sh (.lst (xs.map .int)), .sh (.int cell), .own (.lst (ws.map .str)), .sh (tD S), .sh (.int T), .sh (.str (txt ws)), .emp, .emp]) (sL_nx (by
        simp [hsum, etx])),
      sSeqG_nx (g1 := g) (ρ1 := [.sh (.bx c roll k), .sh (.rf m), .sh (.lst (roll.map .str)), .sh (.lst (xs.map .int)), .sh (.int cell), .own (.lst (ws.map .str)), .sh (tD S), .sh (.int T), .sh (.str (txt ws)), .sh (.int v), .emp]) (sL_nx (by
        simp [a7, a8, hv])), hr0]
  by_cases ct : x0 % 3 = 0 ∧ 0 < T
  · obtain ⟨w, w1, w2, hw9⟩ : ∃ w : Int, 1 ≤ w ∧ w ≤ T ∧ w = (if x9 % 3 = 0 then T else (if T < v then T else v)) := by
      refine ⟨_, ?_, ?_, rfl⟩
      · split
        · omega
        · split <;> omega
      · split
        · omega
        · split <;> omega
    refine ⟨putI kvs S (T - w), ⟨S, T - w, hSm, hSl, by omega, rfl⟩, head _ ?_⟩
    have fin : (sSeqG (sL fun _ => (sSet 9 (eCB cMin2 (aCons (eVar 9) (aCons (eVar 7) aNil)))))
        (sSeqG (sL fun _ => (sIf (toB (eOp vEq (eOp vMod (eOp vIx (eVar 3) (eC (.int 9))) (eC (.int 3))) (eC (.int 0)))) (sSet 9 (eVar 7)) sNil))
        (sSeqG (sGPut (fun _ => (eVar 1)) (fun _ => (eVar 6)) (fun _ => (eOp vSub (eVar 7) (eVar 9))))
        (sSeqG (sIfG (fun _ => (tAnd' (toB (eOp vEq (eVar 9) (eC (.int 1)))) (toB (eOp vEq (eOp vMod (eOp vIx (eVar 3) (eC (.int 9))) (eC (.int 2))) (eC (.int 1)))))) (sRetG (eGM c (F_Box_take c) [.int 1] (fun _ => (eVar 0)) (fun _ => (aCons (eVar 8) aNil)))) (sL fun _ => sNil))
        (sRetG (eGM c (F_Box_take c) [] (fun _ => (eVar 0)) (fun _ => (aCons (eVar 8) (aCons (eVar 9) aNil))))))))) g [.sh (.bx c roll k), .sh (.rf m), .sh (.lst (roll.map .str)), .sh (.lst (xs.map .int)), .sh (.int cell), .own (.lst (ws.map .str)), .sh (tD S), .sh (.int T), .sh (.str (txt ws)), .sh (.int v), .emp] = some (gset (gset g m (putI kvs S (T - w))) k (putI kvs S (T - w)), .rt .non false) := by
      rw [sSeqG_nx (g1 := g) (ρ1 := [.sh (.bx c roll k), .sh (.rf m), .sh (.lst (roll.map .str)), .sh (.lst (xs.map .int)), .sh (.int cell), .own (.lst (ws.map .str)), .sh (tD S), .sh (.int T), .sh (.str (txt ws)), .sh (.int (if T < v then T else v)), .emp]) (sL_nx (by simp [cMin2])),
        sSeqG_nx (g1 := g) (ρ1 := [.sh (.bx c roll k), .sh (.rf m), .sh (.lst (roll.map .str)), .sh (.lst (xs.map .int)), .sh (.int cell), .own (.lst (ws.map .str)), .sh (tD S), .sh (.int T), .sh (.str (txt ws)), .sh (.int w), .emp]) (sL_nx (by
          by_cases c9 : x9 % 3 = 0
          · rw [if_pos c9] at hw9
            subst hw9
            simp [a9, c9]
          · rw [if_neg c9] at hw9
            subst hw9
            simp [a9, c9])),
        sSeqG_nx (sGPut_at (n := T - w) (a := m) (q := S) (kvs := kvs) (m1 := .av) (m2 := .av) (m3 := .av) (by simp) (by simp) (by simp [tD]) hm (by omega))]
      have ht := htake (gset g m (putI kvs S (T - w))) (g1k _) w w1 w2
      by_cases cw : w = 1 ∧ x9 % 2 = 1
      · refine sSeqG_rt ?_
        rw [sIfG_t (by simp [a9, cw.1, cw.2])]
        refine sRetG_at ?_
        rw [eGM_at (b := .bx c roll k) (rs := [⟨.str (txt ws), .av⟩]) (by simp) (by simp) (by simp)]
        rw [cw.1] at ht ⊢
        exact ht
      · rw [sSeqG_nx (g1 := gset g m (putI kvs S (T - w))) (ρ1 := [.sh (.bx c roll k), .sh (.rf m), .sh (.lst (roll.map .str)), .sh (.lst (xs.map .int)), .sh (.int cell), .own (.lst (ws.map .str)), .sh (tD S), .sh (.int T), .sh (.str (txt ws)), .sh (.int w), .emp]) (by
          rw [sIfG_f (by
            by_cases c1 : w = 1
            · have c2 : ¬ x9 % 2 = 1 := fun z => cw ⟨c1, z⟩
              simp [a9, c1, c2]
            · simp [a9, c1])]
          exact sL_nx rfl)]
        refine sRetG_at ?_
        rw [eGM_at (b := .bx c roll k) (rs := [⟨.str (txt ws), .av⟩, ⟨.int w, .av⟩]) (by simp) (by simp) (by simp)]
        exact ht
    refine sSeqG_rt ?_
    rw [sIfG_t (by simp [a0, ct.1, ct.2])]
    exact fin
  · refine ⟨putI kvs S (T + v), ⟨S, T + v, hSm, hSl, by omega, rfl⟩, head _ ?_⟩
    rw [sSeqG_nx (g1 := g) (ρ1 := [.sh (.bx c roll k), .sh (.rf m), .sh (.lst (roll.map .str)), .sh (.lst (xs.map .int)), .sh (.int cell), .own (.lst (ws.map .str)), .sh (tD S), .sh (.int T), .sh (.str (txt ws)), .sh (.int v), .emp]) (by
        rw [sIfG_f (by
          by_cases c1 : x0 % 3 = 0
          · have c2 : ¬ 0 < T := fun z => ct ⟨c1, z⟩
            simp [a0, c1, c2]
          · simp [a0, c1])]
        exact sL_nx rfl),
      sSeqG_nx (sGPut_at (n := T + v) (a := m) (q := S) (kvs := kvs) (m1 := .av) (m2 := .av) (m3 := .av) (by simp) (by simp) (by simp [tD]) hm (by omega))]
    have ht := hput (gset g m (putI kvs S (T + v))) (g1k _) v hv1
    by_cases cw : v = 1 ∧ x9 % 2 = 1
    · refine sSeqG_rt ?_
      rw [sIfG_t (by simp [a9, cw.1, cw.2])]
      refine sRetG_at ?_
      rw [eGM_at (b := .bx c roll k) (rs := [⟨.str (txt ws), .av⟩]) (by simp) (by simp) (by simp)]
      rw [cw.1] at ht ⊢
      exact ht
    · rw [sSeqG_nx (g1 := gset g m (putI kvs S (T + v))) (ρ1 := [.sh (.bx c roll k), .sh (.rf m), .sh (.lst (roll.map .str)), .sh (.lst (xs.map .int)), .sh (.int cell), .own (.lst (ws.map .str)), .sh (tD S), .sh (.int T), .sh (.str (txt ws)), .sh (.int v), .emp]) (by
        rw [sIfG_f (by
          by_cases c1 : v = 1
          · have c2 : ¬ x9 % 2 = 1 := fun z => cw ⟨c1, z⟩
            simp [a9, c1, c2]
          · simp [a9, c1])]
        exact sL_nx rfl)]
      refine sRetG_at ?_
      rw [eGM_at (b := .bx c roll k) (rs := [⟨.str (txt ws), .av⟩, ⟨.int v, .av⟩]) (by simp) (by simp) (by simp)]
      exact ht
/-! the law's loop -/
theorem loopG_all {α : Type} {tgt : GF} {body : SG} (e : α → D) (P : Nat → GSt → En → Prop) : ∀ {l : List α} {i : Nat} {g : GSt} {ρ : En}, P i g ρ → (∀ (k : Nat) (a : α) (g : GSt) (ρ : En), l[k]? = some a → P (i + k) g ρ → ∃ ρ1 g' ρ2, tgt ⟨e a, .av⟩ ρ = some ρ1 ∧ body g ρ1 = some (g', .nx ρ2) ∧ P (i + k + 1) g' ρ2) → ∃ g' ρ', loopG tgt body (l.map e) g ρ = some (g', .nx ρ') ∧ P (i + l.length) g' ρ'
  | [], i, g, ρ, h0, _ => ⟨g, ρ, rfl, h0⟩
  | a :: l, i, g, ρ, h0, h => by
    obtain ⟨ρ1, g1, ρ2, h1, h2, h3⟩ := h 0 a g ρ rfl h0
    obtain ⟨g', ρ', h4, h5⟩ := loopG_all (l := l) (i := i + 1) e P h3 fun k b g ρ hb hp => by
      have := h (k + 1) b g ρ (by simpa using hb) (by rw [show i + (k + 1) = i + 1 + k by omega]; exact hp)
      rw [show i + (k + 1) + 1 = i + 1 + k + 1 by omega] at this
      exact this
    refine ⟨g', ρ', ?_, by rw [List.length_cons, show i + (l.length + 1) = i + 1 + l.length by omega]; exact h5⟩
    rw [List.map_cons, loopG, h1, Option.bind_some, h2]
    exact h4
theorem eGC_at {F : FG} {fa : AG} {g : GSt} {ρ : En} {rs : List R} (h2 : fa g ρ = some rs) (h3 : okL rs = true) : eGC F fa g ρ = F g (rs.map R.d) := by
  unfold eGC
  rw [h2, Option.bind_some, if_pos h3]
theorem sIfNN_at {fe : EG} {f h : SG} {g g' : GSt} {ρ : En} (e : fe g ρ = some (g', .inl .non)) : sIfNN fe f h g ρ = h g' ρ := by
  unfold sIfNN oG
  rw [e]
theorem kvok_next {n : Nat} {kvs kv' : Tb} (h : KvOk n kvs) (hl : kvs.length < 800) (x : Nxt52 n kvs kv') : KvOk n kv' ∧ kv'.length ≤ kvs.length + 1 := by
  obtain ⟨S, v, h1, h2, h3, rfl⟩ := x
  have := putI_len kvs S v
  refine ⟨⟨by omega, fun p hp => ?_⟩, this⟩
  rcases putI_mem hp with z | z
  · exact h.h p z
  · rw [z]
    exact ⟨h1, h2, h3⟩
/-- what holds of a box and the law's table beside it -/
structure Two (g : GSt) (k m : Addr) (n i : Nat) : Prop where
  ex : ∃ kvs, g.st k = some kvs ∧ g.st m = some kvs ∧ KvOk n kvs ∧ kvs.length ≤ i
theorem Two.keep {g : GSt} {k m k' m' : Addr} {n i : Nat} {kv kv2 : Tb} (h : Two g k m n i) (h1 : k ≠ k') (h2 : k ≠ m') (h3 : m ≠ k') (h4 : m ≠ m') : Two (gset (gset g m' kv) k' kv2) k m n i := by
  obtain ⟨kvs, a, b, c, d⟩ := h.ex
  exact ⟨kvs, by rw [gset_ne h1, gset_ne h2]; exact a, by rw [gset_ne h3, gset_ne h4]; exact b, c, d⟩
theorem Two.more {g : GSt} {k m : Addr} {n i : Nat} (h : Two g k m n i) : Two g k m n (i + 1) := by
  obtain ⟨kvs, a, b, c, d⟩ := h.ex
  exact ⟨kvs, a, b, c, by omega⟩
theorem right_two {g : GSt} {c k m : Addr} {roll : List Str} (hr : Roll roll) {i : Nat} (h : Two g k m roll.length i) (b : Bool) : @F_law_right g c [.bx c roll k, .rf m, .bl b] = some (.val (.bl true) false) := by
  obtain ⟨kvs, h1, h2, h3, h4⟩ := h.ex
  exact @right_eq g c k m roll hr kvs h1 h2 h3 b
theorem move_two {g : GSt} {c k m : Addr} {roll : List Str} (hr : Roll roll) {i : Nat} (hi : i < 800) (hkm : k ≠ m) (h : Two g k m roll.length i) (xs : List Int) (hx : xs.length = 12) (h0 : ∀ x ∈ xs, 0 ≤ x) (cell : Int) :
    ∃ kv, F_law_moved c g [.bx c roll k, .rf m, .lst (roll.map .str), .lst (xs.map .int), .int cell] = some (gset (gset g m kv) k kv, .inl .non) ∧ Two (gset (gset g m kv) k kv) k m roll.length (i + 1) := by
  obtain ⟨kvs, h1, h2, h3, h4⟩ := h.ex
  obtain ⟨kv', n1, e⟩ := moved_eq g c k m roll hr xs hx h0 cell kvs h1 h2 hkm h3.l fun p hp => (h3.h p hp).2.2
  obtain ⟨q1, q2⟩ := kvok_next h3 (by omega) n1
  exact ⟨kv', e, kv', gset_same, by rw [gset_ne hkm.symm, gset_same], q1, by omega⟩
theorem tail_true (c k0 k1 m0 m1 : Addr) (roll : List Str) (hr : Roll roll) (hr' : Roll roll.reverse) (d1 : k0 ≠ k1) (d2 : k0 ≠ m0) (d3 : k0 ≠ m1) (d4 : k1 ≠ m0) (d5 : k1 ≠ m1) (d6 : m0 ≠ m1) (g : GSt) (h0 : g.st k0 = some []) (h1 : g.st k1 = some []) (h2 : g.st m0 = some []) (h3 : g.st m1 = some []) (ns : List Int) (s1 s3 : Sl) :
    ∃ g', b_law c g [.sh (.ro ns), s1, .sh (.lst [.lst (roll.map .str), .lst (roll.reverse.map .str)]), s3, .sh (.lst [.bx c roll k0, .bx c roll.reverse k1]), .sh (.lst [.rf m0, .rf m1]), .emp, .emp, .emp] = some (g', .rt (.bl true) false) := by
  have nil : ∀ n, KvOk n [] := fun n => ⟨by decide, fun p hp => by cases hp⟩
  obtain ⟨l, hl, el⟩ : ∃ l : List Int, l.length ≤ 57 ∧ cutG ns (some 6) (some 63) = l := ⟨_, by
    unfold cutG HT.sIx
    simp only [show ¬ ((6 : Int) < 0) from by decide, show ¬ ((63 : Int) < 0) from by decide, if_false]
    rw [List.length_take]
    have e1 : (6 : Int).toNat = 6 := rfl
    have e2 : (63 : Int).toNat = 63 := rfl
    rw [e1, e2]
    omega, rfl⟩
  obtain ⟨g', ρ', q1, s6, s7, s8, t0, t1, q2⟩ := loopG_all (tgt := tgName 6) (body := B_law_1 c) (l := l) D.int (fun i g ρ => ∃ s6 s7 s8, Two g k0 m0 roll.length i ∧ Two g k1 m1 roll.reverse.length i ∧ ρ = [.sh (.ro ns), s1, .sh (.lst [.lst (roll.map .str), .lst (roll.reverse.map .str)]), s3, .sh (.lst [.bx c roll k0, .bx c roll.reverse k1]), .sh (.lst [.rf m0, .rf m1]), s6, s7, s8]) (i := 0) (g := g) (ρ := [.sh (.ro ns), s1, .sh (.lst [.lst (roll.map .str), .lst (roll.reverse.map .str)]), s3, .sh (.lst [.bx c roll k0, .bx c roll.reverse k1]), .sh (.lst [.rf m0, .rf m1]), .emp, .emp, .emp]) ⟨_, _, _, ⟨[], h0, h2, nil _, Nat.le_refl _⟩, ⟨[], h1, h3, nil _, Nat.le_refl _⟩, rfl⟩ (by
    rintro j cell g ρ hj ⟨s6, s7, s8, t0, t1, rfl⟩
    have hj' := (List.getElem?_eq_some_iff.mp hj).1
    obtain ⟨xs, x1, x2, x3⟩ := mixed_eq cell
    have ha : ∀ j : Nat, j < 12 → atI (xs.map D.int) (j : Int) = some (.int (xs.getD j 0)) := fun j hj => atI_nat (by rw [List.getElem?_map, List.getElem?_eq_getElem (by omega)]; simp [List.getD, List.getElem?_eq_getElem (show j < xs.length by omega)])
    have a10 : atI (xs.map D.int) 10 = some (.int (xs.getD 10 0)) := ha 10 (by decide)
    have a11 : atI (xs.map D.int) 11 = some (.int (xs.getD 11 0)) := ha 11 (by decide)
    generalize xs.getD 10 0 = x10 at a10
    generalize xs.getD 11 0 = x11 at a11
    obtain ⟨b, hb⟩ : ∃ b : Bool, decide (x11 % 2 = 1) = b := ⟨_, rfl⟩
    rcases (by omega : x10 % 2 = 0 ∨ x10 % 2 = 1) with e | e
    · obtain ⟨kv, m1', m2'⟩ := move_two (c := c) hr (i := 0 + j) (by omega) d2 t0 xs x1 x2 cell
      have t1' := (t1.keep (kv := kv) (kv2 := kv) d1.symm d4 d3.symm d6.symm).more
      have rt := right_two (c := c) hr m2' b
      refine ⟨_, _, _, rfl, ?_, .sh (.int cell), .sh (.lst (xs.map .int)), .sh (.int 0), m2', t1', rfl⟩
      unfold B_law_1
      rw [sSeqG_nx (g1 := g) (ρ1 := [.sh (.ro ns), s1, .sh (.lst [.lst (roll.map .str), .lst (roll.reverse.map .str)]), s3, .sh (.lst [.bx c roll k0, .bx c roll.reverse k1]), .sh (.lst [.rf m0, .rf m1]), .sh (.int cell), .own (.lst (xs.map .int)), s8]) (sL_nx (by simp [x3])),
        sSeqG_nx (g1 := g) (ρ1 := [.sh (.ro ns), s1, .sh (.lst [.lst (roll.map .str), .lst (roll.reverse.map .str)]), s3, .sh (.lst [.bx c roll k0, .bx c roll.reverse k1]), .sh (.lst [.rf m0, .rf m1]), .sh (.int cell), .sh (.lst (xs.map .int)), .sh (.int 0)]) (sL_nx (by simp [a10, e])),
        sSeqG_nx (g1 := gset (gset g m0 kv) k0 kv) (ρ1 := [.sh (.ro ns), s1, .sh (.lst [.lst (roll.map .str), .lst (roll.reverse.map .str)]), s3, .sh (.lst [.bx c roll k0, .bx c roll.reverse k1]), .sh (.lst [.rf m0, .rf m1]), .sh (.int cell), .sh (.lst (xs.map .int)), .sh (.int 0)]) (by
          rw [sIfNN_at (g' := gset (gset g m0 kv) k0 kv) (by
            rw [eGC_at (rs := [⟨.bx c roll k0, .av⟩, ⟨.rf m0, .av⟩, ⟨.lst (roll.map .str), .av⟩, ⟨.lst (xs.map .int), .av⟩, ⟨.int cell, .av⟩]) (by rfl) (by rfl)]
            exact m1')]
          exact sL_nx rfl)]
      exact sL_nx (by
        have z0 : atI [D.bx c roll k0, D.bx c roll.reverse k1] 0 = some (.bx c roll k0) := rfl
        have z1 : atI [D.rf m0, D.rf m1] 0 = some (.rf m0) := rfl
        simp [z0, z1, a11, hb, rt])
    · obtain ⟨kv, m1', m2'⟩ := move_two (c := c) hr' (i := 0 + j) (by omega) d5 t1 xs x1 x2 cell
      have t0' := (t0.keep (kv := kv) (kv2 := kv) d1 d3 d4.symm d6).more
      have rt := right_two (c := c) hr' m2' b
      refine ⟨_, _, _, rfl, ?_, .sh (.int cell), .sh (.lst (xs.map .int)), .sh (.int 1), t0', m2', rfl⟩
      unfold B_law_1
      rw [sSeqG_nx (g1 := g) (ρ1 := [.sh (.ro ns), s1, .sh (.lst [.lst (roll.map .str), .lst (roll.reverse.map .str)]), s3, .sh (.lst [.bx c roll k0, .bx c roll.reverse k1]), .sh (.lst [.rf m0, .rf m1]), .sh (.int cell), .own (.lst (xs.map .int)), s8]) (sL_nx (by simp [x3])),
        sSeqG_nx (g1 := g) (ρ1 := [.sh (.ro ns), s1, .sh (.lst [.lst (roll.map .str), .lst (roll.reverse.map .str)]), s3, .sh (.lst [.bx c roll k0, .bx c roll.reverse k1]), .sh (.lst [.rf m0, .rf m1]), .sh (.int cell), .sh (.lst (xs.map .int)), .sh (.int 1)]) (sL_nx (by simp [a10, e])),
        sSeqG_nx (g1 := gset (gset g m1 kv) k1 kv) (ρ1 := [.sh (.ro ns), s1, .sh (.lst [.lst (roll.map .str), .lst (roll.reverse.map .str)]), s3, .sh (.lst [.bx c roll k0, .bx c roll.reverse k1]), .sh (.lst [.rf m0, .rf m1]), .sh (.int cell), .sh (.lst (xs.map .int)), .sh (.int 1)]) (by
          rw [sIfNN_at (g' := gset (gset g m1 kv) k1 kv) (by
            rw [eGC_at (rs := [⟨.bx c roll.reverse k1, .av⟩, ⟨.rf m1, .av⟩, ⟨.lst (roll.reverse.map .str), .av⟩, ⟨.lst (xs.map .int), .av⟩, ⟨.int cell, .av⟩]) (by rfl) (by rfl)]
            exact m1')]
          exact sL_nx rfl)]
      exact sL_nx (by
        have z0 : atI [D.bx c roll k0, D.bx c roll.reverse k1] 1 = some (.bx c roll.reverse k1) := rfl
        have z1 : atI [D.rf m0, D.rf m1] 1 = some (.rf m1) := rfl
        simp [z0, z1, a11, hb, rt]))
  subst q2
  have r0 := right_two (c := c) hr t0 true
  have r1 := right_two (c := c) hr' t1 false
  refine ⟨g', ?_⟩
  unfold b_law
  rw [sSeqG_nx (g1 := g') (ρ1 := [.sh (.ro ns), s1, .sh (.lst [.lst (roll.map .str), .lst (roll.reverse.map .str)]), s3, .sh (.lst [.bx c roll k0, .bx c roll.reverse k1]), .sh (.lst [.rf m0, .rf m1]), s6, s7, s8]) (by
    unfold sForG
    rw [show iL (eSl (eVar 0) (oSome (eC (.int 6))) (oSome (eC (.int 63)))) [.sh (.ro ns), s1, .sh (.lst [.lst (roll.map .str), .lst (roll.reverse.map .str)]), s3, .sh (.lst [.bx c roll k0, .bx c roll.reverse k1]), .sh (.lst [.rf m0, .rf m1]), .emp, .emp, .emp] = some (l.map D.int) from by simp [iL, el, Md.ok]]
    exact q1)]
  exact sL_rt (by
    have z0 : atI [D.bx c roll k0, D.bx c roll.reverse k1] 0 = some (.bx c roll k0) := rfl
    have z1 : atI [D.rf m0, D.rf m1] 0 = some (.rf m0) := rfl
    have z2 : atI [D.bx c roll k0, D.bx c roll.reverse k1] 1 = some (.bx c roll.reverse k1) := rfl
    have z3 : atI [D.rf m0, D.rf m1] 1 = some (.rf m1) := rfl
    simp [z0, z1, z2, z3, r0, r1])
/-! the law's head -/
theorem roll_rev {roll : List Str} (h : Roll roll) : Roll roll.reverse := ⟨by rw [List.length_reverse]; exact h.l1, by rw [List.length_reverse]; exact h.l6, fun x hx => h.w x (List.mem_reverse.mp hx), List.pairwise_reverse.mpr (h.nd.imp fun z => z.symm)⟩
theorem lst2 [γ : GSt] {K : PySem.W.Frag} {X : Cx} {e0 e1 : Expr} {te0 te1 : TE} {f0 f1 : EF} {i : Nat} {x : Str} {p p2 pos : Pos} (hN : X.N.Nodup) (h0 : GE K X e0 te0 f0) (h1 : GE K X e1 te1 f1) (hi : X.N[i]? = some x := by rfl) (hx : Loc X.env.scope x := by first | exact Or.inl rfl | exact Or.inr rfl)
    (ha : starEach [e0, e1] X.env = (false, eval e0 X.env) :: starEach [e1] X.env := by rfl) (hb : starEach [e1] X.env = (false, eval e1 X.env) :: starEach [] X.env := by rfl)
    (hs : swapsWith (.List [e0, e1] p2) (some (.Name x p)) pos.line X.env = pure false := by rfl) (hf : X.fn x = true ∨ X.env.scope.names.lookup x = some .local := by first | exact .inl rfl | exact .inr rfl) :
    PS X (.Assign [.Name x p] (.List [e0, e1] p2) pos) (tAsg (tLst (tCons te0 (tCons te1 tNil))) (gName i)) ∧ SemE K te0 f0 ∧ SemE K te1 f1 := ⟨ps_set hN hi hx (pe_lst (pa_cons h0.p (pa_cons h1.p pa_nil hb) ha)) hs hf, h0.s, h1.s⟩
section
variable {P : Program} {w : World} {K : PySem.W.Frag} {mg : Str → Option Value} {base : Heap}
theorem ok_init {f : Addr} {fd : FuncData} {c_Box f_roll_of : Addr} {fd_roll_of : FuncData} (F : Fun K "__init__" "Box.__init__" (clsS 18 0) f fd) (B_Box : BxC K c_Box) (G_roll_of : FnOk P w K mg base (L2.CX P w) 2 f_roll_of fd_roll_of ["words"] (spD K mg 1 F_roll_of)) (g_roll_of : DefTxt K mg "roll_of" f_roll_of fd_roll_of ["words"]) : FnOk P w K mg base (L2.CX P w) 3 f fd ["self", "words"] (spInit K c_Box F_roll_of) := by
  have sc : FnScope ["self", "words"] ["self", "words"] (defScope (clsS 18 0)) := ⟨rfl, rfl, rfl, by decide +kernel, rfl, by decide +kernel, by decide +kernel⟩
  refine F.okX sc (fun vs H Q E h => ?_) (fun cdv A outer s H vs Q E hr h => ?_)
  · obtain ⟨x, v, dx, roll, rfl, _⟩ := h
    rfl
  · exact ⟨_, pss_cons (ps_fld (pe_var (i := 0) rfl (.inl rfl)) (pe_call G_roll_of (hr.mono (by decide)) rfl g_roll_of.1 g_roll_of.2.1 g_roll_of.2.2 .nil passF (pa_cons (pe_var (i := 1) rfl (.inl rfl)) pa_nil)) rfl) (pss_one (ps_fld (pe_var (i := 0) rfl (.inl rfl)) pe_dnewT rfl)), init_t B_Box h⟩
end
section
variable {P : Program} {w : World} {K : PySem.W.Frag} {mg : Str → Option Value} {base : Heap}
theorem ok_law52 {f f_init : Addr} {fd fd_init : FuncData} {c_Box f_law_words f_law_cell_at f_law_mixed f_law_moved f_law_right : Addr} {fd_law_words fd_law_cell_at fd_law_mixed fd_law_moved fd_law_right : FuncData} (F : Fun K "law" "law" (topS 33) f fd) (m_list : mg "list" = none)
    (K_Box : Mk K c_Box f_init ∧ mg "Box" = some (.ref c_Box)) (G_init : FnOk P w K mg base (L2.CX P w) 3 f_init fd_init ["self", "words"] (spInit K c_Box F_roll_of)) (b_init : Binds K fd_init ["self", "words"] [])
    (G_law_words : FnOk P w K mg base CX0 2 f_law_words fd_law_words ["_law_script", "_law_at", "_law_many"] (spD K mg 3 F_law_words)) (g_law_words : DefTxt K mg "_law_words" f_law_words fd_law_words ["_law_script", "_law_at", "_law_many"])
    (G_law_cell_at : FnOk P w K mg base CX0 1 f_law_cell_at fd_law_cell_at ["_law_script", "_law_k"] (spD K mg 2 F_law_cell_at)) (g_law_cell_at : DefTxt K mg "_law_cell_at" f_law_cell_at fd_law_cell_at ["_law_script", "_law_k"])
    (G_law_mixed : FnOk P w K mg base CX0 1 f_law_mixed fd_law_mixed ["_law_cell", "_law_many"] (spD K mg 2 F_law_mixed)) (g_law_mixed : DefTxt K mg "_law_mixed" f_law_mixed fd_law_mixed ["_law_cell", "_law_many"])
    (G_law_moved : FnOk P w K mg base (L2.CX P w) 3 f_law_moved fd_law_moved ["_law_box", "_law_kept", "_law_roll", "_law_xs", "_law_cell"] (spG K mg 5 (F_law_moved c_Box))) (g_law_moved : DefTxt K mg "_law_moved" f_law_moved fd_law_moved ["_law_box", "_law_kept", "_law_roll", "_law_xs", "_law_cell"])
    (G_law_right : FnOk P w K mg base CX0 9 f_law_right fd_law_right ["_law_box", "_law_kept", "_law_first"] (spR K mg 3 fun g => @F_law_right g c_Box)) (g_law_right : DefTxt K mg "_law_right" f_law_right fd_law_right ["_law_box", "_law_kept", "_law_first"])
    (ht : PySem.W.tabIn K lamF = none) : FnOk P w K mg base CX0 10 f fd ["_law_script"] (spLaw K) := by
  refine F.ok sc_law (fun vs H Q E h => ?_) (fun cdv A outer s H vs Q E hr h => ?_)
  · obtain ⟨a, ns, hv, _⟩ := h
    rw [hv]
    rfl
  obtain ⟨a, ns, hv, hs, hl, q⟩ := h
  subst hv
  have nd := sc_law.nd
  obtain ⟨tt, gt⟩ := ok_tail (P := P) (w := w) (K := K) (mg := mg) (base := base) (c_Box := c_Box) (H := H) (E := E) hr G_law_mixed g_law_mixed G_law_moved g_law_moved G_law_right g_law_right
  obtain ⟨t0, h0⟩ : ∃ t, @GS gTriv K (cxOf CX0 P w K mg base N_law "law" (defScope (topS 33)) f cdv A outer s H E).nox (WN mg fun _ _ _ => False) ((defBody (topS 33)).getD 0 (.Pass ⟨0, 0, 0, 0⟩)) t (sSet 1 (eCall F_law_words [] (aCons (eVar 0) (aCons (eC (.int 1)) (aCons (eOp vAdd (eC (.int 1)) (eOp vMod (eCall F_law_cell_at [] (aCons (eVar 0) (aCons (eC (.int 0)) aNil))) (eC (.int 6)))) aNil))))) :=
    ⟨_, (gs_set (i := 1) nd (ge_call G_law_words (hr.mono (by decide)) g_law_words.1 g_law_words.2.1 g_law_words.2.2 .nil (fun _ => .nil) pass0 (ga_cons (ge_var 0) (ga_cons ge_int (ga_cons (ge_bin sv_add op_addA ge_int (ge_bin sv_mod op_mod (ge_call G_law_cell_at (hr.mono (by decide)) g_law_cell_at.1 g_law_cell_at.2.1 g_law_cell_at.2.2 .nil (fun _ => .nil) pass0 (ga_cons (ge_var 0) (ga_cons ge_int ga_nil)) (argN_cons (argN_cons argN_nil))) ge_int)) ga_nil))) (argN_cons (argN_cons (argN_cons argN_nil)))))⟩
  obtain ⟨t1, h1⟩ : ∃ t, @GS gTriv K (cxOf CX0 P w K mg base N_law "law" (defScope (topS 33)) f cdv A outer s H E).nox (WN mg fun _ _ _ => False) ((defBody (topS 33)).getD 1 (.Pass ⟨0, 0, 0, 0⟩)) t (sFz 1 (sSet 2 (eLst (aCons (eVar 1) (aCons (eRev (eVar 1)) aNil))))) :=
    ⟨_, (gs_fz 1 (gs_set (i := 2) nd (ge_lst (ga_cons (ge_var 1) (ga_cons (ge_rev (ge_var 1)) ga_nil)))))⟩
  obtain ⟨te0, te1, p2, s20, s21⟩ : ∃ te0 te1, PS (cxOf CX0 P w K mg base N_law "law" (defScope (topS 33)) f cdv A outer s H E).nox ((defBody (topS 33)).getD 2 (.Pass ⟨0, 0, 0, 0⟩)) (tAsg (tLst (tCons te0 (tCons te1 tNil))) (gName 3)) ∧ @SemE gTriv K te0 (eCB cLst (aCons (eVar 1) aNil)) ∧ @SemE gTriv K te1 (eRev (eVar 1)) :=
    ⟨_, _, lst2 nd (ge_callTy sc_lst call_list_of rfl m_list (by decide +kernel) (ga_cons (ge_var 1) ga_nil)) (ge_rev (ge_var 1))⟩
  have p3 : PS (cxOf CX0 P w K mg base N_law "law" (defScope (topS 33)) f cdv A outer s H E).nox ((defBody (topS 33)).getD 3 (.Pass ⟨0, 0, 0, 0⟩)) (tAsg (tLst (tCons (tMake c_Box (spInit K c_Box F_roll_of) [] (fun _ _ _ => False) (tCons (tOp (rIx K) (tVar 3) (tC (.int 0))) tNil)) (tCons (tMake c_Box (spInit K c_Box F_roll_of) [] (fun _ _ _ => False) (tCons (tOp (rIx K) (tVar 3) (tC (.int 1))) tNil)) tNil))) (gName 4)) :=
    ps_set nd rfl (.inl rfl) (pe_lst (pa_cons (pe_make K_Box.1 G_init (hr.mono (by decide)) rfl K_Box.2 b_init .nil passF (pa_cons (pe_ix ix_seq (pe_var rfl (.inl rfl)) pe_int (fun _ _ => rfl)) pa_nil)) (pa_cons (pe_make K_Box.1 G_init (hr.mono (by decide)) rfl K_Box.2 b_init .nil passF (pa_cons (pe_ix ix_seq (pe_var rfl (.inl rfl)) pe_int (fun _ _ => rfl)) pa_nil)) pa_nil)))
  have p4 : PS (cxOf CX0 P w K mg base N_law "law" (defScope (topS 33)) f cdv A outer s H E).nox ((defBody (topS 33)).getD 4 (.Pass ⟨0, 0, 0, 0⟩)) (tDrop (tBM0 K "list" rReverse (tOp (rIx K) (tVar 3) (tC (.int 0))))) :=
    ps_expr (pe_bm0 PySem.F.plainAttrs_list PySem.F.slot_list_reverse PySem.F.type_list_reverse mt_reverse (pe_ix ix_seq (pe_var rfl (.inl rfl)) pe_int (fun _ _ => rfl))) rfl
  have p5 : PS (cxOf CX0 P w K mg base N_law "law" (defScope (topS 33)) f cdv A outer s H E).nox ((defBody (topS 33)).getD 5 (.Pass ⟨0, 0, 0, 0⟩)) (tDrop (tBM0 K "list" rClear (tOp (rIx K) (tVar 3) (tC (.int 1))))) :=
    ps_expr (pe_bm0 PySem.F.plainAttrs_list PySem.F.slot_list_clear PySem.F.type_list_clear mt_clear (pe_ix ix_seq (pe_var rfl (.inl rfl)) pe_int (fun _ _ => rfl))) rfl
  have p6 : PS (cxOf CX0 P w K mg base N_law "law" (defScope (topS 33)) f cdv A outer s H E).nox ((defBody (topS 33)).getD 6 (.Pass ⟨0, 0, 0, 0⟩)) (tAsg (tLst (tCons tDNewT (tCons tDNewT tNil))) (gName 5)) :=
    ps_set nd rfl (.inl rfl) (pe_lst (pa_cons pe_dnewT (pa_cons pe_dnewT pa_nil)))
  refine ⟨_, pss_cons h0.p (pss_cons h1.p (pss_cons p2 (pss_cons p3 (pss_cons p4 (pss_cons p5 (pss_cons p6 gt.p)))))), ?_⟩
  clear p2 p3 p4 p5 p6
  -- the words
  obtain ⟨c0, ec0⟩ := cell_at_eq ns 0
  obtain ⟨roll, hR, rl, ew⟩ := words_eq ns (1 + c0 % 6).toNat (by omega) (by omega)
  rw [show (((1 + c0 % 6).toNat : Nat) : Int) = 1 + c0 % 6 by omega] at ew
  have ec0' : F_law_cell_at [.ro ns, .int 0] = some (.val (.int c0) false) := ec0
  have hR' := roll_rev hR
  have hT : TabsK K H := fun c P z => by rw [ht] at z; cases z
  have S0 := @start_ok gTriv K (fun _ => False) H N_law [.ref a] [.ro ns] 8 rfl (pok_no _) hT (.cons (.ro (Sme.sqL (hide_no H) hs)) .nil)
  have S0' : @StOk gTriv K (fun _ => False) (fun _ => none) H (L2.start N_law [.ref a]) [.sh (.ro ns), .emp, .emp, .emp, .emp, .emp, .emp, .emp, .emp] := @StOk.rebase gTriv _ _ _ _ _ _ _ ⟨fun b o z => (by cases z), fun b o z => (by cases z)⟩ S0
  refine h0.s (fun _ => False) (fun _ => none) _ H _ (.nx [.sh (.ro ns), .own (.lst (roll.map .str)), .emp, .emp, .emp, .emp, .emp, .emp, .emp]) S0' (by simp [ec0', ew]) _ fun σ1 H1 S1 => ?_
  refine h1.s (fun _ => False) (fun _ => none) _ H1 _ (.nx [.sh (.ro ns), .sh (.lst (roll.map .str)), .own (.lst [.lst (roll.map .str), .lst (roll.reverse.map .str)]), .emp, .emp, .emp, .emp, .emp, .emp]) S1 (by simp) _ fun σ2 H2 S2o => ?_
  have S2 : @StOk gTriv K (fun _ => False) (fun _ => none) H2 σ2 [.sh (.ro ns), .sh (.lst (roll.map .str)), .sh (.lst [.lst (roll.map .str), .lst (roll.reverse.map .str)]), .emp, .emp, .emp, .emp, .emp, .emp] := StOk.freeze (γ := gTriv) (i := 2) S2o rfl
  -- the lists handed in
  have ev0 : (eCB cLst (aCons (eVar 1) aNil)) [.sh (.ro ns), .sh (.lst (roll.map .str)), .sh (.lst [.lst (roll.map .str), .lst (roll.reverse.map .str)]), .emp, .emp, .emp, .emp, .emp, .emp] = some ⟨.lst (roll.map .str), .fr⟩ := by
    have h6 := hR.l6
    have h7 : roll.length ≤ 100000 := by omega
    simp [h7]
  have ev1 : (eRev (eVar 1)) [.sh (.ro ns), .sh (.lst (roll.map .str)), .sh (.lst [.lst (roll.map .str), .lst (roll.reverse.map .str)]), .emp, .emp, .emp, .emp, .emp, .emp] = some ⟨.lst (roll.reverse.map .str), .fr⟩ := by simp
  have E2 := @StOk.env gTriv _ _ _ _ _ _ S2
  refine s20 _ σ2 H2 _ _ E2 ev0 _ fun v0 Ha sa ⟨a0, ev0', hn0, ws0, hw0, rp0⟩ => ?_
  refine s21 _ σ2 Ha _ _ (@EnvOk.mono gTriv _ _ _ _ _ _ sa E2) ev1 _ fun v1 Hb sb ⟨a1, ev1', hn1, ws1, hw1, rp1⟩ => ?_
  subst ev0' ev1'
  have ew0 := rp0.strs
  have ew1 := rp1.strs
  subst ew0 ew1
  have n01 : a0 ≠ a1 := fun e => by rw [e, hn1] at hw0; cases hw0
  refine ⟨(show 2 ≤ sizeLine by decide), fun p hp => ?_⟩
  have hb0 : Hb a0 = some (.lst (roll.map V.str)) := sb.toSme.get _ _ hw0 trivial
  have np0 : p ≠ a0 := fun e => by rw [e, hb0] at hp; cases hp
  have np1 : p ≠ a1 := fun e => by rw [e, hw1] at hp; cases hp
  have sc : Same K Hb (upd Hb p (.lst [.ref a0, .ref a1])) := same_upd hp
  have sac := (sa.trans sb).trans sc
  have hc0 : upd Hb p (.lst [.ref a0, .ref a1]) a0 = some (.lst (roll.map V.str)) := by rw [upd_ne np0.symm]; exact hb0
  have hc1 : upd Hb p (.lst [.ref a0, .ref a1]) a1 = some (.lst (roll.reverse.map V.str)) := by rw [upd_ne np1.symm]; exact hw1
  have hcp : upd Hb p (.lst [.ref a0, .ref a1]) p = some (.lst [.ref a0, .ref a1]) := upd_same
  obtain ⟨Hc, eHc⟩ : ∃ Hc, Hc = upd Hb p (.lst [.ref a0, .ref a1]) := ⟨_, rfl⟩
  have go : ∀ (Q : L2.St → Hp → Prop), Q (σ2.set 3 (some (.ref p))) (upd Hb p (.lst [.ref a0, .ref a1])) → gName 3 (.ref p) σ2 (upd Hb p (.lst [.ref a0, .ref a1])) Q := fun Q h => h
  refine go _ ?_
  clear go
  rw [← eHc] at sac hc0 hc1 hcp ⊢
  obtain ⟨Z1, eZ1⟩ : ∃ Z1 : Addr → Prop, Z1 = fun b => b = a0 ∨ b = a1 := ⟨_, rfl⟩
  have z0 : Z1 a0 := by rw [eZ1]; exact .inl rfl
  have z1 : Z1 a1 := by rw [eZ1]; exact .inr rfl
  have zo : ∀ b, Z1 b → b = a0 ∨ b = a1 := fun b h => by rw [eZ1] at h; exact h
  clear eZ1
  have noT : ∀ b, ¬ Fb.gd gTriv b := fun b ⟨l, h⟩ => by cases h
  have S3 : @StOk gTriv K (zs gTriv Z1) (fun _ => none) Hc σ2 _ := moreZ S2 sac (fun b h => h.elim) fun b h => by
    rcases h with h | h
    · rcases zo b h with e | e
      · rw [e]; exact .inr ⟨hn0, _, hc0⟩
      · rw [e]; exact .inr ⟨Sme.none sa.toSme hn1, _, hc1⟩
    · exact absurd h (noT b)
  have npz : ¬ Pz (zs gTriv Z1) σ2 [.sh (.ro ns), .sh (.lst (roll.map .str)), .sh (.lst [.lst (roll.map .str), .lst (roll.reverse.map .str)]), .emp, .emp, .emp, .emp, .emp, .emp] p := fun h => by
    rcases h with (h | h) | h
    · rcases zo p h with e | e
      · exact np0 e
      · exact np1 e
    · exact noT p h
    · obtain ⟨o, h1⟩ := @POk.there gTriv _ _ (@EnvOk.pok gTriv _ _ _ _ _ E2) p (.inr h)
      rw [Sme.none (sa.trans sb).toSme hp] at h1
      cases h1
  have S3' := StOk.setSh (γ := gTriv) (v := .ref p) (d := .lst [.rf a0, .rf a1]) (i := 3) S3 (.lst (hide_some.mpr ⟨npz, hcp⟩) (.cons (.rf a0) (.cons (.rf a1) .nil))) (by show 3 < 9; decide)
  have s3p : (σ2.set 3 (some (.ref p)))[3]? = some (some (.ref p)) := List.getElem?_set_self (by rw [@EnvOk.len gTriv _ _ _ _ _ E2]; show 3 < 9; decide)
  obtain ⟨σ3, eσ3⟩ : ∃ σ3, σ3 = σ2.set 3 (some (.ref p)) := ⟨_, rfl⟩
  rw [← eσ3] at S3' s3p ⊢
  have S3'' : @StOk gTriv K (zs gTriv Z1) (fun _ => none) Hc σ3 [.sh (.ro ns), .sh (.lst (roll.map .str)), .sh (.lst [.lst (roll.map .str), .lst (roll.reverse.map .str)]), .sh (.lst [.rf a0, .rf a1]), .emp, .emp, .emp, .emp, .emp] := S3'
  clear S3' S3 npz
  -- the boxes
  have fb0 : bf gTriv (fun _ => none) := fun _ _ => rfl
  refine boxes_t S3'' fb0 s3p hcp hc0 hc1 (roll_of_eq roll hR) (roll_of_eq _ hR') (by show 4 < 9; decide) fun p' k0 k1 H6 S6 b5 s6 hk0 hk1 nk0 nk1 => ?_
  have d01 : k0 ≠ k1 := fun e => by rw [← e, gset_at] at nk1; cases nk1
  have hp6 := s6.toSme.get _ _ hcp trivial
  have h60 := s6.toSme.get _ _ hc0 trivial
  have h61 := s6.toSme.get _ _ hc1 trivial
  have s4p : (σ3.set 4 (some (.ref p')))[3]? = some (some (.ref p)) := by rw [set_get_ne (by decide)]; exact s3p
  obtain ⟨σ4, eσ4⟩ : ∃ σ4, σ4 = σ3.set 4 (some (.ref p')) := ⟨_, rfl⟩
  rw [← eσ4] at S6 s4p ⊢
  have S6' : @StOk (gset (gset gTriv k0 []) k1 []) K (zs (gset (gset gTriv k0 []) k1 []) Z1) (fun _ => none) H6 σ4 [.sh (.ro ns), .sh (.lst (roll.map .str)), .sh (.lst [.lst (roll.map .str), .lst (roll.reverse.map .str)]), .sh (.lst [.rf a0, .rf a1]), .sh (.lst [.bx c_Box roll k0, .bx c_Box roll.reverse k1]), .emp, .emp, .emp, .emp] := S6
  clear S6
  -- the lists handed in, changed
  have nk : ∀ b, (b = a0 ∨ b = a1) → (gset (gset gTriv k0 []) k1 []).st b = none := fun b hb => by
    have e0 : b ≠ k0 := fun e => by
      rcases hb with z | z
      · rw [← e, z, hc0] at hk0; cases hk0
      · rw [← e, z, hc1] at hk0; cases hk0
    have e1 : b ≠ k1 := fun e => by
      rcases hb with z | z
      · rw [← e, z, hc0] at hk1; cases hk1
      · rw [← e, z, hc1] at hk1; cases hk1
    rw [gset_of e1, gset_of e0]
    rfl
  refine ⟨.ref p, s4p, .inl ⟨p, _, 0, .ref a0, rfl, rfl, SqL.of hp6, rfl, ⟨.inl ⟨rfl, _, SqL.of h60⟩, a0, _, rfl, rfl, h60, ?_⟩⟩⟩
  have S7 := updZ (ys := (roll.map V.str).reverse) S6' (.inl z0) h60 rfl (nk a0 (.inl rfl))
  have hp7 : upd H6 a0 (.lst (roll.map V.str).reverse) p = some (.lst [.ref a0, .ref a1]) := by rw [upd_ne np0]; exact hp6
  have h71 : upd H6 a0 (.lst (roll.map V.str).reverse) a1 = some (.lst (roll.reverse.map V.str)) := by rw [upd_ne n01.symm]; exact h61
  refine ⟨.ref p, s4p, .inl ⟨p, _, 1, .ref a1, rfl, rfl, SqL.of hp7, rfl, ⟨.inl ⟨rfl, _, SqL.of h71⟩, a1, _, rfl, rfl, h71, ?_⟩⟩⟩
  have S8 := updZ (ys := []) S7 (.inl z1) h71 rfl (nk a1 (.inr rfl))
  -- the law's tables
  refine dicts_t S8 b5 (by show 5 < 9; decide) fun p3 m0 m1 H9 Se bd s9 nm0 nm1 => ?_
  have d02 : k0 ≠ m0 := fun e => by rw [← e, gset_of d01, gset_at] at nm0; cases nm0
  have d12 : k1 ≠ m0 := fun e => by rw [← e, gset_at] at nm0; cases nm0
  have d03 : k0 ≠ m1 := fun e => by rw [← e, gset_of d02, gset_of d01, gset_at] at nm1; cases nm1
  have d13 : k1 ≠ m1 := fun e => by rw [← e, gset_of d12, gset_at] at nm1; cases nm1
  have d23 : m0 ≠ m1 := fun e => by rw [← e, gset_at] at nm1; cases nm1
  obtain ⟨g', eg⟩ := tail_true c_Box k0 k1 m0 m1 roll hR hR' d01 d02 d03 d12 d13 d23 (gset (gset (gset (gset gTriv k0 []) k1 []) m0 []) m1 []) (by rw [gset_of d03, gset_of d02, gset_of d01, gset_at]) (by rw [gset_of d13, gset_of d12, gset_at]) (by rw [gset_of d23, gset_at]) gset_at ns (.sh (.lst (roll.map .str))) (.sh (.lst [.rf a0, .rf a1]))
  exact gt.s Z1 (fun _ => none) (gset (gset (gset (gset gTriv k0 []) k1 []) m0 []) m1 []) g' _ _ _ _ Se bd eg _ fun v H' r _ _ _ => by
    obtain ⟨_, _, r⟩ := r
    cases r
    exact q H'
end
end K52
set_option maxHeartbeats 4000000
namespace K52
open PySem PySem.Spec PyProof.Rows L2
open Fb (spLaw law_ok DefTxt IntTxt TupTxt Mk0 MOk MOkX IsiC spLawT law_okT tab_code tab_is lamF ExcTxt IsiE BM BxC FunDS fun_mkD binds_all spG spR)
theorem all_mk {l : PySem.W.OpenLaw} {w : World} {K : PySem.W.Frag} {h : Heap} {mg : Str → Option Value} {fa f1 f2 f3 f4 f5 f6 f7 T7 f8 T8 f9 f10 f11 f12 f13 f14 f15 f16 f17 f18 f19 f20 f21 f22 f23 f24 c_Box C_NoName C_NoCount C_NoHeap C_NoRoll C_NoBallot : Addr} (X : K.In h) (G : h.Ns mainGlobals mg) (hfa : mg "law" = some (.ref fa))
    {od1 an1 : Option Addr} {sl1 : Array (Option Value)} {oc1 kV1 dc1 pm1 cd1 ct1 : Value}
    {od2 an2 : Option Addr} {sl2 : Array (Option Value)} {oc2 kV2 dc2 pm2 cd2 ct2 : Value}
    {od3 an3 : Option Addr} {sl3 : Array (Option Value)} {oc3 kV3 dc3 pm3 cd3 ct3 : Value}
    {od4 an4 : Option Addr} {sl4 : Array (Option Value)} {oc4 kV4 dc4 pm4 cd4 ct4 : Value}
    {od5 an5 : Option Addr} {sl5 : Array (Option Value)} {oc5 kV5 dc5 pm5 cd5 ct5 : Value}
    {od6 an6 : Option Addr} {sl6 : Array (Option Value)} {oc6 kV6 dc6 pm6 cd6 ct6 : Value}
    {od7 an7 : Option Addr} {sl7 : Array (Option Value)} {oc7 kV7 dc7 pm7 cd7 ct7 : Value}
    {odT7 : Option Addr} {slT7 : Array (Option Value)} {ocT7 : Value} {nT7 : Nat} {tT7 : Tok}
    {od8 an8 : Option Addr} {sl8 : Array (Option Value)} {oc8 kV8 dc8 pm8 cd8 ct8 : Value}
    {odT8 : Option Addr} {slT8 : Array (Option Value)} {ocT8 : Value} {nT8 : Nat} {tT8 : Tok}
    {od9 an9 : Option Addr} {sl9 : Array (Option Value)} {oc9 kV9 dc9 pm9 cd9 ct9 : Value}
    {od10 an10 : Option Addr} {sl10 : Array (Option Value)} {oc10 kV10 dc10 pm10 cd10 ct10 : Value}
    {od11 an11 : Option Addr} {sl11 : Array (Option Value)} {oc11 kV11 dc11 pm11 cd11 ct11 : Value}
    {od12 an12 : Option Addr} {sl12 : Array (Option Value)} {oc12 kV12 dc12 pm12 cd12 ct12 : Value}
    {od13 an13 : Option Addr} {sl13 : Array (Option Value)} {oc13 kV13 dc13 pm13 cd13 ct13 : Value}
    {od14 an14 : Option Addr} {sl14 : Array (Option Value)} {oc14 kV14 dc14 pm14 cd14 ct14 : Value}
    {od15 an15 : Option Addr} {sl15 : Array (Option Value)} {oc15 kV15 dc15 pm15 cd15 ct15 : Value}
    {od16 an16 : Option Addr} {sl16 : Array (Option Value)} {oc16 kV16 dc16 pm16 cd16 ct16 : Value}
    {od17 an17 : Option Addr} {sl17 : Array (Option Value)} {oc17 kV17 dc17 pm17 cd17 ct17 : Value}
    {od18 an18 : Option Addr} {sl18 : Array (Option Value)} {oc18 kV18 dc18 pm18 cd18 ct18 : Value}
    {od19 an19 : Option Addr} {sl19 : Array (Option Value)} {oc19 kV19 dc19 pm19 cd19 ct19 : Value}
    {od20 an20 : Option Addr} {sl20 : Array (Option Value)} {oc20 kV20 dc20 pm20 cd20 ct20 : Value}
    {od21 an21 : Option Addr} {sl21 : Array (Option Value)} {oc21 kV21 dc21 pm21 cd21 ct21 : Value}
    {od22 an22 : Option Addr} {sl22 : Array (Option Value)} {oc22 kV22 dc22 pm22 cd22 ct22 : Value}
    {od23 an23 : Option Addr} {sl23 : Array (Option Value)} {oc23 kV23 dc23 pm23 cd23 ct23 : Value}
    {od24 an24 : Option Addr} {sl24 : Array (Option Value)} {oc24 kV24 dc24 pm24 cd24 ct24 : Value}
    {t_MOST : Tok}
    {t_LONGEST : Tok}
    {t_MOST_WORDS : Tok}
    (a1 : PySem.W.nsIn K mainGlobals "rank" = some (some (.ref f1))) (l1 : K.lookup f1 = some ⟨oc1, od1, .func (PySem.W.fnOf "rank" "rank" (defArgs (topS 10)) (defBody (topS 10)) (defScope (topS 10)) .none kV1 dc1 pm1 an1 cd1 ct1), sl1⟩) (c1 : PySem.W.codeIn K cd1 "rank" = true) (k1 : PySem.W.keepIn K (.ref f1) = true)
    (a2 : PySem.W.nsIn K mainGlobals "look_names" = some (some (.ref f2))) (l2 : K.lookup f2 = some ⟨oc2, od2, .func (PySem.W.fnOf "look_names" "look_names" (defArgs (topS 11)) (defBody (topS 11)) (defScope (topS 11)) .none kV2 dc2 pm2 an2 cd2 ct2), sl2⟩) (c2 : PySem.W.codeIn K cd2 "look_names" = true) (k2 : PySem.W.keepIn K (.ref f2) = true)
    (a3 : PySem.W.nsIn K mainGlobals "heaps_of" = some (some (.ref f3))) (l3 : K.lookup f3 = some ⟨oc3, od3, .func (PySem.W.fnOf "heaps_of" "heaps_of" (defArgs (topS 12)) (defBody (topS 12)) (defScope (topS 12)) .none kV3 dc3 pm3 an3 cd3 ct3), sl3⟩) (c3 : PySem.W.codeIn K cd3 "heaps_of" = true) (k3 : PySem.W.keepIn K (.ref f3) = true)
    (a4 : PySem.W.nsIn K mainGlobals "is_word" = some (some (.ref f4))) (l4 : K.lookup f4 = some ⟨oc4, od4, .func (PySem.W.fnOf "is_word" "is_word" (defArgs (topS 16)) (defBody (topS 16)) (defScope (topS 16)) .none kV4 dc4 pm4 an4 cd4 ct4), sl4⟩) (c4 : PySem.W.codeIn K cd4 "is_word" = true) (k4 : PySem.W.keepIn K (.ref f4) = true)
    (a5 : PySem.W.nsIn K mainGlobals "roll_of" = some (some (.ref f5))) (l5 : K.lookup f5 = some ⟨oc5, od5, .func (PySem.W.fnOf "roll_of" "roll_of" (defArgs (topS 17)) (defBody (topS 17)) (defScope (topS 17)) .none kV5 dc5 pm5 an5 cd5 ct5), sl5⟩) (c5 : PySem.W.codeIn K cd5 "roll_of" = true) (k5 : PySem.W.keepIn K (.ref f5) = true)
    (a6 : PySem.W.findIn K (.ref c_Box) "places_named" = some (some (.ref f6))) (l6 : K.lookup f6 = some ⟨oc6, od6, .func (PySem.W.fnOf "places_named" "Box.places_named" (defArgs (clsS 18 1)) (defBody (clsS 18 1)) (defScope (clsS 18 1)) .none kV6 dc6 pm6 an6 cd6 ct6), sl6⟩) (c6 : PySem.W.codeIn K cd6 "Box.places_named" = true) (k6 : PySem.W.keepIn K (.ref f6) = true)
    (i6 : PySem.W.isFn K (.ref f6) = true)
    (a7 : PySem.W.findIn K (.ref c_Box) "put" = some (some (.ref f7))) (l7 : K.lookup f7 = some ⟨oc7, od7, .func (PySem.W.fnOf "put" "Box.put" (defArgs (clsS 18 2)) (defBody (clsS 18 2)) (defScope (clsS 18 2)) (.ref T7) kV7 dc7 pm7 an7 cd7 ct7), sl7⟩) (c7 : PySem.W.codeIn K cd7 "Box.put" = true) (k7 : PySem.W.keepIn K (.ref f7) = true)
    (d7 : K.lookup T7 = some ⟨ocT7, odT7, .seq #[.int 1 tT7] nT7, slT7⟩)
    (i7 : PySem.W.isFn K (.ref f7) = true)
    (a8 : PySem.W.findIn K (.ref c_Box) "take" = some (some (.ref f8))) (l8 : K.lookup f8 = some ⟨oc8, od8, .func (PySem.W.fnOf "take" "Box.take" (defArgs (clsS 18 3)) (defBody (clsS 18 3)) (defScope (clsS 18 3)) (.ref T8) kV8 dc8 pm8 an8 cd8 ct8), sl8⟩) (c8 : PySem.W.codeIn K cd8 "Box.take" = true) (k8 : PySem.W.keepIn K (.ref f8) = true)
    (d8 : K.lookup T8 = some ⟨ocT8, odT8, .seq #[.int 1 tT8] nT8, slT8⟩)
    (i8 : PySem.W.isFn K (.ref f8) = true)
    (a9 : PySem.W.findIn K (.ref c_Box) "count" = some (some (.ref f9))) (l9 : K.lookup f9 = some ⟨oc9, od9, .func (PySem.W.fnOf "count" "Box.count" (defArgs (clsS 18 4)) (defBody (clsS 18 4)) (defScope (clsS 18 4)) .none kV9 dc9 pm9 an9 cd9 ct9), sl9⟩) (c9 : PySem.W.codeIn K cd9 "Box.count" = true) (k9 : PySem.W.keepIn K (.ref f9) = true)
    (i9 : PySem.W.isFn K (.ref f9) = true)
    (a10 : PySem.W.findIn K (.ref c_Box) "heaps" = some (some (.ref f10))) (l10 : K.lookup f10 = some ⟨oc10, od10, .func (PySem.W.fnOf "heaps" "Box.heaps" (defArgs (clsS 18 5)) (defBody (clsS 18 5)) (defScope (clsS 18 5)) .none kV10 dc10 pm10 an10 cd10 ct10), sl10⟩) (c10 : PySem.W.codeIn K cd10 "Box.heaps" = true) (k10 : PySem.W.keepIn K (.ref f10) = true)
    (i10 : PySem.W.isFn K (.ref f10) = true)
    (a11 : PySem.W.nsIn K mainGlobals "_law_cell_at" = some (some (.ref f11))) (l11 : K.lookup f11 = some ⟨oc11, od11, .func (PySem.W.fnOf "_law_cell_at" "_law_cell_at" (defArgs (topS 20)) (defBody (topS 20)) (defScope (topS 20)) .none kV11 dc11 pm11 an11 cd11 ct11), sl11⟩) (c11 : PySem.W.codeIn K cd11 "_law_cell_at" = true) (k11 : PySem.W.keepIn K (.ref f11) = true)
    (a12 : PySem.W.nsIn K mainGlobals "_law_mixed" = some (some (.ref f12))) (l12 : K.lookup f12 = some ⟨oc12, od12, .func (PySem.W.fnOf "_law_mixed" "_law_mixed" (defArgs (topS 21)) (defBody (topS 21)) (defScope (topS 21)) .none kV12 dc12 pm12 an12 cd12 ct12), sl12⟩) (c12 : PySem.W.codeIn K cd12 "_law_mixed" = true) (k12 : PySem.W.keepIn K (.ref f12) = true)
    (a13 : PySem.W.nsIn K mainGlobals "_law_base" = some (some (.ref f13))) (l13 : K.lookup f13 = some ⟨oc13, od13, .func (PySem.W.fnOf "_law_base" "_law_base" (defArgs (topS 22)) (defBody (topS 22)) (defScope (topS 22)) .none kV13 dc13 pm13 an13 cd13 ct13), sl13⟩) (c13 : PySem.W.codeIn K cd13 "_law_base" = true) (k13 : PySem.W.keepIn K (.ref f13) = true)
    (a14 : PySem.W.nsIn K mainGlobals "_law_word" = some (some (.ref f14))) (l14 : K.lookup f14 = some ⟨oc14, od14, .func (PySem.W.fnOf "_law_word" "_law_word" (defArgs (topS 23)) (defBody (topS 23)) (defScope (topS 23)) .none kV14 dc14 pm14 an14 cd14 ct14), sl14⟩) (c14 : PySem.W.codeIn K cd14 "_law_word" = true) (k14 : PySem.W.keepIn K (.ref f14) = true)
    (a15 : PySem.W.nsIn K mainGlobals "_law_words" = some (some (.ref f15))) (l15 : K.lookup f15 = some ⟨oc15, od15, .func (PySem.W.fnOf "_law_words" "_law_words" (defArgs (topS 24)) (defBody (topS 24)) (defScope (topS 24)) .none kV15 dc15 pm15 an15 cd15 ct15), sl15⟩) (c15 : PySem.W.codeIn K cd15 "_law_words" = true) (k15 : PySem.W.keepIn K (.ref f15) = true)
    (a16 : PySem.W.nsIn K mainGlobals "_law_whole" = some (some (.ref f16))) (l16 : K.lookup f16 = some ⟨oc16, od16, .func (PySem.W.fnOf "_law_whole" "_law_whole" (defArgs (topS 25)) (defBody (topS 25)) (defScope (topS 25)) .none kV16 dc16 pm16 an16 cd16 ct16), sl16⟩) (c16 : PySem.W.codeIn K cd16 "_law_whole" = true) (k16 : PySem.W.keepIn K (.ref f16) = true)
    (a17 : PySem.W.nsIn K mainGlobals "_law_same" = some (some (.ref f17))) (l17 : K.lookup f17 = some ⟨oc17, od17, .func (PySem.W.fnOf "_law_same" "_law_same" (defArgs (topS 26)) (defBody (topS 26)) (defScope (topS 26)) .none kV17 dc17 pm17 an17 cd17 ct17), sl17⟩) (c17 : PySem.W.codeIn K cd17 "_law_same" = true) (k17 : PySem.W.keepIn K (.ref f17) = true)
    (a18 : PySem.W.nsIn K mainGlobals "_law_before" = some (some (.ref f18))) (l18 : K.lookup f18 = some ⟨oc18, od18, .func (PySem.W.fnOf "_law_before" "_law_before" (defArgs (topS 27)) (defBody (topS 27)) (defScope (topS 27)) .none kV18 dc18 pm18 an18 cd18 ct18), sl18⟩) (c18 : PySem.W.codeIn K cd18 "_law_before" = true) (k18 : PySem.W.keepIn K (.ref f18) = true)
    (a19 : PySem.W.nsIn K mainGlobals "_law_heaps" = some (some (.ref f19))) (l19 : K.lookup f19 = some ⟨oc19, od19, .func (PySem.W.fnOf "_law_heaps" "_law_heaps" (defArgs (topS 28)) (defBody (topS 28)) (defScope (topS 28)) .none kV19 dc19 pm19 an19 cd19 ct19), sl19⟩) (c19 : PySem.W.codeIn K cd19 "_law_heaps" = true) (k19 : PySem.W.keepIn K (.ref f19) = true)
    (a20 : PySem.W.nsIn K mainGlobals "_law_like" = some (some (.ref f20))) (l20 : K.lookup f20 = some ⟨oc20, od20, .func (PySem.W.fnOf "_law_like" "_law_like" (defArgs (topS 29)) (defBody (topS 29)) (defScope (topS 29)) .none kV20 dc20 pm20 an20 cd20 ct20), sl20⟩) (c20 : PySem.W.codeIn K cd20 "_law_like" = true) (k20 : PySem.W.keepIn K (.ref f20) = true)
    (a21 : PySem.W.nsIn K mainGlobals "_law_right" = some (some (.ref f21))) (l21 : K.lookup f21 = some ⟨oc21, od21, .func (PySem.W.fnOf "_law_right" "_law_right" (defArgs (topS 31)) (defBody (topS 31)) (defScope (topS 31)) .none kV21 dc21 pm21 an21 cd21 ct21), sl21⟩) (c21 : PySem.W.codeIn K cd21 "_law_right" = true) (k21 : PySem.W.keepIn K (.ref f21) = true)
    (a22 : PySem.W.nsIn K mainGlobals "_law_moved" = some (some (.ref f22))) (l22 : K.lookup f22 = some ⟨oc22, od22, .func (PySem.W.fnOf "_law_moved" "_law_moved" (defArgs (topS 32)) (defBody (topS 32)) (defScope (topS 32)) .none kV22 dc22 pm22 an22 cd22 ct22), sl22⟩) (c22 : PySem.W.codeIn K cd22 "_law_moved" = true) (k22 : PySem.W.keepIn K (.ref f22) = true)
    (a23 : PySem.W.findIn K (.ref c_Box) "__init__" = some (some (.ref f23))) (l23 : K.lookup f23 = some ⟨oc23, od23, .func (PySem.W.fnOf "__init__" "Box.__init__" (defArgs (clsS 18 0)) (defBody (clsS 18 0)) (defScope (clsS 18 0)) .none kV23 dc23 pm23 an23 cd23 ct23), sl23⟩) (c23 : PySem.W.codeIn K cd23 "Box.__init__" = true) (k23 : PySem.W.keepIn K (.ref f23) = true)
    (i23 : PySem.W.isFn K (.ref f23) = true)
    (a24 : PySem.W.nsIn K mainGlobals "law" = some (some (.ref f24))) (l24 : K.lookup f24 = some ⟨oc24, od24, .func (PySem.W.fnOf "law" "law" (defArgs (topS 33)) (defBody (topS 33)) (defScope (topS 33)) .none kV24 dc24 pm24 an24 cd24 ct24), sl24⟩) (c24 : PySem.W.codeIn K cd24 "law" = true) (k24 : PySem.W.keepIn K (.ref f24) = true)
    (aC_Box : PySem.W.nsIn K mainGlobals "Box" = some (some (.ref c_Box)))
    (pg_Box : PySem.W.plainGet K c_Box Str.empty = true) (hd_Box : PySem.W.hasDictIn K c_Box = true) (po_Box : PySem.W.plainOver K c_Box = true) (sa_Box : PySem.W.findIn K (.ref c_Box) "__setattr__" = some (some (.builtin "object.__setattr__"))) (mk_Box : PySem.W.makesIn K c_Box = true) (kc_Box : PySem.W.keepIn K (.ref c_Box) = true) (nr_Box : PySem.W.findIn K (.ref c_Box) "roll" = some none) (nk_Box : PySem.W.findIn K (.ref c_Box) "kept" = some none)
    (q_MOST : PySem.W.nsIn K mainGlobals "MOST" = some (some (.int 6 t_MOST)))
    (q_LONGEST : PySem.W.nsIn K mainGlobals "LONGEST" = some (some (.int 12 t_LONGEST)))
    (q_MOST_WORDS : PySem.W.nsIn K mainGlobals "MOST_WORDS" = some (some (.int 6 t_MOST_WORDS)))
    (eg_NoName : PySem.W.nsIn K mainGlobals "NoName" = some (some (.ref C_NoName))) (ek_NoName : PySem.W.keepIn K (.ref C_NoName) = true) (ee_NoName : PySem.W.excIn K C_NoName [.type "ValueError", .type "Exception", .type "BaseException", .type "object"] "ValueError.__new__" = true) (es_NoName : PySem.W.subIn K (.ref C_NoName) (.type "BaseException") = some true) (et_NoName : PySem.W.typeIn K (.ref C_NoName) = some (.type "type"))
    (eg_NoCount : PySem.W.nsIn K mainGlobals "NoCount" = some (some (.ref C_NoCount))) (ek_NoCount : PySem.W.keepIn K (.ref C_NoCount) = true) (ee_NoCount : PySem.W.excIn K C_NoCount [.type "ValueError", .type "Exception", .type "BaseException", .type "object"] "ValueError.__new__" = true) (es_NoCount : PySem.W.subIn K (.ref C_NoCount) (.type "BaseException") = some true) (et_NoCount : PySem.W.typeIn K (.ref C_NoCount) = some (.type "type"))
    (eg_NoHeap : PySem.W.nsIn K mainGlobals "NoHeap" = some (some (.ref C_NoHeap))) (ek_NoHeap : PySem.W.keepIn K (.ref C_NoHeap) = true) (ee_NoHeap : PySem.W.excIn K C_NoHeap [.type "ValueError", .type "Exception", .type "BaseException", .type "object"] "ValueError.__new__" = true) (es_NoHeap : PySem.W.subIn K (.ref C_NoHeap) (.type "BaseException") = some true) (et_NoHeap : PySem.W.typeIn K (.ref C_NoHeap) = some (.type "type"))
    (eg_NoRoll : PySem.W.nsIn K mainGlobals "NoRoll" = some (some (.ref C_NoRoll))) (ek_NoRoll : PySem.W.keepIn K (.ref C_NoRoll) = true) (ee_NoRoll : PySem.W.excIn K C_NoRoll [.type "ValueError", .type "Exception", .type "BaseException", .type "object"] "ValueError.__new__" = true) (es_NoRoll : PySem.W.subIn K (.ref C_NoRoll) (.type "BaseException") = some true) (et_NoRoll : PySem.W.typeIn K (.ref C_NoRoll) = some (.type "type"))
    (eg_NoBallot : PySem.W.nsIn K mainGlobals "NoBallot" = some (some (.ref C_NoBallot))) (ek_NoBallot : PySem.W.keepIn K (.ref C_NoBallot) = true) (ee_NoBallot : PySem.W.excIn K C_NoBallot [.type "ValueError", .type "Exception", .type "BaseException", .type "object"] "ValueError.__new__" = true) (es_NoBallot : PySem.W.subIn K (.ref C_NoBallot) (.type "BaseException") = some true) (et_NoBallot : PySem.W.typeIn K (.ref C_NoBallot) = some (.type "type"))
    (z1 : PySem.W.nsIn K mainGlobals "tuple" = some none)
    (z2 : PySem.W.nsIn K mainGlobals "len" = some none)
    (z3 : PySem.W.nsIn K mainGlobals "sorted" = some none)
    (z4 : PySem.W.nsIn K mainGlobals "set" = some none)
    (z5 : PySem.W.nsIn K mainGlobals "list" = some none)
    (z6 : PySem.W.nsIn K mainGlobals "range" = some none)
    (z7 : PySem.W.nsIn K mainGlobals "sum" = some none)
    (z8 : PySem.W.nsIn K mainGlobals "isinstance" = some none)
    (z9 : PySem.W.nsIn K mainGlobals "int" = some none)
    (z10 : PySem.W.nsIn K mainGlobals "bool" = some none)
    (z11 : PySem.W.nsIn K mainGlobals "str" = some none)
    (z12 : PySem.W.nsIn K mainGlobals "zip" = some none)
    (z13 : PySem.W.nsIn K mainGlobals "min" = some none)
    (tn : PySem.W.tabIn K lamF = none)
    : ∃ fd : FuncData, (∀ (s : Shared) (v : Value), BindsTo s fd ⟨[v], []⟩ [("_law_script", v)]) ∧ ∀ base : Heap, K.In base → base.Ns mainGlobals mg → FnOk l.prog w K mg base CX0 10 fa fd ["_law_script"] (spLaw K) := by
  have e := hfa.symm.trans (PySem.W.mg_of X G a24)
  cases e
  have F1 := fun_mk (st := topS 10) l1 c1 k1
  have b1 := F1.binds (ps := ["names"]) fun _ _ _ _ _ _ us hl => match us, hl with | [_], _ => rfl
  have g1 : DefTxt K mg "rank" _ _ _ := ⟨PySem.W.mg_of X G a1, F1.kp, b1⟩
  have F2 := fun_mk (st := topS 11) l2 c2 k2
  have b2 := F2.binds (ps := ["count", "rows"]) fun _ _ _ _ _ _ us hl => match us, hl with | [_, _], _ => rfl
  have g2 : DefTxt K mg "look_names" _ _ _ := ⟨PySem.W.mg_of X G a2, F2.kp, b2⟩
  have F3 := fun_mk (st := topS 12) l3 c3 k3
  have b3 := F3.binds (ps := ["count", "rows"]) fun _ _ _ _ _ _ us hl => match us, hl with | [_, _], _ => rfl
  have g3 : DefTxt K mg "heaps_of" _ _ _ := ⟨PySem.W.mg_of X G a3, F3.kp, b3⟩
  have F4 := fun_mk (st := topS 16) l4 c4 k4
  have b4 := F4.binds (ps := ["text"]) fun _ _ _ _ _ _ us hl => match us, hl with | [_], _ => rfl
  have g4 : DefTxt K mg "is_word" _ _ _ := ⟨PySem.W.mg_of X G a4, F4.kp, b4⟩
  have F5 := fun_mk (st := topS 17) l5 c5 k5
  have b5 := F5.binds (ps := ["words"]) fun _ _ _ _ _ _ us hl => match us, hl with | [_], _ => rfl
  have g5 : DefTxt K mg "roll_of" _ _ _ := ⟨PySem.W.mg_of X G a5, F5.kp, b5⟩
  have F6 := fun_mk (st := clsS 18 1) l6 c6 k6
  have b6 := F6.binds (ps := ["self", "text"]) fun _ _ _ _ _ _ us hl => match us, hl with | [_, _], _ => rfl
  have F7 := fun_mkD (st := clsS 18 2) l7 c7 k7 d7
  have b7 := binds_all (ps := ["self", "text", "many"]) F7 1 (by simp) rfl fun _ _ _ _ _ _ _ us its h1 h2 => match us, its, h1, h2 with | [_, _, _], [_], _, _ => ⟨_, rfl, rfl⟩
  obtain ⟨ds_put, v_put, b1_7⟩ := FunD.binds1 (ps := ["self", "text", "many"]) F7 2 0 (by simp) rfl fun _ _ _ _ _ _ _ us its h1 h2 => match us, its, h1, h2 with | [_, _], [_], _, _ => ⟨_, rfl, rfl⟩
  have F8 := fun_mkD (st := clsS 18 3) l8 c8 k8 d8
  have b8 := binds_all (ps := ["self", "text", "many"]) F8 1 (by simp) rfl fun _ _ _ _ _ _ _ us its h1 h2 => match us, its, h1, h2 with | [_, _, _], [_], _, _ => ⟨_, rfl, rfl⟩
  obtain ⟨ds_take, v_take, b1_8⟩ := FunD.binds1 (ps := ["self", "text", "many"]) F8 2 0 (by simp) rfl fun _ _ _ _ _ _ _ us its h1 h2 => match us, its, h1, h2 with | [_, _], [_], _, _ => ⟨_, rfl, rfl⟩
  have F9 := fun_mk (st := clsS 18 4) l9 c9 k9
  have b9 := F9.binds (ps := ["self"]) fun _ _ _ _ _ _ us hl => match us, hl with | [_], _ => rfl
  have F10 := fun_mk (st := clsS 18 5) l10 c10 k10
  have b10 := F10.binds (ps := ["self"]) fun _ _ _ _ _ _ us hl => match us, hl with | [_], _ => rfl
  have F11 := fun_mk (st := topS 20) l11 c11 k11
  have b11 := F11.binds (ps := ["_law_script", "_law_k"]) fun _ _ _ _ _ _ us hl => match us, hl with | [_, _], _ => rfl
  have g11 : DefTxt K mg "_law_cell_at" _ _ _ := ⟨PySem.W.mg_of X G a11, F11.kp, b11⟩
  have F12 := fun_mk (st := topS 21) l12 c12 k12
  have b12 := F12.binds (ps := ["_law_cell", "_law_many"]) fun _ _ _ _ _ _ us hl => match us, hl with | [_, _], _ => rfl
  have g12 : DefTxt K mg "_law_mixed" _ _ _ := ⟨PySem.W.mg_of X G a12, F12.kp, b12⟩
  have F13 := fun_mk (st := topS 22) l13 c13 k13
  have b13 := F13.binds (ps := ["_law_cell", "_law_size"]) fun _ _ _ _ _ _ us hl => match us, hl with | [_, _], _ => rfl
  have g13 : DefTxt K mg "_law_base" _ _ _ := ⟨PySem.W.mg_of X G a13, F13.kp, b13⟩
  have F14 := fun_mk (st := topS 23) l14 c14 k14
  have b14 := F14.binds (ps := ["_law_base_here", "_law_place", "_law_size", "_law_k"]) fun _ _ _ _ _ _ us hl => match us, hl with | [_, _, _, _], _ => rfl
  have g14 : DefTxt K mg "_law_word" _ _ _ := ⟨PySem.W.mg_of X G a14, F14.kp, b14⟩
  have F15 := fun_mk (st := topS 24) l15 c15 k15
  have b15 := F15.binds (ps := ["_law_script", "_law_at", "_law_many"]) fun _ _ _ _ _ _ us hl => match us, hl with | [_, _, _], _ => rfl
  have g15 : DefTxt K mg "_law_words" _ _ _ := ⟨PySem.W.mg_of X G a15, F15.kp, b15⟩
  have F16 := fun_mk (st := topS 25) l16 c16 k16
  have b16 := F16.binds (ps := ["_law_found"]) fun _ _ _ _ _ _ us hl => match us, hl with | [_], _ => rfl
  have g16 : DefTxt K mg "_law_whole" _ _ _ := ⟨PySem.W.mg_of X G a16, F16.kp, b16⟩
  have F17 := fun_mk (st := topS 26) l17 c17 k17
  have b17 := F17.binds (ps := ["_law_found", "_law_due"]) fun _ _ _ _ _ _ us hl => match us, hl with | [_, _], _ => rfl
  have g17 : DefTxt K mg "_law_same" _ _ _ := ⟨PySem.W.mg_of X G a17, F17.kp, b17⟩
  have F18 := fun_mk (st := topS 27) l18 c18 k18
  have b18 := F18.binds (ps := ["_law_one", "_law_two"]) fun _ _ _ _ _ _ us hl => match us, hl with | [_, _], _ => rfl
  have g18 : DefTxt K mg "_law_before" _ _ _ := ⟨PySem.W.mg_of X G a18, F18.kp, b18⟩
  have F19 := fun_mk (st := topS 28) l19 c19 k19
  have b19 := F19.binds (ps := ["_law_rows"]) fun _ _ _ _ _ _ us hl => match us, hl with | [_], _ => rfl
  have g19 : DefTxt K mg "_law_heaps" _ _ _ := ⟨PySem.W.mg_of X G a19, F19.kp, b19⟩
  have F20 := fun_mk (st := topS 29) l20 c20 k20
  have b20 := F20.binds (ps := ["_law_roll", "_law_words_here"]) fun _ _ _ _ _ _ us hl => match us, hl with | [_, _], _ => rfl
  have g20 : DefTxt K mg "_law_like" _ _ _ := ⟨PySem.W.mg_of X G a20, F20.kp, b20⟩
  have F21 := fun_mk (st := topS 31) l21 c21 k21
  have b21 := F21.binds (ps := ["_law_box", "_law_kept", "_law_first"]) fun _ _ _ _ _ _ us hl => match us, hl with | [_, _, _], _ => rfl
  have g21 : DefTxt K mg "_law_right" _ _ _ := ⟨PySem.W.mg_of X G a21, F21.kp, b21⟩
  have F22 := fun_mk (st := topS 32) l22 c22 k22
  have b22 := F22.binds (ps := ["_law_box", "_law_kept", "_law_roll", "_law_xs", "_law_cell"]) fun _ _ _ _ _ _ us hl => match us, hl with | [_, _, _, _, _], _ => rfl
  have g22 : DefTxt K mg "_law_moved" _ _ _ := ⟨PySem.W.mg_of X G a22, F22.kp, b22⟩
  have F23 := fun_mk (st := clsS 18 0) l23 c23 k23
  have b23 := F23.binds (ps := ["self", "words"]) fun _ _ _ _ _ _ us hl => match us, hl with | [_, _], _ => rfl
  have F24 := fun_mk (st := topS 33) l24 c24 k24
  have w_MOST : IntTxt mg "MOST" 6 := ⟨_, PySem.W.mg_of X G q_MOST⟩
  have w_LONGEST : IntTxt mg "LONGEST" 12 := ⟨_, PySem.W.mg_of X G q_LONGEST⟩
  have w_MOST_WORDS : IntTxt mg "MOST_WORDS" 6 := ⟨_, PySem.W.mg_of X G q_MOST_WORDS⟩
  have m1 := PySem.W.mg_none_of X G z1
  have m2 := PySem.W.mg_none_of X G z2
  have m3 := PySem.W.mg_none_of X G z3
  have m4 := PySem.W.mg_none_of X G z4
  have m5 := PySem.W.mg_none_of X G z5
  have m6 := PySem.W.mg_none_of X G z6
  have m7 := PySem.W.mg_none_of X G z7
  have m8 := PySem.W.mg_none_of X G z8
  have m9 := PySem.W.mg_none_of X G z9
  have m10 := PySem.W.mg_none_of X G z10
  have m11 := PySem.W.mg_none_of X G z11
  have m12 := PySem.W.mg_none_of X G z12
  have m13 := PySem.W.mg_none_of X G z13
  refine ⟨PySem.W.fnOf "law" "law" (defArgs (topS 33)) (defBody (topS 33)) (defScope (topS 33)) .none kV24 dc24 pm24 an24 cd24 ct24, fun s v => .of_eq rfl, fun base _ _ => ?_⟩
  have x_NoName : ExcTxt K mg "NoName" C_NoName := ⟨PySem.W.mg_of X G eg_NoName, ek_NoName, ee_NoName, es_NoName, et_NoName⟩
  have x_NoCount : ExcTxt K mg "NoCount" C_NoCount := ⟨PySem.W.mg_of X G eg_NoCount, ek_NoCount, ee_NoCount, es_NoCount, et_NoCount⟩
  have x_NoHeap : ExcTxt K mg "NoHeap" C_NoHeap := ⟨PySem.W.mg_of X G eg_NoHeap, ek_NoHeap, ee_NoHeap, es_NoHeap, et_NoHeap⟩
  have x_NoRoll : ExcTxt K mg "NoRoll" C_NoRoll := ⟨PySem.W.mg_of X G eg_NoRoll, ek_NoRoll, ee_NoRoll, es_NoRoll, et_NoRoll⟩
  have x_NoBallot : ExcTxt K mg "NoBallot" C_NoBallot := ⟨PySem.W.mg_of X G eg_NoBallot, ek_NoBallot, ee_NoBallot, es_NoBallot, et_NoBallot⟩
  have CB : L2.Cls K c_Box := ⟨pg_Box, hd_Box, po_Box, sa_Box⟩
  have B_Box : BxC K c_Box := ⟨CB, nr_Box, nk_Box⟩
  have K_Box : L2.Mk K c_Box f23 ∧ mg "Box" = some (.ref c_Box) := ⟨⟨mk_Box, a23, i23, kc_Box⟩, PySem.W.mg_of X G aC_Box⟩
  have G1 := ok_rank (P := l.prog) (w := w) (mg := mg) (base := base) F1 m1 m2
  have G2 := ok_look_names (P := l.prog) (w := w) (mg := mg) (base := base) F2 x_NoName
  have G3 := ok_heaps_of (P := l.prog) (w := w) (mg := mg) (base := base) F3 w_MOST x_NoCount x_NoHeap m1 m3 m4 m2 m5 G2 g2 G1 g1
  have G4 := ok_is_word (P := l.prog) (w := w) (mg := mg) (base := base) F4 m2 w_LONGEST
  have G5 := ok_roll_of (P := l.prog) (w := w) (mg := mg) (base := base) F5 m2 w_MOST_WORDS x_NoRoll m6 m5 G4 g4
  have G6 := ok_Box_places_named (P := l.prog) (w := w) (mg := mg) (base := base) (c_Box := c_Box) F6 x_NoBallot m1 m3 m4 B_Box
  have D_places_named := BM.mk (P := l.prog) (w := w) (K := K) (mg := mg) (base := base) ⟨_, _, _, CB, ⟨a6, i6, k6⟩, G6, b6⟩
  have G7 := ok_Box_put (P := l.prog) (w := w) (mg := mg) (base := base) (c_Box := c_Box) F7 x_NoHeap B_Box D_places_named
  have D_put := BM.mk (P := l.prog) (w := w) (K := K) (mg := mg) (base := base) ⟨_, _, _, CB, ⟨a7, i7, k7⟩, G7, b7⟩
  have D1_put := BM.mk (P := l.prog) (w := w) (K := K) (mg := mg) (base := base) ⟨_, _, _, CB, ⟨a7, i7, k7⟩, G7, b1_7⟩
  have G8 := ok_Box_take (P := l.prog) (w := w) (mg := mg) (base := base) (c_Box := c_Box) F8 x_NoHeap B_Box D_places_named
  have D_take := BM.mk (P := l.prog) (w := w) (K := K) (mg := mg) (base := base) ⟨_, _, _, CB, ⟨a8, i8, k8⟩, G8, b8⟩
  have D1_take := BM.mk (P := l.prog) (w := w) (K := K) (mg := mg) (base := base) ⟨_, _, _, CB, ⟨a8, i8, k8⟩, G8, b1_8⟩
  have G9 := ok_Box_count (P := l.prog) (w := w) (mg := mg) (base := base) (c_Box := c_Box) F9 m7 m5 B_Box
  have D_count := BM.mk (P := l.prog) (w := w) (K := K) (mg := mg) (base := base) ⟨_, _, _, CB, ⟨a9, i9, k9⟩, G9, b9⟩
  have G10 := ok_Box_heaps (P := l.prog) (w := w) (mg := mg) (base := base) (c_Box := c_Box) F10 m5 m2 B_Box D_count G3 g3
  have D_heaps := BM.mk (P := l.prog) (w := w) (K := K) (mg := mg) (base := base) ⟨_, _, _, CB, ⟨a10, i10, k10⟩, G10, b10⟩
  have G11 := ok_law_cell_at (P := l.prog) (w := w) (mg := mg) (base := base) F11 m2
  have G12 := ok_law_mixed (P := l.prog) (w := w) (mg := mg) (base := base) F12 m6
  have G13 := ok_law_base (P := l.prog) (w := w) (mg := mg) (base := base) F13 m6
  have G14 := ok_law_word (P := l.prog) (w := w) (mg := mg) (base := base) F14
  have G15 := ok_law_words (P := l.prog) (w := w) (mg := mg) (base := base) F15 m6 G11 g11 G13 g13 G14 g14
  have G16 := ok_law_whole (P := l.prog) (w := w) (mg := mg) (base := base) F16 m8 m9 m10
  have G17 := ok_law_same (P := l.prog) (w := w) (mg := mg) (base := base) F17 m8 m1 m5 m2 m6 m10 m9 m11 g17 8
  have G18 := ok_law_before (P := l.prog) (w := w) (mg := mg) (base := base) F18 m2 m12
  have G19 := ok_law_heaps (P := l.prog) (w := w) (mg := mg) (base := base) F19 m1 m6 m2 G18 g18
  have G20 := ok_law_like (P := l.prog) (w := w) (mg := mg) (base := base) F20 m1 m6 m2
  have G21 := ok_law_right (P := l.prog) (w := w) (mg := mg) (base := base) (c_Box := c_Box) F21 m5 m7 D_count D_heaps G19 g19 G17 g17 G16 g16
  have G22 := ok_law_moved (P := l.prog) (w := w) (mg := mg) (base := base) (c_Box := c_Box) F22 m2 m13 D_put D1_put v_put D_take D1_take v_take G20 g20
  have G23 := ok_init (P := l.prog) (w := w) (mg := mg) (base := base) (c_Box := c_Box) F23 B_Box G5 g5
  exact ok_law52 (P := l.prog) (w := w) (mg := mg) (base := base) (c_Box := c_Box) F24 m5 K_Box G23 b23 G15 g15 G11 g11 G12 g12 G22 g22 G21 g21 tn
end K52
open PySem PySem.W PyProof.Rows
set_option maxHeartbeats 0 in
theorem PySem.Challenge.cw_fairbench_k52_whole_box_holds : PySem.Challenge.rw_fairbench_k52_whole_box.Holds := by
  w_on; o_law; k_head; (case hw => w_witness2)
  k_fill
  refine L2.walk_of (l := PySem.Challenge.rw_fairbench_k52_whole_box) (n := 63) (k := 10) (x := "_law_script") (CX := fun _ => L2.CX0) (sp := fun w => Fb.spLaw _) rfl (by decide) rfl ⟨rfl, by decide, by decide⟩ (fun w h Y => PySem.W.kIn_of Y) ?F (fun _ _ a ns hl _ hS => ⟨a, ns, rfl, hS, hl, fun _ => rfl⟩) (fun _ _ _ _ _ h => h)
  case F =>
    intro w mg fa h KX G hmg
    refine' K52.all_mk KX G hmg (aC_Box := ?aC_Box) (a1 := ?a1) (l1 := ?l1) (c1 := ?c1) (k1 := ?k1) (a2 := ?a2) (l2 := ?l2) (c2 := ?c2) (k2 := ?k2) (a3 := ?a3) (l3 := ?l3) (c3 := ?c3) (k3 := ?k3) (a4 := ?a4) (l4 := ?l4) (c4 := ?c4) (k4 := ?k4) (a5 := ?a5) (l5 := ?l5) (c5 := ?c5) (k5 := ?k5) (a6 := ?a6) (l6 := ?l6) (c6 := ?c6) (k6 := ?k6) (a7 := ?a7) (l7 := ?l7) (c7 := ?c7) (k7 := ?k7) (a8 := ?a8) (l8 := ?l8) (c8 := ?c8) (k8 := ?k8) (a9 := ?a9) (l9 := ?l9) (c9 := ?c9) (k9 := ?k9) (a10 := ?a10) (l10 := ?l10) (c10 := ?c10) (k10 := ?k10) (a11 := ?a11) (l11 := ?l11) (c11 := ?c11) (k11 := ?k11) (a12 := ?a12) (l12 := ?l12) (c12 := ?c12) (k12 := ?k12) (a13 := ?a13) (l13 := ?l13) (c13 := ?c13) (k13 := ?k13) (a14 := ?a14) (l14 := ?l14) (c14 := ?c14) (k14 := ?k14) (a15 := ?a15) (l15 := ?l15) (c15 := ?c15) (k15 := ?k15) (a16 := ?a16) (l16 := ?l16) (c16 := ?c16) (k16 := ?k16) (a17 := ?a17) (l17 := ?l17) (c17 := ?c17) (k17 := ?k17) (a18 := ?a18) (l18 := ?l18) (c18 := ?c18) (k18 := ?k18) (a19 := ?a19) (l19 := ?l19) (c19 := ?c19) (k19 := ?k19) (a20 := ?a20) (l20 := ?l20) (c20 := ?c20) (k20 := ?k20) (a21 := ?a21) (l21 := ?l21) (c21 := ?c21) (k21 := ?k21) (a22 := ?a22) (l22 := ?l22) (c22 := ?c22) (k22 := ?k22) (a23 := ?a23) (l23 := ?l23) (c23 := ?c23) (k23 := ?k23) (a24 := ?a24) (l24 := ?l24) (c24 := ?c24) (k24 := ?k24) (d7 := ?d7) (d8 := ?d8) (i6 := ?i6) (i7 := ?i7) (i8 := ?i8) (i9 := ?i9) (i10 := ?i10) (i23 := ?i23) (pg_Box := ?pg_Box) (hd_Box := ?hd_Box) (po_Box := ?po_Box) (sa_Box := ?sa_Box) (mk_Box := ?mk_Box) (kc_Box := ?kc_Box) (nr_Box := ?nr_Box) (nk_Box := ?nk_Box) (q_MOST := ?q_MOST) (q_LONGEST := ?q_LONGEST) (q_MOST_WORDS := ?q_MOST_WORDS) (eg_NoName := ?eg_NoName) (ek_NoName := ?ek_NoName) (ee_NoName := ?ee_NoName) (es_NoName := ?es_NoName) (et_NoName := ?et_NoName) (eg_NoCount := ?eg_NoCount) (ek_NoCount := ?ek_NoCount) (ee_NoCount := ?ee_NoCount) (es_NoCount := ?es_NoCount) (et_NoCount := ?et_NoCount) (eg_NoHeap := ?eg_NoHeap) (ek_NoHeap := ?ek_NoHeap) (ee_NoHeap := ?ee_NoHeap) (es_NoHeap := ?es_NoHeap) (et_NoHeap := ?et_NoHeap) (eg_NoRoll := ?eg_NoRoll) (ek_NoRoll := ?ek_NoRoll) (ee_NoRoll := ?ee_NoRoll) (es_NoRoll := ?es_NoRoll) (et_NoRoll := ?et_NoRoll) (eg_NoBallot := ?eg_NoBallot) (ek_NoBallot := ?ek_NoBallot) (ee_NoBallot := ?ee_NoBallot) (es_NoBallot := ?es_NoBallot) (et_NoBallot := ?et_NoBallot) (tn := ?tn) (z1 := ?z1) (z2 := ?z2) (z3 := ?z3) (z4 := ?z4) (z5 := ?z5) (z6 := ?z6) (z7 := ?z7) (z8 := ?z8) (z9 := ?z9) (z10 := ?z10) (z11 := ?z11) (z12 := ?z12) (z13 := ?z13)
    (case aC_Box => k_is); (case a1 => k_is); (case l1 => k_is); (case c1 => k_is); (case k1 => k_is); (case a2 => k_is); (case l2 => k_is); (case c2 => k_is); (case k2 => k_is); (case a3 => k_is); (case l3 => k_is); (case c3 => k_is); (case k3 => k_is); (case a4 => k_is); (case l4 => k_is); (case c4 => k_is); (case k4 => k_is); (case a5 => k_is); (case l5 => k_is); (case c5 => k_is); (case k5 => k_is); (case a6 => k_is); (case l6 => k_is); (case c6 => k_is); (case k6 => k_is); (case a7 => k_is); (case l7 => k_is); (case c7 => k_is); (case k7 => k_is); (case a8 => k_is); (case l8 => k_is); (case c8 => k_is); (case k8 => k_is); (case a9 => k_is); (case l9 => k_is); (case c9 => k_is); (case k9 => k_is); (case a10 => k_is); (case l10 => k_is); (case c10 => k_is); (case k10 => k_is); (case a11 => k_is); (case l11 => k_is); (case c11 => k_is); (case k11 => k_is); (case a12 => k_is); (case l12 => k_is); (case c12 => k_is); (case k12 => k_is); (case a13 => k_is); (case l13 => k_is); (case c13 => k_is); (case k13 => k_is); (case a14 => k_is); (case l14 => k_is); (case c14 => k_is); (case k14 => k_is); (case a15 => k_is); (case l15 => k_is); (case c15 => k_is); (case k15 => k_is); (case a16 => k_is); (case l16 => k_is); (case c16 => k_is); (case k16 => k_is); (case a17 => k_is); (case l17 => k_is); (case c17 => k_is); (case k17 => k_is); (case a18 => k_is); (case l18 => k_is); (case c18 => k_is); (case k18 => k_is); (case a19 => k_is); (case l19 => k_is); (case c19 => k_is); (case k19 => k_is); (case a20 => k_is); (case l20 => k_is); (case c20 => k_is); (case k20 => k_is); (case a21 => k_is); (case l21 => k_is); (case c21 => k_is); (case k21 => k_is); (case a22 => k_is); (case l22 => k_is); (case c22 => k_is); (case k22 => k_is); (case a23 => k_is); (case l23 => k_is); (case c23 => k_is); (case k23 => k_is); (case a24 => k_is); (case l24 => k_is); (case c24 => k_is); (case k24 => k_is); (case d7 => k_is); (case d8 => k_is); (case i6 => k_is); (case i7 => k_is); (case i8 => k_is); (case i9 => k_is); (case i10 => k_is); (case i23 => k_is); (case pg_Box => k_is); (case hd_Box => k_is); (case po_Box => k_is); (case sa_Box => k_is); (case mk_Box => k_is); (case kc_Box => k_is); (case nr_Box => k_is); (case nk_Box => k_is); (case q_MOST => k_is); (case q_LONGEST => k_is); (case q_MOST_WORDS => k_is); (case eg_NoName => k_is); (case ek_NoName => k_is); (case ee_NoName => k_exc); (case es_NoName => k_is); (case et_NoName => k_is); (case eg_NoCount => k_is); (case ek_NoCount => k_is); (case ee_NoCount => k_exc); (case es_NoCount => k_is); (case et_NoCount => k_is); (case eg_NoHeap => k_is); (case ek_NoHeap => k_is); (case ee_NoHeap => k_exc); (case es_NoHeap => k_is); (case et_NoHeap => k_is); (case eg_NoRoll => k_is); (case ek_NoRoll => k_is); (case ee_NoRoll => k_exc); (case es_NoRoll => k_is); (case et_NoRoll => k_is); (case eg_NoBallot => k_is); (case ek_NoBallot => k_is); (case ee_NoBallot => k_exc); (case es_NoBallot => k_is); (case et_NoBallot => k_is); (case tn => first | k_is | rfl); (case z1 => k_is); (case z2 => k_is); (case z3 => k_is); (case z4 => k_is); (case z5 => k_is); (case z6 => k_is); (case z7 => k_is); (case z8 => k_is); (case z9 => k_is); (case z10 => k_is); (case z11 => k_is); (case z12 => k_is); (case z13 => k_is)
