import PyProof.Rows.All
import Wide.All
import OpenK.AllK
import Wide.FinOn
import KE.KStateDown
import HandS.ForMost
import HandS.ForExc
import HandS.Conv
import HandS.Zip
import HandS.Walk
import HandS.TupAny
import HandS.TupMul
import HandS.Deep
import HandS.IsInst
import HandS.ExcIs
import HandS.Wide
import HandS.Flow
import HandS.Style
import HandS.CallLocal
import HandS.Defaults
import HandS.Head0
import HandS.Head1
import HandS.Head2
import HandS.HeadEnd
import HandS.HeadHook1
import HandS.HeadHook2
import HandS.HeadHook3
import HandS.HeadHook4
import HandS.Lambda
import HandS.HotCalls
import HandS.EndTab
import KE.GoesEnum
import KE.KDictZip
import KE.KDictList
import KE.KTupSum
import HandS.Sort
import HandS.SortOrd
import HandS.SortRule
import HandS.SortInts
import HandS.Strs
import HandS.SetFor
import KE.SortData
import KE.DataMinMax
import HandS.TupSets
import HandS.More
import KE.GoesZip
import KE.GoesMore
import KE.KEqDict
import PyProof.SumWalkG
import KE.KSlice
import HandS.HeadWalk
import PySem.Challenge.RW_pagebreaks_k64_formats
set_option Elab.async false
set_option linter.all false
set_option maxRecDepth 100000
set_option maxHeartbeats 4000000
namespace PB
open PySem PySem.Spec PyProof.Rows L2

/-! ### data -/
/-- a lambda of the text: its names that a cell holds -/
structure LamD where
  qual : Str
  params : Arguments
  body : Expr
  scope : Scope
  fv : List Str
inductive D where
  | non | bl (b : Bool) | int (i : Int) | str (x : Str) | lst (xs : List D) | tup (xs : List D) | dct (kvs : List (Int × D)) | scr (ns : List Int) | clo (L : LamD) (ds : List D)
  /-- a lambda of the frame itself: the slots of its names, the frame's cells -/
  | lam (L : LamD) (is : List Nat) (g : List (Str × Addr))
  /-- an instance of the class c -/
  | ins (c : Str) (fs : List (Str × D))
  /-- what stands at p -/
  | obj (p : Addr)
/-- the function object of a lambda; a cell -/
def FunO (f : Addr) (L : LamD) (cl : List (Str × Addr)) (c' : Addr) : HO := .ext fun h => ∃ pm ctv, h.get? f = some (PySem.W.kla_obj "<lambda>" L.qual L.params L.body L.scope cl pm c' ctv)
def CellX (c : Addr) (o : Obj) : HO := .ext fun h => h.get? c = some o

/-! ### tables of code objects: a lambda's name by its line -/
def qOf (l : Int) : Str := if l < 220 ∧ 200 < l ∨ l < 560 ∧ 530 < l then "law.<locals>.<lambda>" else if l < 240 ∧ 220 < l then "_law_calls.<locals>.<lambda>" else if l < 473 ∧ 440 < l then "_law_papers.<locals>.<lambda>"
  else if l < 484 ∧ 473 ≤ l then "_law_ruled.<locals>.<lambda>" else if l < 494 ∧ 484 ≤ l then "_law_plain.<locals>.<lambda>" else "_law_drafted.<locals>.<lambda>"
def TabP (H : Hp) (P : Addr) : Prop := ∃ ps : Array Value, H P = some (.tbl ps) ∧ TriplesOk ps.toList ∧ ∀ (pos : Pos) (cv : Value), codeAmong pos ps.toList = some cv → ∃ c, cv = .ref c ∧ H c = some (LamX.CodeO c (qOf pos.line))
theorem TabP.ext {H H' : Hp} {P : Addr} (t : TabP H P) (e : ∀ b o, H b = some o → H' b = some o) : TabP H' P := by
  obtain ⟨ps, h1, h2, h3⟩ := t
  refine ⟨ps, e _ _ h1, h2, fun pos cv hc => ?_⟩
  obtain ⟨c, e1, e2⟩ := h3 pos cv hc
  exact ⟨c, e1, e _ _ e2⟩
theorem TabP.nil {H : Hp} {P : Addr} (h : H P = some (.tbl #[])) : TabP H P := ⟨#[], h, True.intro, fun pos cv hc => by
  have z : codeAmong pos [] = some cv := hc
  simp [codeAmong] at z⟩
/-- no table -/
def isT : HO → Bool
  | .tbl _ => true
  | _ => false
abbrev NT (o : HO) : Prop := isT o = false
theorem NT.ne {o : HO} (h : NT o) : ∀ ps, o ≠ .tbl ps := fun ps z => by rw [z] at h; cases h
theorem nt_of {o : HO} (h : ∀ ps, o ≠ .tbl ps) : NT o := by cases o <;> first | rfl | exact absurd rfl (h _)
/-- all but the tables stays; a good table stays good -/
structure Same (H H' : Hp) : Prop where
  o : ∀ b o, H b = some o → (h : NT o := by first | rfl | assumption) → H' b = some o
  t : ∀ P, TabP H P → TabP H' P
instance {H H' : Hp} : CoeFun (Same H H') (fun _ => ∀ b o, H b = some o → (h : NT o := by first | rfl | assumption) → H' b = some o) := ⟨@Same.o H H'⟩
theorem Same.of {H H' : Hp} (e : ∀ b o, H b = some o → H' b = some o) : Same H H' := ⟨fun b o h _ => e b o h, fun P t => t.ext e⟩
theorem Same.refl (H : Hp) : Same H H := .of fun _ _ h => h
theorem Same.trans {H H1 H2 : Hp} (a : Same H H1) (b : Same H1 H2) : Same H H2 := ⟨fun c o h n => b.o c o (a.o c o h n) n, fun P t => b.t P (a.t P t)⟩
theorem Same.seq {K : PySem.W.Frag} {H H' : Hp} {a : Addr} {xs : List V} (s : Same H H') (h : SqL K H a xs) : SqL K H' a xs := by
  rcases h with (h | ⟨o, h⟩) | h
  · exact .inl (.inl (s _ _ h))
  · exact .inl (.inr ⟨o, s _ _ h⟩)
  · exact .inr h
/-- the defs that make lambdas -/
def lamDefs : List Str := ["law", "_law_calls", "_law_papers", "_law_ruled", "_law_plain", "_law_drafted"]
abbrev tabA (K : PySem.W.Frag) (x : Str) : Addr := (He.cT K (x, none)).2
def AllTab (K : PySem.W.Frag) (H : Hp) : Prop := ∀ x ∈ lamDefs, PySem.W.codeHdIn K (He.cT K (x, none)).1 (tabA K x) = true → TabP H (tabA K x)
theorem AllTab.mono {K : PySem.W.Frag} {H H' : Hp} (a : AllTab K H) (s : Same H H') : AllTab K H' := fun x hx e => s.t _ (a x hx e)

mutual
inductive Rp (K : PySem.W.Frag) (H : Hp) : V → D → Prop
  | non : Rp K H .non .non
  | bl (b : Bool) : Rp K H (.bl b) (.bl b)
  | int (i : Int) : Rp K H (.int i) (.int i)
  | str (x : Str) : Rp K H (.str x) (.str x)
  | lst {a : Addr} {xs : List V} {ds : List D} : H a = some (.lst xs) → RpAll K H xs ds → Rp K H (.ref a) (.lst ds)
  | tup {a : Addr} {xs : List V} {ds : List D} : H a = some (.tup xs) → RpAll K H xs ds → Rp K H (.ref a) (.tup ds)
  | dct {a : Addr} {kvs : List (Key × V)} {kds : List (Int × D)} : Rd H a (.dK kvs) → RpKV K H kvs kds → Rp K H (.ref a) (.dct kds)
  | scr {a : Addr} {ns : List Int} : SqL K H a (ns.map V.int) → Rp K H (.ref a) (.scr ns)
  | clo {f c' : Addr} {cl : List (Str × Addr)} {L : LamD} {ds : List D} : H f = some (FunO f L cl c') → H c' = some (LamX.CodeO c' L.qual) → (cl.map Prod.fst = L.fv ∧ (cl.map Prod.snd).Nodup) → RpCl K H cl ds → Rp K H (.ref f) (.clo L ds)
  | lam {f c' : Addr} {L : LamD} {is : List Nat} {g : List (Str × Addr)} : H f = some (FunO f L (cloFrom g L.scope.names []) c') → H c' = some (LamX.CodeO c' L.qual) → Rp K H (.ref f) (.lam L is g)
  | ins {a dx : Addr} {c : Str} {fvs : List (Str × V)} {fs : List (Str × D)} : H a = some (.ins (He.ga K c) dx fvs) → H dx = some (.own a) → RpF K H fvs fs → Rp K H (.ref a) (.ins c fs)
  | obj {p : Addr} : Rp K H (.ref p) (.obj p)
inductive RpAll (K : PySem.W.Frag) (H : Hp) : List V → List D → Prop
  | nil : RpAll K H [] []
  | cons {v : V} {vs : List V} {d : D} {ds : List D} : Rp K H v d → RpAll K H vs ds → RpAll K H (v :: vs) (d :: ds)
inductive RpKV (K : PySem.W.Frag) (H : Hp) : List (Key × V) → List (Int × D) → Prop
  | nil : RpKV K H [] []
  | cons {k : Int} {v : V} {vs : List (Key × V)} {d : D} {ds : List (Int × D)} : Rp K H v d → RpKV K H vs ds → RpKV K H ((.inl k, v) :: vs) ((k, d) :: ds)
inductive RpF (K : PySem.W.Frag) (H : Hp) : List (Str × V) → List (Str × D) → Prop
  | nil : RpF K H [] []
  | cons {k : Str} {v : V} {vs : List (Str × V)} {d : D} {ds : List (Str × D)} : Rp K H v d → RpF K H vs ds → RpF K H ((k, v) :: vs) ((k, d) :: ds)
inductive RpCl (K : PySem.W.Frag) (H : Hp) : List (Str × Addr) → List D → Prop
  | nil : RpCl K H [] []
  | cons {y : Str} {c : Addr} {o : Obj} {u : Value} {v : V} {d : D} {cl : List (Str × Addr)} {ds : List D} : H c = some (CellX c o) → o.data = .cell (some u) → RelV v u → Rp K H v d → RpCl K H cl ds → RpCl K H ((y, c) :: cl) (d :: ds)
end

theorem rd_mono {H H' : Hp} {a : Addr} {u : HO} (s : Same H H') (h : Rd H a u) (n : NT u := by first | rfl | assumption) : Rd H' a u := h.imp (fun e => s.o _ _ e n) fun ⟨o, e⟩ => ⟨o, s _ _ e⟩
section
variable {K : PySem.W.Frag} {H H' : Hp}
mutual
theorem Rp.mono (s : Same H H') : ∀ {v : V} {d : D}, Rp K H v d → Rp K H' v d
  | _, _, .non => .non
  | _, _, .bl b => .bl b
  | _, _, .int i => .int i
  | _, _, .str x => .str x
  | _, _, .lst h a => .lst (s _ _ h) (RpAll.mono s a)
  | _, _, .tup h a => .tup (s _ _ h) (RpAll.mono s a)
  | _, _, .dct h a => .dct (rd_mono s h) (RpKV.mono s a)
  | _, _, .scr h => .scr (s.seq h)
  | _, _, .clo h1 h2 h3 h4 => .clo (s _ _ h1) (s _ _ h2) h3 (RpCl.mono s h4)
  | _, _, .lam h1 h2 => .lam (s _ _ h1) (s _ _ h2)
  | _, _, .ins h1 h2 h3 => .ins (s _ _ h1) (s _ _ h2) (RpF.mono s h3)
  | _, _, .obj => .obj
theorem RpAll.mono (s : Same H H') : ∀ {v : List V} {d : List D}, RpAll K H v d → RpAll K H' v d
  | _, _, .nil => .nil
  | _, _, .cons h t => .cons (Rp.mono s h) (RpAll.mono s t)
theorem RpKV.mono (s : Same H H') : ∀ {v : List (Key × V)} {d : List (Int × D)}, RpKV K H v d → RpKV K H' v d
  | _, _, .nil => .nil
  | _, _, .cons h t => .cons (Rp.mono s h) (RpKV.mono s t)
theorem RpF.mono (s : Same H H') : ∀ {v : List (Str × V)} {d : List (Str × D)}, RpF K H v d → RpF K H' v d
  | _, _, .nil => .nil
  | _, _, .cons h t => .cons (Rp.mono s h) (RpF.mono s t)
theorem RpCl.mono (s : Same H H') : ∀ {v : List (Str × Addr)} {d : List D}, RpCl K H v d → RpCl K H' v d
  | _, _, .nil => .nil
  | _, _, .cons h1 h2 h3 h t => .cons (s _ _ h1) h2 h3 (Rp.mono s h) (RpCl.mono s t)
end
theorem RpAll.length : ∀ {vs : List V} {ds : List D}, RpAll K H vs ds → vs.length = ds.length
  | _, _, .nil => rfl
  | _, _, .cons _ t => congrArg (· + 1) t.length
theorem RpAll.get : ∀ {vs : List V} {ds : List D} {i : Nat} {d : D}, RpAll K H vs ds → ds[i]? = some d → ∃ v, vs[i]? = some v ∧ Rp K H v d
  | _, _, _, _, .nil, e => by simp at e
  | _, _, 0, _, .cons h _, e => by simp at e; subst e; exact ⟨_, rfl, h⟩
  | _, _, i + 1, d, .cons _ t, e => by
    obtain ⟨v, h1, h2⟩ := RpAll.get (i := i) (d := d) t (by simpa using e)
    exact ⟨v, by simpa using h1, h2⟩
theorem RpAll.get' : ∀ {vs : List V} {ds : List D} {i : Nat} {v : V}, RpAll K H vs ds → vs[i]? = some v → ∃ d, ds[i]? = some d ∧ Rp K H v d
  | _, _, _, _, .nil, e => by simp at e
  | _, _, 0, _, .cons h _, e => by simp at e; subst e; exact ⟨_, rfl, h⟩
  | _, _, i + 1, v, .cons _ t, e => by
    obtain ⟨d, h1, h2⟩ := RpAll.get' (i := i) (v := v) t (by simpa using e)
    exact ⟨d, by simpa using h1, h2⟩
theorem RpAll.append : ∀ {vs ws : List V} {ds es : List D}, RpAll K H vs ds → RpAll K H ws es → RpAll K H (vs ++ ws) (ds ++ es)
  | _, _, _, _, .nil, h => h
  | _, _, _, _, .cons a t, h => .cons a (t.append h)
theorem RpAll.drop : ∀ {vs : List V} {ds : List D} (n : Nat), RpAll K H vs ds → RpAll K H (vs.drop n) (ds.drop n)
  | _, _, 0, h => h
  | _, _, _ + 1, .nil => .nil
  | _, _, n + 1, .cons _ t => RpAll.drop n t
theorem RpAll.take : ∀ {vs : List V} {ds : List D} (n : Nat), RpAll K H vs ds → RpAll K H (vs.take n) (ds.take n)
  | _, _, 0, _ => .nil
  | _, _, _ + 1, .nil => .nil
  | _, _, n + 1, .cons a t => .cons a (RpAll.take n t)
theorem RpAll.reverse {vs : List V} {ds : List D} (h : RpAll K H vs ds) : RpAll K H vs.reverse ds.reverse := by
  induction ds generalizing vs with
  | nil => cases h; exact .nil
  | cons d ds ih =>
    cases h with
    | cons a t =>
      rw [List.reverse_cons, List.reverse_cons]
      exact (ih t).append (.cons a .nil)
theorem RpAll.nil_iff {vs : List V} {ds : List D} (h : RpAll K H vs ds) : vs = [] ↔ ds = [] := by
  have e := h.length
  constructor
  · intro z; subst z; cases ds with
    | nil => rfl
    | cons _ _ => simp at e
  · intro z; subst z; cases vs with
    | nil => rfl
    | cons _ _ => simp at e
end

/-! ### results -/
inductive Rs (α : Type) where
  | ok (a : α) | ex (c : Nat) | bad
def Rs.bind {α β : Type} (r : Rs α) (f : α → Rs β) : Rs β := match r with
  | .ok a => f a
  | .ex c => .ex c
  | .bad => .bad
def Rs.of {α : Type} (o : Option α) : Rs α := match o with
  | some a => .ok a
  | none => .bad
abbrev Sl := List (Option D)

/-! ### the frame rule: objects put aside -/
def hide (as : List Addr) (H : Hp) : Hp := fun a => if a ∈ as then none else H a
def put (as : List Addr) (H H' : Hp) : Hp := fun a => if a ∈ as then H a else H' a
def Mu (as : List Addr) (H : Hp) : Prop := ∀ a ∈ as, (∃ xs, H a = some (.lst xs)) ∨ ∃ kvs, H a = some (.dK kvs)
theorem hide_in {as : List Addr} {H : Hp} {a : Addr} (h : a ∈ as) : hide as H a = none := by unfold hide; rw [if_pos h]
theorem hide_out {as : List Addr} {H : Hp} {a : Addr} (h : a ∉ as) : hide as H a = H a := by unfold hide; rw [if_neg h]
theorem put_in {as : List Addr} {H H' : Hp} {a : Addr} (h : a ∈ as) : put as H H' a = H a := by unfold put; rw [if_pos h]
theorem put_out {as : List Addr} {H H' : Hp} {a : Addr} (h : a ∉ as) : put as H H' a = H' a := by unfold put; rw [if_neg h]
theorem hide_nil (H : Hp) : hide [] H = H := by funext a; exact hide_out (by simp)
theorem put_nil (H H' : Hp) : put [] H H' = H' := by funext a; exact put_out (by simp)
theorem hide_same {as : List Addr} {H : Hp} : Same (hide as H) H := .of fun a o e => by
  by_cases h : a ∈ as
  · rw [hide_in h] at e; cases e
  · rw [hide_out h] at e; exact e
theorem hide_put {as : List Addr} {H H1 : Hp} (h : ∀ a ∈ as, H1 a = none) : hide as (put as H H1) = H1 := by
  funext a
  by_cases ha : a ∈ as
  · rw [hide_in ha, h a ha]
  · rw [hide_out ha, put_out ha]
theorem Mu.ne {as : List Addr} {H : Hp} (m : Mu as H) {a : Addr} (h : a ∈ as) : ∃ o, H a = some o ∧ ∀ b, b = a → H b = some o := by
  rcases m a h with ⟨xs, e⟩ | ⟨xs, e⟩
  · exact ⟨_, e, fun b z => by rw [z]; exact e⟩
  · exact ⟨_, e, fun b z => by rw [z]; exact e⟩

section
variable {X : Cx} {pins : List (Addr × Obj)} {σ : L2.St} {H : Hp} {s : Shared} {as : List Addr}
theorem Mu.obj (m : Mu as H) (I : L2.Inv X pins σ H s) : ∀ a ∈ as, ∃ o, s.heap.get? a = some o ∧ ∀ v, o.data ≠ .cell v := fun a ha => by
  rcases m a ha with ⟨xs, e⟩ | ⟨kvs, e⟩
  · obtain ⟨_, its, n, _, q⟩ := I.hok a _ e
    exact ⟨_, q, fun v z => by cases z⟩
  · obtain ⟨_, _, vs, _, o, es, ep, q, c, d, _⟩ := I.hok a _ e
    exact ⟨o, q, fun v z => by first | (rw [d] at z; cases z) | (rw [c] at z; cases z) | (simp_all)⟩
theorem fs_free (I : L2.Inv X pins σ H s) {b : Addr} (hb : b ∈ X.fs) : H b = none := by
  obtain ⟨_, o, ho, _⟩ := I.ok.funs.mem hb
  exact I.base.free b o ho (I.ok.frf b hb) fun z => I.ok.exfs b z hb
theorem hidden (I : L2.Inv X pins σ H s) (m : Mu as H) : ∃ np : List (Addr × Obj), (∀ p ∈ np, p.1 ∈ as) ∧ (∀ a ∈ as, ∃ o, (a, o) ∈ np ∧ s.heap.get? a = some o) ∧ L2.Inv X (pins ++ np) σ (hide as H) s := by
  have nh : ∀ b o, H b = some o → (∀ xs, o ≠ .lst xs) → (∀ kvs, o ≠ .dK kvs) → b ∉ as := fun b o e h1 h2 hb => by
    rcases m b hb with ⟨xs, q⟩ | ⟨xs, q⟩
    · rw [e] at q; cases q; exact h1 _ rfl
    · rw [e] at q; cases q; exact h2 _ rfl
  refine ⟨as.filterMap fun a => (s.heap.get? a).map fun o => (a, o), ?_, ?_, ?_⟩
  · intro p hp
    obtain ⟨b, hb, e⟩ := List.mem_filterMap.mp hp
    cases q : s.heap.get? b with
    | none => rw [q] at e; cases e
    | some o =>
      rw [q] at e
      have e' : (b, o) = p := Option.some.inj e
      subst e'
      exact hb
  · intro a ha
    obtain ⟨o, e, _⟩ := m.obj I a ha
    exact ⟨o, List.mem_filterMap.mpr ⟨a, ha, by rw [e]; rfl⟩, e⟩
  · have sub : ∀ b, H b = none → hide as H b = none := fun b e => by
      by_cases hb : b ∈ as
      · exact hide_in hb
      · rw [hide_out hb]; exact e
    refine ⟨I.ok, I.os, I.bare, ⟨I.base.keep, I.base.slot, fun b o e n hx => sub b (I.base.free b o e n hx), I.base.there, fun b xs e => ?_, fun b o u e => ?_, fun b ps e => ?_⟩, I.loc, I.cell, sub _ I.free, fun x c e => sub c (I.freeC x c e), fun p hp => ?_, fun b o e => ?_, I.len⟩
    · have q := I.base.tups b xs e
      rw [hide_out (nh b _ q (fun _ z => by cases z) (fun _ z => by cases z))]; exact q
    · have q := I.base.frzs b o u e
      rw [hide_out (nh b _ q (fun _ z => by cases z) (fun _ z => by cases z))]; exact q
    · obtain ⟨more, q⟩ := I.base.tbls b ps e
      exact ⟨more, by rw [hide_out (nh b _ q (fun _ z => by cases z) (fun _ z => by cases z))]; exact q⟩
    · rw [← List.append_assoc] at hp
      rcases List.mem_append.mp hp with hp | hp
      · obtain ⟨e, n, r⟩ := I.pin p hp
        exact ⟨e, sub _ n, r⟩
      · obtain ⟨b, hb, e⟩ := List.mem_filterMap.mp hp
        obtain ⟨o, q, d⟩ := m.obj I b hb
        rw [q] at e
        have e' : (b, o) = p := Option.some.inj e
        subst e'
        refine ⟨q, hide_in hb, fun z => ?_, fun z => ?_, d⟩
        · have z : b = X.env.locals := z
          obtain ⟨o', h1, _⟩ := m.ne hb
          rw [z, I.free] at h1; cases h1
        · obtain ⟨o', h1, _⟩ := m.ne hb
          rw [fs_free I z] at h1; cases h1
    · by_cases hb : b ∈ as
      · rw [hide_in hb] at e; cases e
      · rw [hide_out hb] at e
        refine (I.hok b o e).stay (fun c v _ q => q) (fun c q => ?_) (fun c xs q => ?_)
        · rw [hide_out (nh c _ q (fun _ z => by cases z) (fun _ z => by cases z))]; exact q
        · rw [hide_out (nh c _ q (fun _ z => by cases z) (fun _ z => by cases z))]; exact q
/-- back from behind the frame -/
theorem unhidden {np : List (Addr × Obj)} {H1 : Hp} {s1 : Shared} {σ1 : L2.St} (I : L2.Inv X pins σ H s) (m : Mu as H) (hn : ∀ a ∈ as, ∃ o, (a, o) ∈ np ∧ s.heap.get? a = some o) (J : L2.Inv X (pins ++ np) σ1 H1 s1) :
    (∀ a ∈ as, H1 a = none) ∧ L2.Inv X pins σ1 (put as H H1) s1 := by
  have h1 : ∀ a ∈ as, H1 a = none := fun a ha => by
    obtain ⟨o, ho, _⟩ := hn a ha
    exact (J.pin (a, o) (List.mem_append_right _ (List.mem_append_right _ ho))).2.1
  have h2 : ∀ a ∈ as, ∀ o, s.heap.get? a = some o → s1.heap.get? a = some o := fun a ha o e => by
    obtain ⟨o', ho, e'⟩ := hn a ha
    rw [e] at e'; cases e'
    exact (J.pin (a, o) (List.mem_append_right _ (List.mem_append_right _ ho))).1
  have pn : ∀ b, H b = none → H1 b = none → put as H H1 b = none := fun b e e1 => by
    by_cases hb : b ∈ as
    · rw [put_in hb]; exact e
    · rw [put_out hb]; exact e1
  have p1 : ∀ b o, H1 b = some o → put as H H1 b = some o := fun b o e => by
    rw [put_out (fun hb => by rw [h1 b hb] at e; cases e)]; exact e
  refine ⟨h1, J.ok, J.os, J.bare, ⟨J.base.keep, J.base.slot, fun b o e n hx => pn b (I.base.free b o e n hx) (J.base.free b o e n hx), J.base.there, fun b xs e => p1 b _ (J.base.tups b xs e), fun b o u e => p1 b _ (J.base.frzs b o u e), fun b ps e => ?_⟩, J.loc, J.cell, pn _ I.free J.free, fun x c e => pn c (I.freeC x c e) (J.freeC x c e), fun p hp => ?_, fun b o e => ?_, J.len⟩
  · obtain ⟨more, q⟩ := J.base.tbls b ps e
    exact ⟨more, p1 b _ q⟩
  · obtain ⟨e, n, r⟩ := J.pin p (by rw [← List.append_assoc]; exact List.mem_append_left _ hp)
    exact ⟨e, pn _ (I.pin p hp).2.1 n, r⟩
  · by_cases hb : b ∈ as
    · rw [put_in hb] at e
      have q := I.hok b o e
      rcases m b hb with ⟨xs, z⟩ | ⟨kvs, z⟩
      · rw [e] at z; cases z
        obtain ⟨z, its, n, r, g⟩ := q
        exact ⟨z, its, n, r, h2 b hb _ g⟩
      · rw [e] at z; cases z
        obtain ⟨z, y, vs, r, ob, es, ep, g, c⟩ := q
        exact ⟨z, y, vs, r, ob, es, ep, h2 b hb _ g, c⟩
    · rw [put_out hb] at e
      exact (J.hok b o e).stay (fun c v _ q => q) (fun c q => p1 c _ q) (fun c xs q => p1 c _ q)
end
def tFr (t : TE) : TE := fun σ H Q => ∃ as, Mu as H ∧ t σ (hide as H) fun v H1 => (∀ a ∈ as, H1 a = none) → Q v (put as H H1)
def aFr (t : TA) : TA := fun σ H Q => ∃ as, Mu as H ∧ t σ (hide as H) fun v H1 => (∀ a ∈ as, H1 a = none) → Q v (put as H H1)
def ttFr (t : TT) : TT := fun σ H Q => ∃ as, Mu as H ∧ t σ (hide as H) fun v H1 => (∀ a ∈ as, H1 a = none) → Q v (put as H H1)
def iFr (t : TI) : TI := fun σ H Q => ∃ as, Mu as H ∧ t σ (hide as H) fun J H1 => (∀ a ∈ as, H1 a = none) → Q J (put as H H1)
section
variable {X : Cx} {e : Expr}
theorem pe_fr {t : TE} (h : PE X e t) : PE X e (tFr t) := by
  refine ⟨fun pins s σ H Q I hw => ?_⟩
  obtain ⟨as, m, hw⟩ := hw
  obtain ⟨np, _, hn, I1⟩ := hidden I m
  refine thn (h.run (pins ++ np) s σ (hide as H) _ I1 hw) fun v s1 ⟨x, H1, J, r, q⟩ => ?_
  obtain ⟨a, b⟩ := unhidden I m hn J
  exact ⟨x, _, b, r, q a⟩
theorem pa_fr {es : List Expr} {t : TA} (h : PA X es t) : PA X es (aFr t) := by
  refine ⟨fun pos pins s σ H Q I hw => ?_⟩
  obtain ⟨as, m, hw⟩ := hw
  obtain ⟨np, _, hn, I1⟩ := hidden I m
  refine thn (h.run pos (pins ++ np) s σ (hide as H) _ I1 hw) fun v s1 ⟨x, H1, J, r, q⟩ => ?_
  obtain ⟨a, b⟩ := unhidden I m hn J
  exact ⟨x, _, b, r, q a⟩
theorem pt_fr {t : TT} (h : PT X e t) : PT X e (ttFr t) := by
  refine ⟨fun pins s σ H Q I hw => ?_⟩
  obtain ⟨as, m, hw⟩ := hw
  obtain ⟨np, _, hn, I1⟩ := hidden I m
  refine thn (h.run (pins ++ np) s σ (hide as H) _ I1 hw) fun v s1 ⟨H1, J, q⟩ => ?_
  obtain ⟨a, b⟩ := unhidden I m hn J
  exact ⟨_, b, q a⟩
theorem pi_fr {tg : Expr} {t : TI} (h : PI X tg e t) : PI X tg e (iFr t) := by
  refine ⟨fun pins s σ H Q I hw => ?_⟩
  obtain ⟨as, m, hw⟩ := hw
  obtain ⟨np, _, hn, I1⟩ := hidden I m
  refine thn (h.run (pins ++ np) s σ (hide as H) _ I1 hw) fun v s1 h1 => thn h1 fun u s2 h2 => ?_
  obtain ⟨it, fp, tn, J, H', e1, I2, T, t0, f, q⟩ := h2
  obtain ⟨a, b⟩ := unhidden I m hn I2
  refine ⟨it, fp, tn, J, _, e1, b, T, t0, fun c hc => ?_, q a⟩
  obtain ⟨f0, f1, f2, f3, f4, f5⟩ := f c hc
  refine ⟨?_, f1, f2, f3, f4, fun p hp => f5 p (by rw [← List.append_assoc]; exact List.mem_append_left _ hp)⟩
  have nc : c ∉ as := fun hc' => by
    obtain ⟨o, ho, _⟩ := hn c hc'
    exact f5 (c, o) (List.mem_append_right _ (List.mem_append_right _ ho)) rfl
  rw [put_out nc]; exact f0
end
end PB

namespace PB
open PySem PySem.Spec PyProof.Rows L2

def cs {α : Type} (r : Rs α) (p : α → Prop) (q : Nat → Prop) : Prop := match r with
  | .ok a => p a
  | .ex c => q c
  | .bad => False
theorem cs_mono {α : Type} {r : Rs α} {p p' : α → Prop} {q q' : Nat → Prop} (h : cs r p q) (hp : ∀ a, p a → p' a) (hq : ∀ c, q c → q' c) : cs r p' q' := by
  cases r with
  | ok a => exact hp a h
  | ex c => exact hq c h
  | bad => exact h
theorem cs_bind {α β : Type} {r : Rs α} {f : α → Rs β} {p : β → Prop} {q : Nat → Prop} (h : cs (r.bind f) p q) : cs r (fun a => cs (f a) p q) q := by
  cases r with
  | ok a => exact h
  | ex c => exact h
  | bad => exact h
theorem cs_of {α : Type} {o : Option α} {p : α → Prop} {q : Nat → Prop} (h : cs (Rs.of o) p q) : ∃ a, o = some a ∧ p a := by
  cases o with
  | none => exact h.elim
  | some a => exact ⟨a, rfl, h⟩

abbrev Wsh := Nat → L2.St → Hp → Prop
def wx (ec : Nat → Addr) (W : Wsh) : WX := fun cls d σ H => ∃ c, cls = .ref (ec c) ∧ d = none ∧ W c σ H
def W0 : Wsh := fun _ _ _ => False

def R0 (K : PySem.W.Frag) (σ : L2.St) (H : Hp) (ρ : Sl) : Prop := (ρ.length ≤ σ.length ∧ AllTab K H) ∧ ∀ (i : Nat) (d : D), ρ[i]? = some (some d) → ∃ v, σ[i]? = some (some v) ∧ Rp K H v d
theorem R0.mono {K : PySem.W.Frag} {σ : L2.St} {H H' : Hp} {ρ : Sl} (h : R0 K σ H ρ) (s : Same H H') : R0 K σ H' ρ := ⟨⟨h.1.1, h.1.2.mono s⟩, fun i d e => by
  obtain ⟨v, e1, r⟩ := h.2 i d e
  exact ⟨v, e1, r.mono s⟩⟩
def tE (K : PySem.W.Frag) (W : Wsh) (F : Sl → Rs D) : TE := fun σ H Q => ∃ ρ, R0 K σ H ρ ∧ cs (F ρ) (fun d => ∀ v H', Same H H' → Rp K H' v d → Q v H') (fun c => ∀ H', Same H H' → W c σ H')
def tA (K : PySem.W.Frag) (W : Wsh) (F : Sl → Rs (List D)) : TA := fun σ H Q => ∃ ρ, R0 K σ H ρ ∧ cs (F ρ) (fun ds => ∀ vs H', Same H H' → RpAll K H' vs ds → Q vs H') (fun c => ∀ H', Same H H' → W c σ H')
def tT (K : PySem.W.Frag) (W : Wsh) (F : Sl → Rs Bool) : TT := fun σ H Q => ∃ ρ, R0 K σ H ρ ∧ cs (F ρ) (fun b => ∀ H', Same H H' → Q b H') (fun c => ∀ H', Same H H' → W c σ H')
theorem same_new {H : Hp} {p : Addr} {o : HO} (h : H p = none) : Same H (upd H p o) := .of fun b x e => by
  rw [upd_ne (ne_of_none e h)]; exact e
/-- neither a table nor another thing -/
def isX : HO → Bool
  | .tbl _ => true
  | .ext _ => true
  | _ => false
theorem isX_t {o : HO} (h : isX o = false) : NT o := by cases o <;> first | rfl | cases h
theorem TabP.hid {H : Hp} {as : List Addr} {P : Addr} (t : TabP H P) (m : ∀ a ∈ as, ∃ o, H a = some o ∧ isX o = false) : TabP (hide as H) P := by
  obtain ⟨ps, h1, h2, h3⟩ := t
  refine ⟨ps, ?_, h2, fun pos cv hc => ?_⟩
  · rw [hide_out (fun z => by obtain ⟨o, e, n⟩ := m P z; rw [h1] at e; cases e; cases n)]; exact h1
  · obtain ⟨c, e1, e2⟩ := h3 pos cv hc
    refine ⟨c, e1, ?_⟩
    rw [hide_out (fun z => by obtain ⟨o, e, n⟩ := m c z; rw [e2] at e; cases e; cases n)]; exact e2
/-- tables and what they tell are tables and other things -/
theorem TabP.go {H H' : Hp} {P : Addr} (t : TabP H P) (e : ∀ b o, H b = some o → isX o = true → H' b = some o) : TabP H' P := by
  obtain ⟨ps, h1, h2, h3⟩ := t
  refine ⟨ps, e _ _ h1 rfl, h2, fun pos cv hc => ?_⟩
  obtain ⟨c, e1, e2⟩ := h3 pos cv hc
  exact ⟨c, e1, e _ _ e2 rfl⟩
theorem same_hideM {H H' : Hp} {as : List Addr} (s : Same H H') (m : ∀ a ∈ as, ∃ o, H a = some o ∧ isX o = false) : Same (hide as H) (hide as H') := by
  refine ⟨fun b o e n => ?_, fun P t => ?_⟩
  · by_cases hb : b ∈ as
    · rw [hide_in hb] at e; cases e
    · rw [hide_out hb] at e ⊢; exact s.o b o e n
  · refine (s.t P (t.ext fun b o e => ?_)).hid fun a ha => ?_
    · by_cases hb : b ∈ as
      · rw [hide_in hb] at e; cases e
      · rw [hide_out hb] at e; exact e
    · obtain ⟨o, e, n⟩ := m a ha
      exact ⟨o, s.o a o e (isX_t n), n⟩
theorem Mu.nx {as : List Addr} {H : Hp} (m : Mu as H) : ∀ a ∈ as, ∃ o, H a = some o ∧ isX o = false := fun a ha => by
  rcases m a ha with ⟨xs, e⟩ | ⟨xs, e⟩
  · exact ⟨_, e, rfl⟩
  · exact ⟨_, e, rfl⟩
theorem AllTab.hid {K : PySem.W.Frag} {H : Hp} {as : List Addr} (t : AllTab K H) (m : ∀ a ∈ as, ∃ o, H a = some o ∧ isX o = false) : AllTab K (hide as H) := fun x hx e => (t x hx e).hid m
theorem pe_imp {X : Cx} {e : Expr} {t t' : TE} (h : PE X e t) (f : ∀ σ H Q, t' σ H Q → t σ H Q) : PE X e t' := ⟨fun pins s σ H Q I hw => h.run pins s σ H Q I (f σ H Q hw)⟩
theorem pa_imp {X : Cx} {e : List Expr} {t t' : TA} (h : PA X e t) (f : ∀ σ H Q, t' σ H Q → t σ H Q) : PA X e t' := ⟨fun pos pins s σ H Q I hw => h.run pos pins s σ H Q I (f σ H Q hw)⟩
theorem pt_imp {X : Cx} {e : Expr} {t t' : TT} (h : PT X e t) (f : ∀ σ H Q, t' σ H Q → t σ H Q) : PT X e t' := ⟨fun pins s σ H Q I hw => h.run pins s σ H Q I (f σ H Q hw)⟩
theorem pw_imp {X : Cx} {e : Expr} {t t' : TT} (h : PW X e t) (f : ∀ σ H Q, t' σ H Q → t σ H Q) : PW X e t' := ⟨fun wh pins s σ H Q I hw => h.run wh pins s σ H Q I (f σ H Q hw)⟩
theorem pi_imp {X : Cx} {tg e : Expr} {t t' : TI} (h : PI X tg e t) (f : ∀ σ H Q, t' σ H Q → t σ H Q) : PI X tg e t' := ⟨fun pins s σ H Q I hw => h.run pins s σ H Q I (f σ H Q hw)⟩
theorem pss_imp {X : Cx} {e : List Stmt} {t t' : TS} (h : PSs X e t) (f : ∀ D σ H, t' D σ H → t D σ H) : PSs X e t' := ⟨fun pins s σ H D I hw => h.run pins s σ H D I (f D σ H hw)⟩
theorem ps_imp {X : Cx} {e : Stmt} {t t' : TS} (h : PS X e t) (f : ∀ D σ H, t' D σ H → t D σ H) : PS X e t' := ⟨fun pins s σ H D I hw => h.run pins s σ H D I (f D σ H hw)⟩
/-- what is asked behind an expression, from its wish -/
theorem te_in {K : PySem.W.Frag} {W : Wsh} {F : Sl → Rs D} {σ : L2.St} {H : Hp} {Q : VK} {ρ : Sl} (r : R0 K σ H ρ) (h : cs (F ρ) (fun d => ∀ v H', Same H H' → Rp K H' v d → Q v H') (fun c => ∀ H', Same H H' → W c σ H')) : tE K W F σ H Q := ⟨ρ, r, h⟩

/-! ### names, constants -/
def eVar (i : Nat) : Sl → Rs D := fun ρ => match ρ[i]? with
  | some (some d) => .ok d
  | _ => .bad
def eC (d : D) : Sl → Rs D := fun _ => .ok d
section
variable {X : Cx} {W : Wsh} {a b c : Expr} {F G G' : Sl → Rs D} {pos : Pos}
theorem e_var (i : Nat) {x : Str} (hN : X.N[i]? = some x := by rfl) (hv : Vis X.env.scope x := by first | exact Or.inl rfl | exact Or.inr (Or.inl rfl) | exact Or.inr (Or.inr rfl)) (hd : (x == ("__debug__" : Str)) = false := by decide)
    (hcd : (x == ("__classdict__" : Str)) = false := by decide) : PE X (.Name x pos) (tE X.K W (eVar i)) := by
  refine pe_imp (pv i hN hv hd hcd) fun σ H Q h => ?_
  obtain ⟨ρ, r, h⟩ := h
  unfold eVar at h
  cases e : ρ[i]? with
  | none => rw [e] at h; exact h.elim
  | some o =>
    cases o with
    | none => rw [e] at h; exact h.elim
    | some d =>
      rw [e] at h
      obtain ⟨v, e1, rv⟩ := r.2 i d e
      exact ⟨v, e1, h v H (Same.refl H) rv⟩
theorem e_const {e : Expr} {v : V} {d : D} (h : PE X e (tC v)) (r : ∀ H, Rp X.K H v d) : PE X e (tE X.K W (eC d)) := by
  refine pe_imp h fun σ H Q h => ?_
  obtain ⟨ρ, _, h⟩ := h
  exact h v H (Same.refl H) (r H)
theorem e_int {i j} : PE X (.Constant (.int i) j pos) (tE X.K W (eC (.int i))) := e_const pe_int fun _ => .int i
theorem e_bl {b j} : PE X (.Constant (.bool b) j pos) (tE X.K W (eC (.bl b))) := e_const pe_bl fun _ => .bl b
theorem e_non {j} : PE X (.Constant .none j pos) (tE X.K W (eC .non)) := e_const pe_non fun _ => .non
theorem e_str {x j} : PE X (.Constant (.str x) j pos) (tE X.K W (eC (.str x))) := e_const pe_str fun _ => .str x
theorem e_gint {x : Str} {i : Int} (hm : ∃ t, X.mg x = some (.int i t)) (hg : Gl X x := by rfl) (hd : (x == ("__debug__" : Str)) = false := by decide) : PE X (.Name x pos) (tE X.K W (eC (.int i))) := by
  obtain ⟨t, hm⟩ := hm
  exact e_const (pe_glob (v := .int i) hg hm ⟨t, rfl⟩ hd) fun _ => .int i
theorem e_gstr {x : Str} {i : Str} (hm : ∃ t, X.mg x = some (.str i t)) (hg : Gl X x := by rfl) (hd : (x == ("__debug__" : Str)) = false := by decide) : PE X (.Name x pos) (tE X.K W (eC (.str i))) := by
  obtain ⟨t, hm⟩ := hm
  exact e_const (pe_glob (v := .str i) hg hm ⟨t, rfl⟩ hd) fun _ => .str i

/-! ### two operands -/
def eBin (g : D → D → Option D) (F G : Sl → Rs D) : Sl → Rs D := fun ρ => (F ρ).bind fun x => (G ρ).bind fun y => Rs.of (g x y)
def eUn (g : D → Option D) (F : Sl → Rs D) : Sl → Rs D := fun ρ => (F ρ).bind fun x => Rs.of (g x)
def OpD (K : PySem.W.Frag) (r : R2) (g : D → D → Option D) : Prop := ∀ x y dx dy d H (Q : VK), Rp K H x dx → Rp K H y dy → g dx dy = some d → (∀ v H', Same H H' → Rp K H' v d → Q v H') → r x y H Q
def UnD (K : PySem.W.Frag) (r : V → Hp → VK → Prop) (g : D → Option D) : Prop := ∀ x dx d H (Q : VK), Rp K H x dx → g dx = some d → (∀ v H', Same H H' → Rp K H' v d → Q v H') → r x H Q
theorem t_bin {K : PySem.W.Frag} {r : R2} {g : D → D → Option D} (hg : OpD K r g) {σ : L2.St} {H : Hp} {Q : VK} (h : tE K W (eBin g F G) σ H Q) : tOp r (tE K W F) (tE K W G) σ H Q := by
  obtain ⟨ρ, rr, h⟩ := h
  refine ⟨ρ, rr, cs_mono (cs_bind h) (fun dx h1 v1 H1 s1 r1 => ?_) fun c q => q⟩
  refine ⟨ρ, rr.mono s1, cs_mono (cs_bind h1) (fun dy h2 v2 H2 s2 r2 => ?_) fun c q H' s => q H' (s1.trans s)⟩
  obtain ⟨d, e, h3⟩ := cs_of h2
  exact hg v1 v2 dx dy d H2 Q (r1.mono s2) r2 e fun v H' s r => h3 v H' ((s1.trans s2).trans s) r
theorem e_op {op : Operator} {r : R2} {g : D → D → Option D} (ho : OpR X (binaryOp op) r) (hg : OpD X.K r g) (ha : PE X a (tE X.K W F)) (hb : PE X b (tE X.K W G)) : PE X (.BinOp a op b pos) (tE X.K W (eBin g F G)) :=
  pe_imp (pe_op ho ha hb) fun _ _ _ h => t_bin hg h
theorem e_cmp {op : CmpOp} {r : R2} {g : D → D → Option D} (ho : OpR X (compareOp op) r) (hg : OpD X.K r g) (ha : PE X a (tE X.K W F)) (hb : PE X b (tE X.K W G)) (hm : behindInMarks op b = false) : PE X (.Compare a [op] [b] pos) (tE X.K W (eBin g F G)) :=
  pe_imp (pe_cmpR ho ha hb hm) fun _ _ _ h => t_bin hg h
theorem e_un {op : UnaryOp} {r : V → Hp → VK → Prop} {g : D → Option D} (ho : UnR X (unaryOp op) r) (hg : UnD X.K r g) (ha : PE X a (tE X.K W F)) : PE X (.UnaryOp op a pos) (tE X.K W (eUn g F)) := by
  refine pe_imp (pe_un ho ha) fun σ H Q h => ?_
  obtain ⟨ρ, rr, h⟩ := h
  refine ⟨ρ, rr, cs_mono (cs_bind h) (fun dx h1 v1 H1 s1 r1 => ?_) fun c q => q⟩
  obtain ⟨d, e, h3⟩ := cs_of h1
  exact hg v1 dx d H1 Q r1 e fun v H' s r => h3 v H' (s1.trans s) r
theorem OpD.or {K : PySem.W.Frag} {r r' : R2} {g g' : D → D → Option D} (h : OpD K r g) (h' : OpD K r' g') : OpD K (fun x y H Q => r x y H Q ∨ r' x y H Q) (fun x y => (g x y).orElse fun _ => g' x y) := by
  intro x y dx dy d H Q rx ry e k
  cases q : g dx dy with
  | some d' => simp [q] at e; subst e; exact .inl (h x y dx dy d' H Q rx ry q k)
  | none => simp [q] at e; exact .inr (h' x y dx dy d H Q rx ry e k)
/-- the semantics written another way -/
theorem OpD.ext {K : PySem.W.Frag} {r : R2} {g g' : D → D → Option D} (h : OpD K r g) (e : ∀ x y d, g' x y = some d → g x y = some d) : OpD K r g' := fun x y dx dy d H Q rx ry q k => h x y dx dy d H Q rx ry (e _ _ _ q) k
end

/-! ### ints -/
def dI2 (f : Int → Int → D) : D → D → Option D
  | .int i, .int j => some (f i j)
  | _, _ => none
def dI2c (C : Int → Int → Bool) (f : Int → Int → D) : D → D → Option D
  | .int i, .int j => if C i j = true then some (f i j) else none
  | _, _ => none
section
variable {K : PySem.W.Frag}
theorem rp_int {H : Hp} {x : V} {i : Int} (h : Rp K H x (.int i)) : x = .int i := by cases h; rfl
theorem rp_bl {H : Hp} {x : V} {i : Bool} (h : Rp K H x (.bl i)) : x = .bl i := by cases h; rfl
theorem rp_str {H : Hp} {x : V} {i : Str} (h : Rp K H x (.str i)) : x = .str i := by cases h; rfl
theorem rp_non {H : Hp} {x : V} (h : Rp K H x .non) : x = .non := by cases h; rfl
theorem rp_lst {H : Hp} {x : V} {ds : List D} (h : Rp K H x (.lst ds)) : ∃ a xs, x = .ref a ∧ H a = some (.lst xs) ∧ RpAll K H xs ds := by cases h with | lst h a => exact ⟨_, _, rfl, h, a⟩
theorem rp_tup {H : Hp} {x : V} {ds : List D} (h : Rp K H x (.tup ds)) : ∃ a xs, x = .ref a ∧ H a = some (.tup xs) ∧ RpAll K H xs ds := by cases h with | tup h a => exact ⟨_, _, rfl, h, a⟩
theorem rp_dct {H : Hp} {x : V} {ds : List (Int × D)} (h : Rp K H x (.dct ds)) : ∃ a xs, x = .ref a ∧ Rd H a (.dK xs) ∧ RpKV K H xs ds := by cases h with | dct h a => exact ⟨_, _, rfl, h, a⟩
theorem rp_scr {H : Hp} {x : V} {ns : List Int} (h : Rp K H x (.scr ns)) : ∃ a, x = .ref a ∧ SqL K H a (ns.map V.int) := by cases h with | scr h => exact ⟨_, rfl, h⟩
theorem od_I0 {g : Int → Int → V} {f : Int → Int → D} (h : ∀ H i j, Rp K H (g i j) (f i j)) : OpD K (rI0 g) (dI2 f) := by
  intro x y dx dy d H Q rx ry e k
  cases dx <;> cases dy <;> simp only [dI2] at e <;> try contradiction
  rename_i i j
  cases e
  exact ⟨i, j, rp_int rx, rp_int ry, k _ H (Same.refl H) (h H i j)⟩
theorem od_I {C : Int → Int → Prop} {C' : Int → Int → Bool} {g : Int → Int → V} {f : Int → Int → D} (hC : ∀ i j, C' i j = true → C i j) (h : ∀ H i j, Rp K H (g i j) (f i j)) : OpD K (rI C g) (dI2c C' f) := by
  intro x y dx dy d H Q rx ry e k
  cases dx <;> cases dy <;> simp only [dI2c] at e <;> try contradiction
  rename_i i j
  by_cases hc : C' i j = true
  · rw [if_pos hc] at e; cases e
    exact ⟨i, j, rp_int rx, rp_int ry, hC i j hc, k _ H (Same.refl H) (h H i j)⟩
  · rw [if_neg hc] at e; cases e
end
/-- the largest size of a list, a tuple, a text here -/
abbrev LB : Nat := 1000000
theorem lb_le {n : Nat} (h : n ≤ 1000000) : n ≤ sizeLine := Nat.le_trans h (by decide)
def dAdd : D → D → Option D
  | .int i, .int j => some (.int (i + j))
  | .str a, .str b => if a.length + b.length ≤ 1000000 then some (.str (a ++ b)) else none
  | .tup a, .tup b => if a.length + b.length ≤ 1000000 then some (.tup (a ++ b)) else none
  | .lst a, .lst b => if a.length + b.length ≤ 1000000 then some (.lst (a ++ b)) else none
  | _, _ => none
def dSub : D → D → Option D := dI2 fun i j => .int (i - j)
def dMul : D → D → Option D
  | .int i, .int j => if (-(2 ^ 64) < i ∧ i < 2 ^ 64) ∨ (-(2 ^ 64) < j ∧ j < 2 ^ 64) then some (.int (i * j)) else none
  | .lst a, .int k => if 0 ≤ k ∧ k ≤ 1000 ∧ a.length ≤ 1000 then some (.lst (List.replicate k.toNat a).flatten) else none
  | .tup a, .int k => if 2 ≤ k ∧ k ≤ 1000 ∧ a.length ≤ 1000 ∧ a ≠ [] then some (.tup (List.replicate k.toNat a).flatten) else none
  | _, _ => none
def dDiv : D → D → Option D
  | .int i, .int j => if 0 < j ∧ j ≤ 10 ^ 30 then some (.int (i / j)) else none
  | _, _ => none
def dMod : D → D → Option D
  | .int i, .int j => if 0 < j then some (.int (i % j)) else none
  | _, _ => none
def dPow : D → D → Option D
  | .int i, .int j => if 0 ≤ j ∧ j ≤ 1000 ∧ i.natAbs < 2 ^ 64 then some (.int (i ^ j.toNat)) else none
  | _, _ => none
theorem RpAll.rep {K : PySem.W.Frag} {H : Hp} {vs : List V} {ds : List D} (h : RpAll K H vs ds) : ∀ k : Nat, RpAll K H (List.replicate k vs).flatten (List.replicate k ds).flatten
  | 0 => .nil
  | k + 1 => by
    rw [List.replicate_succ, List.replicate_succ, List.flatten_cons, List.flatten_cons]
    exact h.append (RpAll.rep h k)
section
variable {K : PySem.W.Frag}
def rAddA (K : PySem.W.Frag) : R2 := fun x y H Q => (rI0 fun i j => .int (i + j)) x y H Q ∨ ((∃ i j, x = .str i ∧ y = .str j ∧ i.length + j.length ≤ sizeLine ∧ Q (.str (i ++ j)) H) ∨ (rCatA K x y H Q ∨ rCat x y H Q))
theorem o_add {X : Cx} : OpR X (binaryOp .Add) (rAddA X.K) := OpR.or op_add (OpR.or op_add_str (OpR.or op_catA op_cat))
theorem od_add : OpD K (rAddA K) dAdd := by
  intro x y dx dy d H Q rx ry e k
  cases dx <;> cases dy <;> simp only [dAdd] at e <;> try contradiction
  · cases e
    exact .inl ⟨_, _, rp_int rx, rp_int ry, k _ H (Same.refl H) (.int _)⟩
  · rename_i a b
    split at e
    · cases e
      exact .inr (.inl ⟨a, b, rp_str rx, rp_str ry, lb_le ‹_›, k _ H (Same.refl H) (.str _)⟩)
    · cases e
  · rename_i a b
    split at e
    · rename_i hl
      cases e
      obtain ⟨p, xs, e1, h1, a1⟩ := rp_lst rx
      obtain ⟨q, ys, e2, h2, a2⟩ := rp_lst ry
      have l1 := a1.length
      have l2 := a2.length
      exact .inr (.inr (.inr ⟨p, q, xs, ys, e1, e2, h1, h2, lb_le (by omega), fun n hn => k _ _ (same_new hn) (.lst upd_same ((a1.append a2).mono (same_new hn)))⟩))
    · cases e
  · rename_i a b
    split at e
    · rename_i hl
      cases e
      obtain ⟨p, xs, e1, h1, a1⟩ := rp_tup rx
      obtain ⟨q, ys, e2, h2, a2⟩ := rp_tup ry
      have l1 := a1.length
      have l2 := a2.length
      refine .inr (.inr (.inl ⟨p, q, xs, ys, e1, e2, SqT.of h1, SqT.of h2, lb_le (by omega), fun z => ?_, fun _ z => ?_, fun _ _ n hn => k _ _ (same_new hn) (.tup upd_same ((a1.append a2).mono (same_new hn)))⟩))
      · have z2 : a = [] := a1.nil_iff.mp z
        subst z2
        exact k _ H (Same.refl H) (.tup h2 a2)
      · have z2 : b = [] := a2.nil_iff.mp z
        subst z2
        refine k _ H (Same.refl H) (.tup h1 ?_)
        rw [List.append_nil]
        exact a1
    · cases e
theorem od_sub : OpD K (rI0 fun i j => .int (i - j)) dSub := od_I0 fun _ _ _ => .int _
def rMulA (K : PySem.W.Frag) : R2 := fun x y H Q => (rI CMul fun i j => .int (i * j)) x y H Q ∨ (rRep x y H Q ∨ rRepT K x y H Q)
theorem o_mul {X : Cx} : OpR X (binaryOp .Mult) (rMulA X.K) := OpR.or op_mul (OpR.or op_rep op_repT)
theorem od_mul : OpD K (rMulA K) dMul := by
  intro x y dx dy d H Q rx ry e k
  cases dx <;> cases dy <;> simp only [dMul] at e <;> try contradiction
  · rename_i i j
    split at e
    · rename_i hc
      cases e
      exact .inl ⟨_, _, rp_int rx, rp_int ry, hc, k _ H (Same.refl H) (.int _)⟩
    · cases e
  · rename_i a j
    split at e
    · rename_i hc
      cases e
      obtain ⟨p, xs, e1, h1, a1⟩ := rp_lst rx
      have l1 := a1.length
      have hm : xs.length * j.toNat ≤ 1000 * 1000 := Nat.mul_le_mul (by omega) (by omega)
      exact .inr (.inl ⟨p, j, xs, e1, rp_int ry, h1, by omega, by omega, lb_le hm, fun n hn => k _ _ (same_new hn) (.lst upd_same ((a1.rep _).mono (same_new hn)))⟩)
    · cases e
  · rename_i a j
    split at e
    · rename_i hc
      cases e
      obtain ⟨p, xs, e1, h1, a1⟩ := rp_tup rx
      have l1 := a1.length
      exact .inr (.inr ⟨p, j, xs, e1, rp_int ry, SqT.of h1, fun z => hc.2.2.2 (a1.nil_iff.mp z), hc.1, hc.2.1, by omega, fun n hn => k _ _ (same_new hn) (.tup upd_same ((a1.rep _).mono (same_new hn)))⟩)
    · cases e
theorem od_div : OpD K (rI CDivW fun i j => .int (i / j)) dDiv := by
  intro x y dx dy d H Q rx ry e k
  cases dx <;> cases dy <;> simp only [dDiv] at e <;> try contradiction
  rename_i i j
  split at e
  · rename_i hc
    cases e
    refine ⟨i, j, rp_int rx, rp_int ry, wide_div (b := 100) hc.1 ?_ (by decide) (by decide), k _ H (Same.refl H) (.int _)⟩
    have h1 : j.natAbs ≤ 10 ^ 30 := by omega
    exact Nat.lt_of_le_of_lt h1 (by decide)
  · cases e
theorem od_mod : OpD K (rI (fun _ j => 0 < j) fun i j => .int (i % j)) dMod := by
  intro x y dx dy d H Q rx ry e k
  cases dx <;> cases dy <;> simp only [dMod] at e <;> try contradiction
  rename_i i j
  split at e
  · rename_i hc
    cases e
    exact ⟨i, j, rp_int rx, rp_int ry, hc, k _ H (Same.refl H) (.int _)⟩
  · cases e
theorem od_pow : OpD K (rI CPow fun i j => .int (i ^ j.toNat)) dPow := by
  intro x y dx dy d H Q rx ry e k
  cases dx <;> cases dy <;> simp only [dPow] at e <;> try contradiction
  rename_i i j
  split at e
  · rename_i hc
    cases e
    exact ⟨i, j, rp_int rx, rp_int ry, ⟨hc.1, by omega, hc.2.2⟩, k _ H (Same.refl H) (.int _)⟩
  · cases e
end
def dLt : D → D → Option D := dI2 fun i j => .bl (decide (i < j))
def dLe : D → D → Option D := dI2 fun i j => .bl (decide (i ≤ j))
def dGt : D → D → Option D := dI2 fun i j => .bl (decide (j < i))
def dGe : D → D → Option D := dI2 fun i j => .bl (decide (j ≤ i))
section
variable {X : Cx} {W : Wsh} {a b c : Expr} {F G G' : Sl → Rs D} {pos : Pos}
theorem e_add (ha : PE X a (tE X.K W F)) (hb : PE X b (tE X.K W G)) : PE X (.BinOp a .Add b pos) (tE X.K W (eBin dAdd F G)) := e_op o_add od_add ha hb
theorem e_sub (ha : PE X a (tE X.K W F)) (hb : PE X b (tE X.K W G)) : PE X (.BinOp a .Sub b pos) (tE X.K W (eBin dSub F G)) := e_op op_sub od_sub ha hb
theorem e_mul (ha : PE X a (tE X.K W F)) (hb : PE X b (tE X.K W G)) : PE X (.BinOp a .Mult b pos) (tE X.K W (eBin dMul F G)) := e_op o_mul od_mul ha hb
theorem e_div (ha : PE X a (tE X.K W F)) (hb : PE X b (tE X.K W G)) : PE X (.BinOp a .FloorDiv b pos) (tE X.K W (eBin dDiv F G)) := e_op op_fdivW od_div ha hb
theorem e_mod (ha : PE X a (tE X.K W F)) (hb : PE X b (tE X.K W G)) : PE X (.BinOp a .Mod b pos) (tE X.K W (eBin dMod F G)) := e_op op_mod od_mod ha hb
theorem e_pow (ha : PE X a (tE X.K W F)) (hb : PE X b (tE X.K W G)) : PE X (.BinOp a .Pow b pos) (tE X.K W (eBin dPow F G)) := e_op op_pow od_pow ha hb
theorem e_lt (ha : PE X a (tE X.K W F)) (hb : PE X b (tE X.K W G)) : PE X (.Compare a [.Lt] [b] pos) (tE X.K W (eBin dLt F G)) := e_cmp op_lt (od_I0 fun _ _ _ => .bl _) ha hb (nomark _)
theorem e_le (ha : PE X a (tE X.K W F)) (hb : PE X b (tE X.K W G)) : PE X (.Compare a [.LtE] [b] pos) (tE X.K W (eBin dLe F G)) := e_cmp op_le (od_I0 fun _ _ _ => .bl _) ha hb (nomark _)
theorem e_gt (ha : PE X a (tE X.K W F)) (hb : PE X b (tE X.K W G)) : PE X (.Compare a [.Gt] [b] pos) (tE X.K W (eBin dGt F G)) := e_cmp op_gt (od_I0 fun _ _ _ => .bl _) ha hb (nomark _)
theorem e_ge (ha : PE X a (tE X.K W F)) (hb : PE X b (tE X.K W G)) : PE X (.Compare a [.GtE] [b] pos) (tE X.K W (eBin dGe F G)) := e_cmp op_ge (od_I0 fun _ _ _ => .bl _) ha hb (nomark _)
def dNeg : D → Option D
  | .int i => some (.int (-i))
  | _ => none
theorem e_neg (ha : PE X a (tE X.K W F)) : PE X (.UnaryOp .USub a pos) (tE X.K W (eUn dNeg F)) := by
  refine e_un un_neg (fun x dx d H Q rx e k => ?_) ha
  cases dx <;> simp only [dNeg] at e <;> try contradiction
  cases e
  exact ⟨_, rp_int rx, k _ H (Same.refl H) (.int _)⟩
/-! chains -/
def eChain (g g' : D → D → Option D) (F G G' : Sl → Rs D) : Sl → Rs D := fun ρ => (F ρ).bind fun x => (G ρ).bind fun y => (Rs.of (g x y)).bind fun z => match z with
  | .bl true => (G' ρ).bind fun w => Rs.of (g' y w)
  | .bl false => .ok (.bl false)
  | _ => .bad
theorem e_chain {op op' : CmpOp} {r r' : R2} {g g' : D → D → Option D} (ho : OpR X (compareOp op) r) (ho' : OpR X (compareOp op') r') (hg : OpD X.K r g) (hg' : OpD X.K r' g') (ha : PE X a (tE X.K W F)) (hb : PE X b (tE X.K W G)) (hc : PE X c (tE X.K W G'))
    (hm : lastMarks [op, op'] [b, c] = false := by with_unfolding_all rfl) : PE X (.Compare a [op, op'] [b, c] pos) (tE X.K W (eChain g g' F G G')) := by
  refine pe_imp (pe_chain ho ho' ha hb hc hm) fun σ H Q h => ?_
  obtain ⟨ρ, rr, h⟩ := h
  refine ⟨ρ, rr, cs_mono (cs_bind h) (fun dx h1 v1 H1 s1 r1 => ?_) fun c q => q⟩
  refine ⟨ρ, rr.mono s1, cs_mono (cs_bind h1) (fun dy h2 v2 H2 s2 r2 => ?_) fun c q H' s => q H' (s1.trans s)⟩
  obtain ⟨z, e, h3⟩ := cs_of (cs_bind h2)
  refine hg v1 v2 dx dy z H2 _ (r1.mono s2) r2 e fun v H3 s3 r3 => ?_
  cases z with
  | bl k =>
    refine ⟨k, rp_bl r3, ?_⟩
    cases k with
    | true =>
      show tE X.K W G' σ H3 _
      refine ⟨ρ, (rr.mono s1).mono (s2.trans s3), cs_mono (cs_bind h3) (fun dw h4 v4 H4 s4 r4 => ?_) fun c q H' s => q H' ((s1.trans (s2.trans s3)).trans s)⟩
      obtain ⟨d, e2, h5⟩ := cs_of h4
      exact hg' v2 v4 dy dw d H4 Q (r2.mono (s3.trans s4)) r4 e2 fun v H' s r => h5 v H' ((s1.trans (s2.trans s3)).trans (s4.trans s)) r
    | false =>
      show Q (.bl false) H3
      exact h3 _ _ (s1.trans (s2.trans s3)) (.bl _)
  | _ => exact h3.elim
theorem e_lele (ha : PE X a (tE X.K W F)) (hb : PE X b (tE X.K W G)) (hc : PE X c (tE X.K W G')) (hm : lastMarks [.LtE, .LtE] [b, c] = false := by with_unfolding_all rfl) : PE X (.Compare a [.LtE, .LtE] [b, c] pos) (tE X.K W (eChain dLe dLe F G G')) :=
  e_chain op_le op_le (od_I0 fun _ _ _ => .bl _) (od_I0 fun _ _ _ => .bl _) ha hb hc hm
theorem e_ltle (ha : PE X a (tE X.K W F)) (hb : PE X b (tE X.K W G)) (hc : PE X c (tE X.K W G')) (hm : lastMarks [.Lt, .LtE] [b, c] = false := by with_unfolding_all rfl) : PE X (.Compare a [.Lt, .LtE] [b, c] pos) (tE X.K W (eChain dLt dLe F G G')) :=
  e_chain op_lt op_le (od_I0 fun _ _ _ => .bl _) (od_I0 fun _ _ _ => .bl _) ha hb hc hm
theorem e_ltlt (ha : PE X a (tE X.K W F)) (hb : PE X b (tE X.K W G)) (hc : PE X c (tE X.K W G')) (hm : lastMarks [.Lt, .Lt] [b, c] = false := by with_unfolding_all rfl) : PE X (.Compare a [.Lt, .Lt] [b, c] pos) (tE X.K W (eChain dLt dLt F G G')) :=
  e_chain op_lt op_lt (od_I0 fun _ _ _ => .bl _) (od_I0 fun _ _ _ => .bl _) ha hb hc hm
theorem e_lelt (ha : PE X a (tE X.K W F)) (hb : PE X b (tE X.K W G)) (hc : PE X c (tE X.K W G')) (hm : lastMarks [.LtE, .Lt] [b, c] = false := by with_unfolding_all rfl) : PE X (.Compare a [.LtE, .Lt] [b, c] pos) (tE X.K W (eChain dLe dLt F G G')) :=
  e_chain op_le op_lt (od_I0 fun _ _ _ => .bl _) (od_I0 fun _ _ _ => .bl _) ha hb hc hm

/-! ### tests, and, or, not, if -/
def dB : D → Option Bool
  | .bl b => some b
  | _ => none
def cE (F : Sl → Rs D) : Sl → Rs Bool := fun ρ => (F ρ).bind fun d => Rs.of (dB d)
def cAnd (C E : Sl → Rs Bool) : Sl → Rs Bool := fun ρ => (C ρ).bind fun b => match b with
  | true => E ρ
  | false => .ok false
def cOr (C E : Sl → Rs Bool) : Sl → Rs Bool := fun ρ => (C ρ).bind fun b => match b with
  | true => .ok true
  | false => E ρ
def cNot (C : Sl → Rs Bool) : Sl → Rs Bool := fun ρ => (C ρ).bind fun b => .ok (!b)
def eIf (C : Sl → Rs Bool) (F G : Sl → Rs D) : Sl → Rs D := fun ρ => (C ρ).bind fun b => match b with
  | true => F ρ
  | false => G ρ
def eAnd (F G : Sl → Rs D) : Sl → Rs D := fun ρ => (F ρ).bind fun d => match d with
  | .bl true => G ρ
  | .bl false => .ok (.bl false)
  | _ => .bad
def eOr (F G : Sl → Rs D) : Sl → Rs D := fun ρ => (F ρ).bind fun d => match d with
  | .bl true => .ok (.bl true)
  | .bl false => G ρ
  | _ => .bad
def eNot (F : Sl → Rs D) : Sl → Rs D := fun ρ => (F ρ).bind fun d => match d with
  | .bl b => .ok (.bl (!b))
  | _ => .bad
variable {C E : Sl → Rs Bool} {rest : List Expr}
theorem c_val (h : PE X a (tE X.K W F)) (he : ∀ whole, isTrue a X.env whole = (do let v ← whole; standAt a.pos; holding [v] (truthy v)) := by intro _; rfl) : PT X a (tT X.K W (cE F)) := by
  refine pt_imp (pt_val h he) fun σ H Q hw => ?_
  obtain ⟨ρ, rr, hw⟩ := hw
  refine ⟨ρ, rr, cs_mono (cs_bind hw) (fun d h1 v H1 s1 r1 => ?_) fun c q => q⟩
  obtain ⟨b, e, h2⟩ := cs_of h1
  cases d <;> simp only [dB] at e <;> try contradiction
  cases e
  exact ⟨_, rp_bl r1, h2 H1 s1⟩
theorem c_cmp {op : CmpOp} {r : R2} {g : D → D → Option D} (ho : OpR X (compareOp op) r) (hg : OpD X.K r g) (ha : PE X a (tE X.K W F)) (hb : PE X b (tE X.K W G)) (hm : behindInMarks op b = false) : PT X (.Compare a [op] [b] pos) (tT X.K W (cE (eBin g F G))) := by
  refine pt_imp (pt_cmpR ho ha hb hm) fun σ H Q hw => ?_
  refine t_bin hg ?_
  obtain ⟨ρ, rr, hw⟩ := hw
  refine ⟨ρ, rr, cs_mono (cs_bind hw) (fun d h1 v H1 s1 r1 => ?_) fun c q => q⟩
  obtain ⟨b, e, h2⟩ := cs_of h1
  cases d <;> simp only [dB] at e <;> try contradiction
  cases e
  exact ⟨_, rp_bl r1, h2 H1 s1⟩
theorem c_and1 (ha : PT X a (tT X.K W C)) : PW X (.BoolOp .And [a] pos) (tT X.K W C) := pw_and1 ha
theorem c_or1 (ha : PT X a (tT X.K W C)) : PW X (.BoolOp .Or [a] pos) (tT X.K W C) := pw_or1 ha
theorem c_and (ha : PT X a (tT X.K W C)) (hb : PW X (.BoolOp .And (b :: rest) pos) (tT X.K W E)) : PW X (.BoolOp .And (a :: b :: rest) pos) (tT X.K W (cAnd C E)) := by
  refine pw_imp (pw_and ha hb) fun σ H Q hw => ?_
  obtain ⟨ρ, rr, hw⟩ := hw
  refine ⟨ρ, rr, cs_mono (cs_bind hw) (fun d h1 H1 s1 => ?_) fun c q => q⟩
  cases d with
  | true =>
    show tT X.K W E σ H1 Q
    exact ⟨ρ, rr.mono s1, cs_mono h1 (fun b h2 H2 s2 => h2 H2 (s1.trans s2)) fun c q H2 s2 => q H2 (s1.trans s2)⟩
  | false => exact h1 H1 s1
theorem c_or (ha : PT X a (tT X.K W C)) (hb : PW X (.BoolOp .Or (b :: rest) pos) (tT X.K W E)) : PW X (.BoolOp .Or (a :: b :: rest) pos) (tT X.K W (cOr C E)) := by
  refine pw_imp (pw_or ha hb) fun σ H Q hw => ?_
  obtain ⟨ρ, rr, hw⟩ := hw
  refine ⟨ρ, rr, cs_mono (cs_bind hw) (fun d h1 H1 s1 => ?_) fun c q => q⟩
  cases d with
  | false =>
    show tT X.K W E σ H1 Q
    exact ⟨ρ, rr.mono s1, cs_mono h1 (fun b h2 H2 s2 => h2 H2 (s1.trans s2)) fun c q H2 s2 => q H2 (s1.trans s2)⟩
  | true => exact h1 H1 s1
theorem c_not (ha : PT X a (tT X.K W C)) : PT X (.UnaryOp .Not a pos) (tT X.K W (cNot C)) := by
  refine pt_imp (pt_not ha) fun σ H Q hw => ?_
  obtain ⟨ρ, rr, hw⟩ := hw
  exact ⟨ρ, rr, cs_mono (cs_bind hw) (fun d h1 H1 s1 => h1 H1 s1) fun c q => q⟩
theorem e_if (hc : PT X c (tT X.K W C)) (ha : PE X a (tE X.K W F)) (hb : PE X b (tE X.K W G)) : PE X (.IfExp c a b pos) (tE X.K W (eIf C F G)) := by
  refine pe_imp (pe_ifExp hc ha hb) fun σ H Q hw => ?_
  obtain ⟨ρ, rr, hw⟩ := hw
  refine ⟨ρ, rr, cs_mono (cs_bind hw) (fun d h1 H1 s1 => ?_) fun c q => q⟩
  cases d with
  | true =>
    show tE X.K W F σ H1 Q
    exact ⟨ρ, rr.mono s1, cs_mono h1 (fun b h2 v H2 s2 => h2 v H2 (s1.trans s2)) fun c q H2 s2 => q H2 (s1.trans s2)⟩
  | false =>
    show tE X.K W G σ H1 Q
    exact ⟨ρ, rr.mono s1, cs_mono h1 (fun b h2 v H2 s2 => h2 v H2 (s1.trans s2)) fun c q H2 s2 => q H2 (s1.trans s2)⟩
theorem e_one {op} (ha : PE X a (tE X.K W F)) : PE X (.BoolOp op [a] pos) (tE X.K W F) := pe_one ha
theorem e_and (ha : PE X a (tE X.K W F)) (hb : PE X (.BoolOp .And (b :: rest) pos) (tE X.K W G)) : PE X (.BoolOp .And (a :: b :: rest) pos) (tE X.K W (eAnd F G)) := by
  refine pe_imp (pe_and ha hb) fun σ H Q hw => ?_
  obtain ⟨ρ, rr, hw⟩ := hw
  refine ⟨ρ, rr, cs_mono (cs_bind hw) (fun d h1 v H1 s1 r1 => ?_) fun c q => q⟩
  cases d with
  | bl k =>
    refine ⟨k, rp_bl r1, ?_⟩
    cases k with
    | true =>
      show tE X.K W G σ H1 Q
      exact ⟨ρ, rr.mono s1, cs_mono h1 (fun b h2 v H2 s2 => h2 v H2 (s1.trans s2)) fun c q H2 s2 => q H2 (s1.trans s2)⟩
    | false => exact h1 _ H1 s1 (.bl _)
  | _ => exact h1.elim
theorem e_or (ha : PE X a (tE X.K W F)) (hb : PE X (.BoolOp .Or (b :: rest) pos) (tE X.K W G)) : PE X (.BoolOp .Or (a :: b :: rest) pos) (tE X.K W (eOr F G)) := by
  refine pe_imp (pe_or ha hb) fun σ H Q hw => ?_
  obtain ⟨ρ, rr, hw⟩ := hw
  refine ⟨ρ, rr, cs_mono (cs_bind hw) (fun d h1 v H1 s1 r1 => ?_) fun c q => q⟩
  cases d with
  | bl k =>
    refine ⟨k, rp_bl r1, ?_⟩
    cases k with
    | false =>
      show tE X.K W G σ H1 Q
      exact ⟨ρ, rr.mono s1, cs_mono h1 (fun b h2 v H2 s2 => h2 v H2 (s1.trans s2)) fun c q H2 s2 => q H2 (s1.trans s2)⟩
    | true => exact h1 _ H1 s1 (.bl _)
  | _ => exact h1.elim
theorem e_not (ha : PE X a (tE X.K W F)) : PE X (.UnaryOp .Not a pos) (tE X.K W (eNot F)) := by
  refine pe_imp (pe_not ha) fun σ H Q hw => ?_
  obtain ⟨ρ, rr, hw⟩ := hw
  refine ⟨ρ, rr, cs_mono (cs_bind hw) (fun d h1 v H1 s1 r1 => ?_) fun c q => q⟩
  cases d with
  | bl k => exact ⟨k, rp_bl r1, h1 _ H1 s1 (.bl _)⟩
  | _ => exact h1.elim

/-! ### arguments, tuples, lists -/
def aNil : Sl → Rs (List D) := fun _ => .ok []
def aCons (F : Sl → Rs D) (A : Sl → Rs (List D)) : Sl → Rs (List D) := fun ρ => (F ρ).bind fun x => (A ρ).bind fun xs => .ok (x :: xs)
variable {A : Sl → Rs (List D)} {es : List Expr}
theorem a_nil : PA X [] (tA X.K W aNil) := by
  refine pa_imp pa_nil fun σ H Q hw => ?_
  obtain ⟨ρ, rr, hw⟩ := hw
  exact hw [] H (Same.refl H) .nil
theorem a_cons (ha : PE X a (tE X.K W F)) (hr : PA X es (tA X.K W A)) (hs : starEach (a :: es) X.env = (false, eval a X.env) :: starEach es X.env := by rfl) : PA X (a :: es) (tA X.K W (aCons F A)) := by
  refine pa_imp (pa_cons ha hr hs) fun σ H Q hw => ?_
  obtain ⟨ρ, rr, hw⟩ := hw
  refine ⟨ρ, rr, cs_mono (cs_bind hw) (fun d h1 v H1 s1 r1 => ?_) fun c q => q⟩
  exact ⟨ρ, rr.mono s1, cs_mono (cs_bind h1) (fun ds h2 vs H2 s2 r2 => h2 _ H2 (s1.trans s2) (.cons (r1.mono s2) r2)) fun c q H2 s2 => q H2 (s1.trans s2)⟩
def eTup (A : Sl → Rs (List D)) : Sl → Rs D := fun ρ => (A ρ).bind fun xs => if xs.length ≤ 1000000 then .ok (.tup xs) else .bad
def eLst (A : Sl → Rs (List D)) : Sl → Rs D := fun ρ => (A ρ).bind fun xs => if xs.length ≤ 1000000 then .ok (.lst xs) else .bad
theorem e_tup {x1} (h : PA X es (tA X.K W A)) : PE X (.Tuple es x1 pos) (tE X.K W (eTup A)) := by
  refine pe_imp (pe_tup h) fun σ H Q hw => ?_
  obtain ⟨ρ, rr, hw⟩ := hw
  refine ⟨ρ, rr, cs_mono (cs_bind hw) (fun ds h1 vs H1 s1 r1 => ?_) fun c q => q⟩
  by_cases hl : ds.length ≤ 1000000
  · rw [if_pos hl] at h1
    exact ⟨lb_le (by rw [r1.length]; exact hl), fun p hp => h1 _ _ (s1.trans (same_new hp)) (.tup upd_same (r1.mono (same_new hp)))⟩
  · rw [if_neg hl] at h1; exact h1.elim
theorem e_lst (h : PA X es (tA X.K W A)) : PE X (.List es pos) (tE X.K W (eLst A)) := by
  refine pe_imp (pe_lst h) fun σ H Q hw => ?_
  obtain ⟨ρ, rr, hw⟩ := hw
  refine ⟨ρ, rr, cs_mono (cs_bind hw) (fun ds h1 vs H1 s1 r1 => ?_) fun c q => q⟩
  by_cases hl : ds.length ≤ 1000000
  · rw [if_pos hl] at h1
    exact ⟨lb_le (by rw [r1.length]; exact hl), fun p hp => h1 _ _ (s1.trans (same_new hp)) (.lst upd_same (r1.mono (same_new hp)))⟩
  · rw [if_neg hl] at h1; exact h1.elim
end
end PB

namespace PB
open PySem PySem.Spec PyProof.Rows L2

/-! ### equality of plain data -/
mutual
def toPy : D → PyData
  | .non => .none
  | .bl b => .bool b
  | .int i => .int i
  | .str x => .str x
  | .lst xs => .list (toPys xs)
  | .tup xs => .tuple (toPys xs)
  | .dct _ => .none
  | .scr _ => .none
  | .clo _ _ => .none
  | .lam _ _ _ => .none
  | .ins _ _ => .none
  | .obj _ => .none
def toPys : List D → List PyData
  | [] => []
  | x :: xs => toPy x :: toPys xs
end
/-- plain data, nested at most n deep -/
def pl : Nat → D → Bool
  | _, .non => true
  | _, .bl _ => true
  | _, .int _ => true
  | _, .str x => PyData.strOk x
  | n + 1, .lst xs => xs.all (pl n)
  | n + 1, .tup xs => xs.all (pl n)
  | _, _ => false
def eqLs (f : D → D → Bool) : List D → List D → Bool
  | [], [] => true
  | x :: xs, y :: ys => f x y && eqLs f xs ys
  | _, _ => false
def eqD : Nat → D → D → Bool
  | _, .non, .non => true
  | _, .bl a, .bl b => a == b
  | _, .bl a, .int j => (if a then 1 else 0) == j
  | _, .int i, .bl b => i == (if b then 1 else 0)
  | _, .int i, .int j => i == j
  | _, .str x, .str y => x == y
  | n + 1, .lst xs, .lst ys => eqLs (eqD n) xs ys
  | n + 1, .tup xs, .tup ys => eqLs (eqD n) xs ys
  | _, _, _ => false
theorem pl_shape : ∀ (n : Nat) (d : D), pl n d = true → (toPy d).canLay0 = true ∧ (toPy d).depth ≤ n
  | _, .non, _ => by simp [toPy, PyData.canLay0, PyData.depth]
  | _, .bl _, _ => by simp [toPy, PyData.canLay0, PyData.depth]
  | _, .int _, _ => by simp [toPy, PyData.canLay0, PyData.depth]
  | _, .str x, h => by
    have h' : PyData.strOk x = true := by cases ‹Nat› <;> exact h
    simp [toPy, PyData.canLay0, PyData.depth, h']
  | 0, .lst xs, h => by cases h
  | 0, .tup xs, h => by cases h
  | n + 1, .lst xs, h => by
    have h' : xs.all (pl n) = true := h
    have key : ∀ ys : List D, ys.all (pl n) = true → PyData.canLayAll0 (toPys ys) = true ∧ PyData.depthAll (toPys ys) ≤ n := by
      intro ys
      induction ys with
      | nil => intro _; simp [toPys, PyData.canLayAll0, PyData.depthAll]
      | cons y ys ih =>
        intro hy
        rw [List.all_cons, Bool.and_eq_true] at hy
        obtain ⟨a, b⟩ := pl_shape n y hy.1
        obtain ⟨c, d⟩ := ih hy.2
        simp [toPys, PyData.canLayAll0, PyData.depthAll, a, c]
        omega
    obtain ⟨a, b⟩ := key xs h'
    simp [toPy, PyData.canLay0, PyData.depth, a]
    omega
  | n + 1, .tup xs, h => by
    have h' : xs.all (pl n) = true := h
    have key : ∀ ys : List D, ys.all (pl n) = true → PyData.canLayAll0 (toPys ys) = true ∧ PyData.depthAll (toPys ys) ≤ n := by
      intro ys
      induction ys with
      | nil => intro _; simp [toPys, PyData.canLayAll0, PyData.depthAll]
      | cons y ys ih =>
        intro hy
        rw [List.all_cons, Bool.and_eq_true] at hy
        obtain ⟨a, b⟩ := pl_shape n y hy.1
        obtain ⟨c, d⟩ := ih hy.2
        simp [toPys, PyData.canLayAll0, PyData.depthAll, a, c]
        omega
    obtain ⟨a, b⟩ := key xs h'
    simp [toPy, PyData.canLay0, PyData.depth, a]
    omega
  | 0, .dct _, h => by cases h
  | _ + 1, .dct _, h => by cases h
  | 0, .scr _, h => by cases h
  | _ + 1, .scr _, h => by cases h
  | 0, .lam _ _ _, h => by cases h
  | _ + 1, .lam _ _ _, h => by cases h
  | 0, .ins _ _, h => by cases h
  | _ + 1, .ins _ _, h => by cases h
  | 0, .obj _, h => by cases h
  | _ + 1, .obj _, h => by cases h
  | 0, .clo _ _, h => by cases h
  | _ + 1, .clo _ _, h => by cases h
theorem pl_shaped {n : Nat} {d : D} (h : pl n d = true) (hn : n ≤ 64) : SeqAt.shaped (toPy d) = true := by
  obtain ⟨a, b⟩ := pl_shape n d h
  unfold SeqAt.shaped
  rw [a, decide_eq_true (by omega : (toPy d).depth ≤ 64)]
  rfl
theorem eqvAll_eq {f : D → D → Bool} : ∀ (xs ys : List D), (∀ x ∈ xs, ∀ y ∈ ys, PyData.eqv (toPy x) (toPy y) = f x y) → PyData.eqvAll (toPys xs) (toPys ys) = eqLs f xs ys
  | [], [], _ => by simp [toPys, PyData.eqvAll, eqLs]
  | [], _ :: _, _ => by simp [toPys, PyData.eqvAll, eqLs]
  | _ :: _, [], _ => by simp [toPys, PyData.eqvAll, eqLs]
  | x :: xs, y :: ys, h => by
    simp only [toPys, PyData.eqvAll, eqLs]
    rw [h x (by simp) y (by simp), eqvAll_eq xs ys fun a ha b hb => h a (by simp [ha]) b (by simp [hb])]
theorem eqv_eq : ∀ (n : Nat) (x y : D), pl n x = true → pl n y = true → PyData.eqv (toPy x) (toPy y) = eqD n x y := by
  intro n
  induction n with
  | zero =>
    intro x y hx hy
    cases x <;> cases y <;> first | (simp [pl] at hx; done) | (simp [pl] at hy; done) | (simp [toPy, PyData.eqv, eqD])
  | succ n ih =>
    intro x y hx hy
    have al : ∀ {zs : List D}, zs.all (pl n) = true → ∀ z ∈ zs, pl n z = true := fun h z hz => List.all_eq_true.mp h z hz
    cases x <;> cases y <;> first | (simp [pl] at hx; done) | (simp [pl] at hy; done) | (simp only [toPy, PyData.eqv, eqD]; done) | (simp only [toPy, PyData.eqv, eqD]; exact eqvAll_eq _ _ fun a ha b hb => ih a b (al hx a ha) (al hy b hb))
mutual
theorem rp_dp {K : PySem.W.Frag} {H : Hp} : ∀ (n : Nat) {v : V} {d : D}, Rp K H v d → pl n d = true → Dp K H v (toPy d)
  | _, _, _, .non, _ => by simp only [toPy]; exact .non
  | _, _, _, .bl b, _ => by simp only [toPy]; exact .bl b
  | _, _, _, .int b, _ => by simp only [toPy]; exact .int b
  | _, _, _, .str b, _ => by simp only [toPy]; exact .str b
  | n + 1, _, _, .lst h a, hp => by simp only [toPy]; exact .lst (SqL.of h) (rp_dps n a hp)
  | n + 1, _, _, .tup h a, hp => by simp only [toPy]; exact .tup (SqT.of h) (rp_dps n a hp)
  | 0, _, _, .lst h a, hp => by cases hp
  | 0, _, _, .tup h a, hp => by cases hp
  | 0, _, _, .dct h a, hp => by cases hp
  | n + 1, _, _, .dct h a, hp => by cases hp
  | 0, _, _, .scr h, hp => by cases hp
  | n + 1, _, _, .scr h, hp => by cases hp
  | 0, _, _, .lam _ _, hp => by cases hp
  | n + 1, _, _, .lam _ _, hp => by cases hp
  | 0, _, _, .ins _ _ _, hp => by cases hp
  | n + 1, _, _, .ins _ _ _, hp => by cases hp
  | 0, _, _, .obj, hp => by cases hp
  | n + 1, _, _, .obj, hp => by cases hp
  | 0, _, _, .clo _ _ _ _, hp => by cases hp
  | n + 1, _, _, .clo _ _ _ _, hp => by cases hp
theorem rp_dps {K : PySem.W.Frag} {H : Hp} : ∀ (n : Nat) {v : List V} {d : List D}, RpAll K H v d → d.all (pl n) = true → DpAll K H v (toPys d)
  | _, _, _, .nil, _ => by simp only [toPys]; exact .nil
  | n, _, _, .cons h t, hp => by
    rw [List.all_cons, Bool.and_eq_true] at hp
    simp only [toPys]
    exact .cons (rp_dp n h hp.1) (rp_dps n t hp.2)
end
/-- script == [] -/
def dEq : D → D → Option D
  | .scr ns, .lst [] => some (.bl ns.isEmpty)
  | x, y => if pl 8 x = true ∧ pl 8 y = true then some (.bl (eqD 8 x y)) else none
def dNe : D → D → Option D
  | .scr ns, .lst [] => some (.bl (!ns.isEmpty))
  | x, y => if pl 8 x = true ∧ pl 8 y = true then some (.bl (!eqD 8 x y)) else none
theorem dp_ints {K : PySem.W.Frag} {H : Hp} : ∀ (ns : List Int), DpAll K H (ns.map V.int) (ns.map PyData.int)
  | [] => .nil
  | n :: ns => .cons (.int n) (dp_ints ns)
theorem shaped_ints (ns : List Int) : SeqAt.shaped (.list (ns.map PyData.int)) = true := by
  have key : ∀ ns : List Int, PyData.canLayAll0 (ns.map PyData.int) = true ∧ PyData.depthAll (ns.map PyData.int) ≤ 1 := by
    intro ns
    induction ns with
    | nil => simp [PyData.canLayAll0, PyData.depthAll]
    | cons n ns ih => simp [PyData.canLayAll0, PyData.canLay0, PyData.depthAll, PyData.depth, ih.1]; exact ih.2
  obtain ⟨a, b⟩ := key ns
  unfold SeqAt.shaped
  simp [PyData.canLay0, PyData.depth, a]
  omega
theorem eqv_nil (ns : List Int) : PyData.eqv (.list (ns.map PyData.int)) (.list []) = ns.isEmpty := by
  cases ns <;> simp [PyData.eqv, PyData.eqvAll]
theorem od_eq {K : PySem.W.Frag} : OpD K (rEqD K) dEq := by
  intro x y dx dy d H Q rx ry e k
  unfold dEq at e
  split at e
  · rename_i ns
    cases e
    obtain ⟨a, rfl, h1⟩ := rp_scr rx
    obtain ⟨b, xs, rfl, h2, a2⟩ := rp_lst ry
    cases a2
    refine ⟨_, _, .lst h1 (dp_ints ns), .lst (SqL.of h2) .nil, shaped_ints ns, by decide +kernel, ?_⟩
    rw [eqv_nil]
    exact k _ H (Same.refl H) (.bl _)
  · split at e
    · rename_i hp
      cases e
      refine ⟨_, _, rp_dp 8 rx hp.1, rp_dp 8 ry hp.2, pl_shaped hp.1 (by decide), pl_shaped hp.2 (by decide), ?_⟩
      rw [eqv_eq 8 _ _ hp.1 hp.2]
      exact k _ H (Same.refl H) (.bl _)
    · cases e
theorem od_ne {K : PySem.W.Frag} : OpD K (rNeD K) dNe := by
  intro x y dx dy d H Q rx ry e k
  unfold dNe at e
  split at e
  · rename_i ns
    cases e
    obtain ⟨a, rfl, h1⟩ := rp_scr rx
    obtain ⟨b, xs, rfl, h2, a2⟩ := rp_lst ry
    cases a2
    refine ⟨_, _, .lst h1 (dp_ints ns), .lst (SqL.of h2) .nil, shaped_ints ns, by decide +kernel, ?_⟩
    rw [eqv_nil]
    exact k _ H (Same.refl H) (.bl _)
  · split at e
    · rename_i hp
      cases e
      refine ⟨_, _, rp_dp 8 rx hp.1, rp_dp 8 ry hp.2, pl_shaped hp.1 (by decide), pl_shaped hp.2 (by decide), ?_⟩
      rw [eqv_eq 8 _ _ hp.1 hp.2]
      exact k _ H (Same.refl H) (.bl _)
    · cases e
/-- flat things -/
def fl : D → Bool
  | .non => true | .bl _ => true | .int _ => true | .str _ => true
  | _ => false
def dInB : D → D → Option Bool
  | x, .lst ys => if pl 7 x = true ∧ pl 8 (.lst ys) = true then some (ys.any fun z => eqD 8 z x) else none
  | x, .tup ys => if fl x = true ∧ ys.all fl = true then some (ys.any fun z => eqD 8 z x) else none
  | _, _ => none
def dIn (x y : D) : Option D := (dInB x y).map .bl
def dNotIn (x y : D) : Option D := (dInB x y).map fun b => .bl (!b)
theorem fl_flat {K : PySem.W.Frag} {H : Hp} {v : V} {d : D} (h : Rp K H v d) (f : fl d = true) : flatV v = true := by
  cases h <;> first | rfl | cases f
theorem fl_flats {K : PySem.W.Frag} {H : Hp} : ∀ {vs : List V} {ds : List D}, RpAll K H vs ds → ds.all fl = true → vs.all flatV = true
  | _, _, .nil, _ => rfl
  | _, _, .cons h t, f => by
    rw [List.all_cons, Bool.and_eq_true] at f
    rw [List.all_cons, fl_flat h f.1, fl_flats t f.2]; rfl
theorem eqV_eq {K : PySem.W.Frag} {H : Hp} {v u : V} {d e : D} (h : Rp K H v d) (h' : Rp K H u e) (f : fl d = true) (f' : fl e = true) : eqV v u = eqD 8 d e := by
  cases h <;> cases h' <;> first | rfl | (simp [fl] at f; done) | (simp [fl] at f'; done)
theorem any_eq {K : PySem.W.Frag} {H : Hp} {u : V} {e : D} (h' : Rp K H u e) (f' : fl e = true) : ∀ {vs : List V} {ds : List D}, RpAll K H vs ds → ds.all fl = true → (vs.any fun y => eqV y u) = ds.any fun z => eqD 8 z e
  | _, _, .nil, _ => rfl
  | _, _, .cons h t, f => by
    rw [List.all_cons, Bool.and_eq_true] at f
    rw [List.any_cons, List.any_cons, eqV_eq h h' f.1 f', any_eq h' f' t f.2]
theorem any_py {d : D} : ∀ (ds : List D), (∀ z ∈ ds, PyData.eqv (toPy z) (toPy d) = eqD 8 z d) → ((toPys ds).any fun z => PyData.eqv z (toPy d)) = ds.any fun z => eqD 8 z d
  | [], _ => by simp [toPys]
  | x :: xs, h => by
    simp only [toPys, List.any_cons]
    rw [h x (by simp), any_py xs fun z hz => h z (by simp [hz])]
theorem pl_mono : ∀ (n : Nat) (d : D), pl n d = true → pl (n + 1) d = true := by
  intro n
  induction n with
  | zero => intro d h; cases d <;> first | exact h | cases h
  | succ n ih =>
    intro d h
    cases d <;> first | exact h | cases h | skip
    · rename_i xs
      have h' : xs.all (pl n) = true := h
      show xs.all (pl (n + 1)) = true
      rw [List.all_eq_true] at h' ⊢
      exact fun x hx => ih x (h' x hx)
    · rename_i xs
      have h' : xs.all (pl n) = true := h
      show xs.all (pl (n + 1)) = true
      rw [List.all_eq_true] at h' ⊢
      exact fun x hx => ih x (h' x hx)
def rInA (K : PySem.W.Frag) : R2 := fun x y H Q => rInD K x y H Q ∨ rIn K false x y H Q
def rNotInA (K : PySem.W.Frag) : R2 := fun x y H Q => rNotInD K x y H Q ∨ rIn K true x y H Q
theorem od_in {K : PySem.W.Frag} : OpD K (rInA K) dIn := by
  intro x y dx dy d H Q rx ry e k
  unfold dIn dInB at e
  cases dy <;> simp only [Option.map_none] at e <;> try contradiction
  · rename_i ys
    split at e
    · rename_i hp
      cases e
      refine .inl ⟨toPy dx, toPys ys, rp_dp 7 rx hp.1, ?_, pl_shaped hp.1 (by decide), ?_, ?_⟩
      · have := rp_dp 8 ry hp.2; simpa only [toPy] using this
      · have := pl_shaped hp.2 (by decide); simpa only [toPy] using this
      · rw [any_py ys fun z hz => eqv_eq 8 _ _ (pl_mono 7 z (List.all_eq_true.mp (show ys.all (pl 7) = true from hp.2) z hz)) (pl_mono 7 dx hp.1)]
        exact k _ H (Same.refl H) (.bl _)
    · cases e
  · rename_i ys
    split at e
    · rename_i hp
      cases e
      obtain ⟨a, xs, rfl, h1, a1⟩ := rp_tup ry
      refine .inr ⟨a, xs, rfl, .inr (SqT.of h1), fl_flat rx hp.1, fl_flats a1 hp.2, ?_⟩
      have q := any_eq rx hp.1 a1 hp.2
      show Q (.bl (inV x xs)) H
      unfold inV
      rw [q]
      exact k _ H (Same.refl H) (.bl _)
    · cases e
theorem od_notIn {K : PySem.W.Frag} : OpD K (rNotInA K) dNotIn := by
  intro x y dx dy d H Q rx ry e k
  unfold dNotIn dInB at e
  cases dy <;> simp only [Option.map_none] at e <;> try contradiction
  · rename_i ys
    split at e
    · rename_i hp
      cases e
      refine .inl ⟨toPy dx, toPys ys, rp_dp 7 rx hp.1, ?_, pl_shaped hp.1 (by decide), ?_, ?_⟩
      · have := rp_dp 8 ry hp.2; simpa only [toPy] using this
      · have := pl_shaped hp.2 (by decide); simpa only [toPy] using this
      · rw [any_py ys fun z hz => eqv_eq 8 _ _ (pl_mono 7 z (List.all_eq_true.mp (show ys.all (pl 7) = true from hp.2) z hz)) (pl_mono 7 dx hp.1)]
        exact k _ H (Same.refl H) (.bl _)
    · cases e
  · rename_i ys
    split at e
    · rename_i hp
      cases e
      obtain ⟨a, xs, rfl, h1, a1⟩ := rp_tup ry
      refine .inr ⟨a, xs, rfl, .inr (SqT.of h1), fl_flat rx hp.1, fl_flats a1 hp.2, ?_⟩
      have q := any_eq rx hp.1 a1 hp.2
      show Q (.bl (!inV x xs)) H
      unfold inV
      rw [q]
      exact k _ H (Same.refl H) (.bl _)
    · cases e
/-! is None, is True -/
def isNonD : D → Bool
  | .non => true
  | _ => false
def dIsN : D → D → Option D
  | x, .non => some (.bl (isNonD x))
  | .bl a, .bl b => some (.bl (decide (a = b)))
  | _, _ => none
def dNotN : D → D → Option D
  | x, .non => some (.bl (!isNonD x))
  | .bl a, .bl b => some (.bl (!decide (a = b)))
  | _, _ => none
def rIsA : R2 := fun x y H Q => (y = .non ∧ Q (.bl (decide (x = .non))) H) ∨ rIsB x y H Q
def rNotA : R2 := fun x y H Q => (y = .non ∧ Q (.bl (!decide (x = .non))) H) ∨ rNotB x y H Q
theorem non_iff {K : PySem.W.Frag} {H : Hp} {v : V} {d : D} (h : Rp K H v d) : decide (v = .non) = isNonD d := by
  cases h <;> first | rfl | simp [isNonD]
theorem od_isN {K : PySem.W.Frag} : OpD K rIsA dIsN := by
  intro x y dx dy d H Q rx ry e k
  cases dy with
  | non =>
    have e' : some (D.bl (isNonD dx)) = some d := by cases dx <;> exact e
    cases e'
    refine .inl ⟨rp_non ry, ?_⟩
    rw [non_iff rx]
    exact k _ H (Same.refl H) (.bl _)
  | bl b =>
    cases dx <;> simp only [dIsN] at e <;> try contradiction
    cases e
    exact .inr ⟨_, _, rp_bl rx, rp_bl ry, k _ H (Same.refl H) (.bl _)⟩
  | _ => cases dx <;> cases e
theorem od_notN {K : PySem.W.Frag} : OpD K rNotA dNotN := by
  intro x y dx dy d H Q rx ry e k
  cases dy with
  | non =>
    have e' : some (D.bl (!isNonD dx)) = some d := by cases dx <;> exact e
    cases e'
    refine .inl ⟨rp_non ry, ?_⟩
    rw [non_iff rx]
    exact k _ H (Same.refl H) (.bl _)
  | bl b =>
    cases dx <;> simp only [dNotN] at e <;> try contradiction
    cases e
    exact .inr ⟨_, _, rp_bl rx, rp_bl ry, k _ H (Same.refl H) (.bl _)⟩
  | _ => cases dx <;> cases e
section
variable {X : Cx} {W : Wsh} {a b c : Expr} {F G G' : Sl → Rs D} {pos : Pos} {k : Nat}
theorem e_eq (hr : Room k X.A) (ha : PE X a (tE X.K W F)) (hb : PE X b (tE X.K W G)) : PE X (.Compare a [.Eq] [b] pos) (tE X.K W (eBin dEq F G)) := e_cmp (op_eqD hr.units) od_eq ha hb (nomark _)
theorem e_ne (hr : Room k X.A) (ha : PE X a (tE X.K W F)) (hb : PE X b (tE X.K W G)) : PE X (.Compare a [.NotEq] [b] pos) (tE X.K W (eBin dNe F G)) := e_cmp (op_neD hr.units) od_ne ha hb (nomark _)
theorem room65 (hr : Room k X.A) : X.A.units + 65 < cLine := by have := hr.un; omega
theorem e_in (hr : Room k X.A) (ha : PE X a (tE X.K W F)) (hb : PE X b (tE X.K W G)) (hm : behindInMarks .In b = false := by rfl) : PE X (.Compare a [.In] [b] pos) (tE X.K W (eBin dIn F G)) := e_cmp (OpR.or (op_inD (room65 hr)) op_in_seq) od_in ha hb hm
theorem e_notIn (hr : Room k X.A) (ha : PE X a (tE X.K W F)) (hb : PE X b (tE X.K W G)) (hm : behindInMarks .NotIn b = false := by rfl) : PE X (.Compare a [.NotIn] [b] pos) (tE X.K W (eBin dNotIn F G)) := e_cmp (OpR.or (op_notInD (room65 hr)) op_notIn_seq) od_notIn ha hb hm
theorem e_is (ha : PE X a (tE X.K W F)) (hb : PE X b (tE X.K W G)) : PE X (.Compare a [.Is] [b] pos) (tE X.K W (eBin dIsN F G)) := e_cmp (OpR.or op_isN op_isBl) od_isN ha hb (nomark _)
theorem e_isnot (ha : PE X a (tE X.K W F)) (hb : PE X b (tE X.K W G)) : PE X (.Compare a [.IsNot] [b] pos) (tE X.K W (eBin dNotN F G)) := e_cmp (OpR.or op_notN op_notBl) od_notN ha hb (nomark _)

/-! ### subscripts -/
def dIx : D → D → Option D
  | .lst xs, .int i => atI xs i
  | .tup xs, .int i => atI xs i
  | .scr ns, .int i => (atI ns i).map .int
  | _, _ => none
def rIxA (K : PySem.W.Frag) : R2 := fun x y H Q => rIxL K x y H Q ∨ rIxT K x y H Q
theorem atI_rp {K : PySem.W.Frag} {H : Hp} {vs : List V} {ds : List D} {i : Int} {d : D} (h : RpAll K H vs ds) (e : atI ds i = some d) : ∃ v, atI vs i = some v ∧ Rp K H v d := by
  unfold atI at e ⊢
  rw [h.length]
  cases q : ixN ds.length i with
  | none => rw [q] at e; cases e
  | some j =>
    rw [q] at e
    obtain ⟨v, e1, r⟩ := h.get (i := j) (d := d) e
    exact ⟨v, e1, r⟩
theorem atI_map {α β : Type} (f : α → β) (xs : List α) (i : Int) : atI (xs.map f) i = (atI xs i).map f := by
  unfold atI
  rw [List.length_map]
  cases ixN xs.length i with
  | none => rfl
  | some j => exact List.getElem?_map ..
theorem od_ix {K : PySem.W.Frag} : OpD K (rIxA K) dIx := by
  intro x y dx dy d H Q rx ry e k
  cases dx <;> cases dy <;> simp only [dIx] at e <;> try contradiction
  · obtain ⟨a, xs, rfl, h1, a1⟩ := rp_lst rx
    obtain ⟨v, e1, r⟩ := atI_rp a1 e
    exact .inl ⟨a, xs, _, v, rfl, rp_int ry, SqL.of h1, e1, k _ H (Same.refl H) r⟩
  · obtain ⟨a, xs, rfl, h1, a1⟩ := rp_tup rx
    obtain ⟨v, e1, r⟩ := atI_rp a1 e
    exact .inr ⟨a, xs, _, v, rfl, rp_int ry, SqT.of h1, e1, k _ H (Same.refl H) r⟩
  · rename_i ns i
    obtain ⟨a, rfl, h1⟩ := rp_scr rx
    cases q : atI ns i with
    | none => rw [q] at e; cases e
    | some n =>
      rw [q] at e; cases e
      exact .inl ⟨a, _, _, .int n, rfl, rp_int ry, h1, by rw [atI_map, q]; rfl, k _ H (Same.refl H) (.int n)⟩
theorem e_ix (ha : PE X a (tE X.K W F)) (hb : PE X b (tE X.K W G)) (hs : PlainIx b := by exact fun _ _ => rfl) : PE X (.Subscript a b pos) (tE X.K W (eBin dIx F G)) :=
  pe_imp (pe_ix (IxR.or ix_list ix_tup) ha hb hs) fun _ _ _ h => t_bin od_ix h
def cutD {α : Type} (xs : List α) (lo hi : Option Int) : List α := (xs.drop (HT.sIx xs.length 0 lo)).take (HT.sIx xs.length xs.length hi - HT.sIx xs.length 0 lo)
def dCut (lo hi : Option Int) : D → Option D
  | .lst xs => some (.lst (cutD xs lo hi))
  | .tup xs => some (.tup (cutD xs lo hi))
  | _ => none
def pNone : Sl → Rs (Option Int) := fun _ => .ok none
def pSome (F : Sl → Rs D) : Sl → Rs (Option Int) := fun ρ => (F ρ).bind fun d => match d with
  | .int i => .ok (some i)
  | _ => .bad
def eCut (F : Sl → Rs D) (P P' : Sl → Rs (Option Int)) : Sl → Rs D := fun ρ => (F ρ).bind fun x => (P ρ).bind fun l => (P' ρ).bind fun h => Rs.of (dCut l h x)
def tP (K : PySem.W.Frag) (W : Wsh) (P : Sl → Rs (Option Int)) : TO := fun σ H Q => ∃ ρ, R0 K σ H ρ ∧ cs (P ρ) (fun o => ∀ H', Same H H' → Q o H') (fun c => ∀ H', Same H H' → W c σ H')
theorem po_imp {e : Option Expr} {t t' : TO} (h : PO X e t) (f : ∀ σ H Q, t' σ H Q → t σ H Q) : PO X e t' := ⟨fun pins s σ H Q I hw => h.run pins s σ H Q I (f σ H Q hw)⟩
theorem p_none : PO X none (tP X.K W pNone) := po_imp po_none fun σ H Q h => by
  obtain ⟨ρ, rr, h⟩ := h
  exact h H (Same.refl H)
theorem p_some (h : PE X a (tE X.K W F)) : PO X (some a) (tP X.K W (pSome F)) := po_imp (po_some h) fun σ H Q h => by
  obtain ⟨ρ, rr, h⟩ := h
  refine ⟨ρ, rr, cs_mono (cs_bind h) (fun d h1 v H1 s1 r1 => ?_) fun c q => q⟩
  cases d <;> first | exact h1.elim | skip
  exact ⟨_, rp_int r1, h1 H1 s1⟩
theorem RpAll.cut {K : PySem.W.Frag} {H : Hp} {vs : List V} {ds : List D} (h : RpAll K H vs ds) (lo hi : Option Int) : RpAll K H (cutV vs lo hi) (cutD ds lo hi) := by
  unfold cutV cutD
  rw [h.length]
  exact (h.drop _).take _
theorem cut_whole {α : Type} {xs : List α} {lo hi : Option Int} (h : HT.sIx xs.length 0 lo = 0 ∧ HT.sIx xs.length xs.length hi = xs.length) : cutD xs lo hi = xs := by
  unfold cutD
  rw [h.1, h.2]
  simp
variable {P P' : Sl → Rs (Option Int)} {lo hi : Option Expr} {p2 : Pos}
theorem e_cut (ha : PE X a (tE X.K W F)) (hl : PO X lo (tP X.K W P)) (hh : PO X hi (tP X.K W P')) : PE X (.Subscript a (.Slice lo hi none p2) pos) (tE X.K W (eCut F P P')) := by
  refine pe_imp (pe_slice (SlR.or sl_list sl_tupA) ha hl hh) fun σ H Q h => ?_
  obtain ⟨ρ, rr, h⟩ := h
  refine ⟨ρ, rr, cs_mono (cs_bind h) (fun dx h1 v1 H1 s1 r1 => ?_) fun c q => q⟩
  refine ⟨ρ, rr.mono s1, cs_mono (cs_bind h1) (fun l h2 H2 s2 => ?_) fun c q H' s => q H' (s1.trans s)⟩
  refine ⟨ρ, rr.mono (s1.trans s2), cs_mono (cs_bind h2) (fun u h3 H3 s3 => ?_) fun c q H' s => q H' ((s1.trans s2).trans s)⟩
  obtain ⟨d, e, h4⟩ := cs_of h3
  have r3 := r1.mono (s2.trans s3)
  have s13 := (s1.trans s2).trans s3
  cases dx <;> simp only [dCut] at e <;> try contradiction
  · cases e
    obtain ⟨p, xs, rfl, g1, a1⟩ := rp_lst r3
    exact .inl ⟨p, xs, rfl, SqL.of g1, fun n hn => h4 _ _ (s13.trans (same_new hn)) (.lst upd_same ((a1.cut l u).mono (same_new hn)))⟩
  · cases e
    obtain ⟨p, xs, rfl, g1, a1⟩ := rp_tup r3
    refine .inr ⟨p, xs, rfl, SqT.of g1, fun z => ?_, fun _ n hn => h4 _ _ (s13.trans (same_new hn)) (.tup upd_same ((a1.cut l u).mono (same_new hn)))⟩
    rw [a1.length] at z
    rw [cut_whole z] at h4
    exact h4 _ _ s13 (.tup g1 a1)

/-! ### calls of built-ins -/
def CallD (K : PySem.W.Frag) (r : List V → Hp → VK → Prop) (g : List D → Option D) : Prop := ∀ vs ds d H (Q : VK), RpAll K H vs ds → g ds = some d → (∀ v H', Same H H' → Rp K H' v d → Q v H') → r vs H Q
def eCall (g : List D → Option D) (A : Sl → Rs (List D)) : Sl → Rs D := fun ρ => (A ρ).bind fun xs => Rs.of (g xs)
variable {A : Sl → Rs (List D)} {es : List Expr} {x : Str} {p : Pos} {e : Expr} {id T : String} {r : List V → Hp → VK → Prop} {g : List D → Option D}
theorem t_call {K : PySem.W.Frag} (hg : CallD K r g) {σ : L2.St} {H : Hp} {Q : VK} (h : tE K W (eCall g A) σ H Q) : tCB r (tA K W A) σ H Q := by
  obtain ⟨ρ, rr, h⟩ := h
  refine ⟨ρ, rr, cs_mono (cs_bind h) (fun ds h1 vs H1 s1 r1 => ?_) fun c q => q⟩
  obtain ⟨d, e, h4⟩ := cs_of h1
  exact hg vs ds d H1 Q r1 e fun v H' s r => h4 v H' (s1.trans s) r
theorem e_callB (hc : CallR X (.builtin id) r) (hd : CallD X.K r g) (hm : X.mg x = none) (hv : bootBuiltins x = some (.builtin id)) (ha : PA X (e :: es) (tA X.K W A)) (hg : Gl X x := by rfl) (hn : x ≠ "__name__" := by decide) (hdb : (x == ("__debug__" : Str)) = false := by decide)
    (he : starEach (e :: es) X.env = (false, eval e X.env) :: starEach es X.env := by rfl) (hpl : (backTo pos (starEach es X.env)).any (·.1) = false := by rfl) : PE X (.Call (.Name x p) (e :: es) [] pos) (tE X.K W (eCall g A)) :=
  pe_imp (pe_callB hc hg hm hv ha hn hdb he hpl) fun _ _ _ h => t_call hd h
theorem e_callTy (hc : CallR X (.type T) r) (hd : CallD X.K r g) (hm : X.mg x = none) (hv : bootBuiltins x = some (.type T)) (ha : PA X (e :: es) (tA X.K W A)) (hg : Gl X x := by rfl) (hn : x ≠ "__name__" := by decide) (hdb : (x == ("__debug__" : Str)) = false := by decide)
    (he : starEach (e :: es) X.env = (false, eval e X.env) :: starEach es X.env := by rfl) (hpl : (backTo pos (starEach es X.env)).any (·.1) = false := by rfl) : PE X (.Call (.Name x p) (e :: es) [] pos) (tE X.K W (eCall g A)) :=
  pe_imp (pe_callTy hc hg hm hv ha hn hdb he hpl) fun _ _ _ h => t_call hd h
def gLen : List D → Option D
  | [.lst xs] => some (.int xs.length)
  | [.tup xs] => some (.int xs.length)
  | [.scr ns] => some (.int ns.length)
  | [.str z] => if z.length ≤ 1000000 then some (.int z.length) else none
  | _ => none
theorem rpall1 {K : PySem.W.Frag} {H : Hp} {vs : List V} {d : D} (h : RpAll K H vs [d]) : ∃ v, vs = [v] ∧ Rp K H v d := by
  cases h with | cons a t => cases t; exact ⟨_, rfl, a⟩
theorem rpall2 {K : PySem.W.Frag} {H : Hp} {vs : List V} {d d' : D} (h : RpAll K H vs [d, d']) : ∃ v v', vs = [v, v'] ∧ Rp K H v d ∧ Rp K H v' d' := by
  cases h with | cons a t => cases t with | cons b t => cases t; exact ⟨_, _, rfl, a, b⟩
def rLenA (K : PySem.W.Frag) : List V → Hp → VK → Prop := fun xs H Q => (∃ p ys, xs = [.ref p] ∧ (SqL K H p ys ∨ SqT K H p ys) ∧ Q (.int ys.length) H) ∨ ∃ z, xs = [.str z] ∧ z.length ≤ sizeLine ∧ Q (.int z.length) H
theorem cd_len {K : PySem.W.Frag} : CallD K (rLenA K) gLen := by
  intro vs ds d H Q rv e k
  match ds, e with
  | [.lst xs], e =>
    cases e
    obtain ⟨v, rfl, r⟩ := rpall1 rv
    obtain ⟨p, ys, rfl, h1, a1⟩ := rp_lst r
    refine .inl ⟨p, ys, rfl, .inl (SqL.of h1), ?_⟩
    rw [a1.length]
    exact k _ H (Same.refl H) (.int _)
  | [.tup xs], e =>
    cases e
    obtain ⟨v, rfl, r⟩ := rpall1 rv
    obtain ⟨p, ys, rfl, h1, a1⟩ := rp_tup r
    refine .inl ⟨p, ys, rfl, .inr (SqT.of h1), ?_⟩
    rw [a1.length]
    exact k _ H (Same.refl H) (.int _)
  | [.scr ns], e =>
    cases e
    obtain ⟨v, rfl, r⟩ := rpall1 rv
    obtain ⟨p, rfl, h1⟩ := rp_scr r
    refine .inl ⟨p, _, rfl, .inl h1, ?_⟩
    rw [List.length_map]
    exact k _ H (Same.refl H) (.int _)
  | [.str z], e =>
    obtain ⟨v, rfl, r⟩ := rpall1 rv
    simp only [gLen] at e
    split at e
    · rename_i hl
      cases e
      exact .inr ⟨z, by rw [rp_str r], lb_le hl, k _ H (Same.refl H) (.int _)⟩
    · cases e
theorem e_len (hm : X.mg "len" = none) (ha : PA X [a] (tA X.K W A)) (hg : Gl X "len" := by rfl) (he : starEach [a] X.env = (false, eval a X.env) :: starEach [] X.env := by rfl) : PE X (.Call (.Name "len" p) [a] [] pos) (tE X.K W (eCall gLen A)) :=
  e_callB (CallR.or call_len_seq call_len_str) cd_len hm PySem.boot_len ha hg (he := he)
/-- ints of a list -/
def asInts : List D → Option (List Int)
  | [] => some []
  | .int i :: r => (asInts r).map (i :: ·)
  | _ => none
def asBls : List D → Option (List Bool)
  | [] => some []
  | .bl i :: r => (asBls r).map (i :: ·)
  | _ => none
theorem asInts_map (ns : List Int) : asInts (ns.map .int) = some ns := by
  induction ns with
  | nil => rfl
  | cons n ns ih => simp [asInts, ih]
theorem asBls_map (ns : List Bool) : asBls (ns.map .bl) = some ns := by
  induction ns with
  | nil => rfl
  | cons n ns ih => simp [asBls, ih]
theorem asInts_eq : ∀ {ds : List D} {ns : List Int}, asInts ds = some ns → ds = ns.map .int
  | [], ns, h => by cases h; rfl
  | d :: ds, ns, h => by
    cases d <;> simp only [asInts] at h <;> try contradiction
    cases q : asInts ds with
    | none => rw [q] at h; cases h
    | some ms => rw [q] at h; cases h; rw [asInts_eq q]; rfl
theorem asBls_eq : ∀ {ds : List D} {ns : List Bool}, asBls ds = some ns → ds = ns.map .bl
  | [], ns, h => by cases h; rfl
  | d :: ds, ns, h => by
    cases d <;> simp only [asBls] at h <;> try contradiction
    cases q : asBls ds with
    | none => rw [q] at h; cases h
    | some ms => rw [q] at h; cases h; rw [asBls_eq q]; rfl
theorem rp_ints {K : PySem.W.Frag} {H : Hp} : ∀ {vs : List V} {ns : List Int}, RpAll K H vs (ns.map .int) → vs = ns.map V.int
  | _, [], h => by cases h; rfl
  | _, n :: ns, h => by cases h with | cons a t => rw [rp_int a, rp_ints t]; rfl
theorem rp_bls {K : PySem.W.Frag} {H : Hp} : ∀ {vs : List V} {ns : List Bool}, RpAll K H vs (ns.map .bl) → vs = ns.map V.bl
  | _, [], h => by cases h; rfl
  | _, n :: ns, h => by cases h with | cons a t => rw [rp_bl a, rp_bls t]; rfl
def maxL : List Int → Int
  | [] => 0
  | n :: ns => ns.foldl max n
def minL : List Int → Int
  | [] => 0
  | n :: ns => ns.foldl min n
theorem foldl_max_mem : ∀ (ns : List Int) (n : Int), ns.foldl max n ∈ n :: ns
  | [], n => by simp
  | m :: ns, n => by
    rw [List.foldl_cons]
    have h := foldl_max_mem ns (max n m)
    rcases List.mem_cons.mp h with h | h
    · rw [h]
      by_cases q : n ≤ m
      · rw [Int.max_eq_right q]; simp
      · rw [Int.max_eq_left (by omega)]; simp
    · simp [h]
theorem foldl_min_mem : ∀ (ns : List Int) (n : Int), ns.foldl min n ∈ n :: ns
  | [], n => by simp
  | m :: ns, n => by
    rw [List.foldl_cons]
    have h := foldl_min_mem ns (min n m)
    rcases List.mem_cons.mp h with h | h
    · rw [h]
      by_cases q : n ≤ m
      · rw [Int.min_eq_left q]; simp
      · rw [Int.min_eq_right (by omega)]; simp
    · simp [h]
theorem foldl_max_le : ∀ (ns : List Int) (n : Int), ∀ x ∈ n :: ns, x ≤ ns.foldl max n
  | [], n, x, h => by simp at h; simp [h]
  | m :: ns, n, x, h => by
    rw [List.foldl_cons]
    have q := foldl_max_le ns (max n m)
    have q0 := q (max n m) (by simp)
    rcases List.mem_cons.mp h with h | h
    · omega
    · rcases List.mem_cons.mp h with h | h
      · omega
      · exact q x (by simp [h])
theorem foldl_min_le : ∀ (ns : List Int) (n : Int), ∀ x ∈ n :: ns, ns.foldl min n ≤ x
  | [], n, x, h => by simp at h; simp [h]
  | m :: ns, n, x, h => by
    rw [List.foldl_cons]
    have q := foldl_min_le ns (min n m)
    have q0 := q (min n m) (by simp)
    rcases List.mem_cons.mp h with h | h
    · omega
    · rcases List.mem_cons.mp h with h | h
      · omega
      · exact q x (by simp [h])
theorem maxL_mem {ns : List Int} (h : ns ≠ []) : maxL ns ∈ ns := by cases ns with | nil => exact absurd rfl h | cons n ns => exact foldl_max_mem ns n
theorem minL_mem {ns : List Int} (h : ns ≠ []) : minL ns ∈ ns := by cases ns with | nil => exact absurd rfl h | cons n ns => exact foldl_min_mem ns n
theorem le_maxL {ns : List Int} {x : Int} (h : x ∈ ns) : x ≤ maxL ns := by cases ns with | nil => cases h | cons n ns => exact foldl_max_le ns n x h
theorem minL_le {ns : List Int} {x : Int} (h : x ∈ ns) : minL ns ≤ x := by cases ns with | nil => cases h | cons n ns => exact foldl_min_le ns n x h
def gSum : List D → Option D
  | [.lst xs] => (asInts xs).map fun ns => .int ns.sum
  | _ => none
def gMax : List D → Option D
  | [.lst xs] => (asInts xs).bind fun ns => if ns = [] then none else some (.int (maxL ns))
  | [.int i, .int j] => some (.int (if j > i then j else i))
  | _ => none
def gMin : List D → Option D
  | [.lst xs] => (asInts xs).bind fun ns => if ns = [] then none else some (.int (minL ns))
  | [.int i, .int j] => some (.int (if j < i then j else i))
  | _ => none
def gAll : List D → Option D
  | [.lst xs] => (asBls xs).map fun bs => .bl (bs.all _root_.id)
  | _ => none
def gAny : List D → Option D
  | [.lst xs] => (asBls xs).map fun bs => .bl (bs.any _root_.id)
  | _ => none
theorem cd_sum {K : PySem.W.Frag} : CallD K (rSum K) gSum := by
  intro vs ds d H Q rv e k
  match ds, e with
  | [.lst xs], e =>
    obtain ⟨v, rfl, r⟩ := rpall1 rv
    simp only [gSum] at e
    cases q : asInts xs with
    | none => rw [q] at e; cases e
    | some ns =>
      rw [q] at e; cases e
      have z := asInts_eq q; subst z
      obtain ⟨p, ys, rfl, h1, a1⟩ := rp_lst r
      have z := rp_ints a1; subst z
      exact ⟨p, ns, rfl, SqL.of h1, k _ H (Same.refl H) (.int _)⟩
def rMaxA (K : PySem.W.Frag) : List V → Hp → VK → Prop := fun xs H Q => rMax K xs H Q ∨ ∃ i j, xs = [.int i, .int j] ∧ Q (.int (if j > i then j else i)) H
def rMinA (K : PySem.W.Frag) : List V → Hp → VK → Prop := fun xs H Q => rMin K xs H Q ∨ ∃ i j, xs = [.int i, .int j] ∧ Q (.int (if j < i then j else i)) H
theorem cd_max {K : PySem.W.Frag} : CallD K (rMaxA K) gMax := by
  intro vs ds d H Q rv e k
  match ds, e with
  | [.lst xs], e =>
    obtain ⟨v, rfl, r⟩ := rpall1 rv
    simp only [gMax] at e
    cases q : asInts xs with
    | none => rw [q] at e; cases e
    | some ns =>
      rw [q] at e
      simp only [Option.bind_some] at e
      split at e
      · cases e
      · rename_i hne
        cases e
        have z := asInts_eq q; subst z
        obtain ⟨p, ys, rfl, h1, a1⟩ := rp_lst r
        have z := rp_ints a1; subst z
        refine .inl ⟨p, ns, rfl, SqL.of h1, List.length_pos_iff.mpr hne, fun m hm hle => ?_⟩
        have : m = maxL ns := by
          have h1 := le_maxL hm
          have h2 := hle _ (maxL_mem hne)
          omega
        rw [this]
        exact k _ H (Same.refl H) (.int _)
  | [.int i, .int j], e =>
    cases e
    obtain ⟨v, v', rfl, r, r'⟩ := rpall2 rv
    exact .inr ⟨i, j, by rw [rp_int r, rp_int r'], k _ H (Same.refl H) (.int _)⟩
theorem cd_min {K : PySem.W.Frag} : CallD K (rMinA K) gMin := by
  intro vs ds d H Q rv e k
  match ds, e with
  | [.lst xs], e =>
    obtain ⟨v, rfl, r⟩ := rpall1 rv
    simp only [gMin] at e
    cases q : asInts xs with
    | none => rw [q] at e; cases e
    | some ns =>
      rw [q] at e
      simp only [Option.bind_some] at e
      split at e
      · cases e
      · rename_i hne
        cases e
        have z := asInts_eq q; subst z
        obtain ⟨p, ys, rfl, h1, a1⟩ := rp_lst r
        have z := rp_ints a1; subst z
        refine .inl ⟨p, ns, rfl, SqL.of h1, List.length_pos_iff.mpr hne, fun m hm hle => ?_⟩
        have : m = minL ns := by
          have h1 := minL_le hm
          have h2 := hle _ (minL_mem hne)
          omega
        rw [this]
        exact k _ H (Same.refl H) (.int _)
  | [.int i, .int j], e =>
    cases e
    obtain ⟨v, v', rfl, r, r'⟩ := rpall2 rv
    exact .inr ⟨i, j, by rw [rp_int r, rp_int r'], k _ H (Same.refl H) (.int _)⟩
end
end PB

namespace PB
open PySem PySem.Spec PyProof.Rows L2
section
variable {X : Cx} {W : Wsh} {a b c : Expr} {F G G' : Sl → Rs D} {pos : Pos} {k : Nat} {A : Sl → Rs (List D)} {es : List Expr} {x : Str} {p : Pos} {e : Expr}
theorem cd_all {K : PySem.W.Frag} : CallD K (rAll K) gAll := by
  intro vs ds d H Q rv e k
  match ds, e with
  | [.lst xs], e =>
    obtain ⟨v, rfl, r⟩ := rpall1 rv
    simp only [gAll] at e
    cases q : asBls xs with
    | none => rw [q] at e; cases e
    | some ns =>
      rw [q] at e; cases e
      have z := asBls_eq q; subst z
      obtain ⟨p, ys, rfl, h1, a1⟩ := rp_lst r
      have z := rp_bls a1; subst z
      exact ⟨p, ns, rfl, SqL.of h1, k _ H (Same.refl H) (.bl _)⟩
theorem cd_any {K : PySem.W.Frag} : CallD K (rAny K) gAny := by
  intro vs ds d H Q rv e k
  match ds, e with
  | [.lst xs], e =>
    obtain ⟨v, rfl, r⟩ := rpall1 rv
    simp only [gAny] at e
    cases q : asBls xs with
    | none => rw [q] at e; cases e
    | some ns =>
      rw [q] at e; cases e
      have z := asBls_eq q; subst z
      obtain ⟨p, ys, rfl, h1, a1⟩ := rp_lst r
      have z := rp_bls a1; subst z
      exact ⟨p, ns, rfl, SqL.of h1, k _ H (Same.refl H) (.bl _)⟩
theorem e_sum (hm : X.mg "sum" = none) (ha : PA X [a] (tA X.K W A)) (hc : X.calm = true := by rfl) (hg : Gl X "sum" := by rfl) (he : starEach [a] X.env = (false, eval a X.env) :: starEach [] X.env := by rfl) : PE X (.Call (.Name "sum" p) [a] [] pos) (tE X.K W (eCall gSum A)) :=
  e_callB (cr_sum hc) cd_sum hm (by decide +kernel) ha hg (he := he)
theorem e_all (hm : X.mg "all" = none) (ha : PA X [a] (tA X.K W A)) (hc : X.calm = true := by rfl) (hg : Gl X "all" := by rfl) (he : starEach [a] X.env = (false, eval a X.env) :: starEach [] X.env := by rfl) : PE X (.Call (.Name "all" p) [a] [] pos) (tE X.K W (eCall gAll A)) :=
  e_callB (cr_all hc) cd_all hm (by decide +kernel) ha hg (he := he)
theorem e_any (hm : X.mg "any" = none) (ha : PA X [a] (tA X.K W A)) (hc : X.calm = true := by rfl) (hg : Gl X "any" := by rfl) (he : starEach [a] X.env = (false, eval a X.env) :: starEach [] X.env := by rfl) : PE X (.Call (.Name "any" p) [a] [] pos) (tE X.K W (eCall gAny A)) :=
  e_callB (cr_any hc) cd_any hm (by decide +kernel) ha hg (he := he)
theorem e_max (hm : X.mg "max" = none) (ha : PA X (a :: es) (tA X.K W A)) (hc : X.calm = true := by rfl) (hg : Gl X "max" := by rfl) (he : starEach (a :: es) X.env = (false, eval a X.env) :: starEach es X.env := by rfl) (hpl : (backTo pos (starEach es X.env)).any (·.1) = false := by rfl) : PE X (.Call (.Name "max" p) (a :: es) [] pos) (tE X.K W (eCall gMax A)) :=
  e_callB (CallR.or (cr_max hc) (call_max2 hc)) cd_max hm (by decide +kernel) ha hg (he := he) (hpl := hpl)
theorem e_min (hm : X.mg "min" = none) (ha : PA X (a :: es) (tA X.K W A)) (hc : X.calm = true := by rfl) (hg : Gl X "min" := by rfl) (he : starEach (a :: es) X.env = (false, eval a X.env) :: starEach es X.env := by rfl) (hpl : (backTo pos (starEach es X.env)).any (·.1) = false := by rfl) : PE X (.Call (.Name "min" p) (a :: es) [] pos) (tE X.K W (eCall gMin A)) :=
  e_callB (CallR.or (cr_min hc) (call_min2 hc)) cd_min hm (by decide +kernel) ha hg (he := he) (hpl := hpl)
/-! tuple(..), list(..) -/
def gTuple : List D → Option D
  | [.lst xs] => some (.tup xs)
  | [.tup xs] => some (.tup xs)
  | _ => none
def gList : List D → Option D
  | [.lst xs] => some (.lst xs)
  | [.tup xs] => some (.lst xs)
  | _ => none
def rTupO (K : PySem.W.Frag) : List V → Hp → VK → Prop := fun xs H Q => ∃ p ys, xs = [.ref p] ∧ ((SqL K H p ys ∧ ∀ l, H l = none → Q (.ref l) (upd H l (.tup ys))) ∨ (SqT K H p ys ∧ Q (.ref p) H))
def rLstO (K : PySem.W.Frag) : List V → Hp → VK → Prop := fun xs H Q => ∃ p ys, xs = [.ref p] ∧ (SqL K H p ys ∨ SqT K H p ys) ∧ ∀ l, H l = none → Q (.ref l) (upd H l (.lst ys))
theorem cd_tuple {K : PySem.W.Frag} : CallD K (rTupO K) gTuple := by
  intro vs ds d H Q rv e k
  match ds, e with
  | [.lst xs], e =>
    cases e
    obtain ⟨v, rfl, r⟩ := rpall1 rv
    obtain ⟨p, ys, rfl, h1, a1⟩ := rp_lst r
    exact ⟨p, ys, rfl, .inl ⟨SqL.of h1, fun n hn => k _ _ (same_new hn) (.tup upd_same (a1.mono (same_new hn)))⟩⟩
  | [.tup xs], e =>
    cases e
    obtain ⟨v, rfl, r⟩ := rpall1 rv
    obtain ⟨p, ys, rfl, h1, a1⟩ := rp_tup r
    exact ⟨p, ys, rfl, .inr ⟨SqT.of h1, k _ H (Same.refl H) (.tup h1 a1)⟩⟩
theorem cd_list {K : PySem.W.Frag} : CallD K (rLstO K) gList := by
  intro vs ds d H Q rv e k
  match ds, e with
  | [.lst xs], e =>
    cases e
    obtain ⟨v, rfl, r⟩ := rpall1 rv
    obtain ⟨p, ys, rfl, h1, a1⟩ := rp_lst r
    exact ⟨p, ys, rfl, .inl (SqL.of h1), fun n hn => k _ _ (same_new hn) (.lst upd_same (a1.mono (same_new hn)))⟩
  | [.tup xs], e =>
    cases e
    obtain ⟨v, rfl, r⟩ := rpall1 rv
    obtain ⟨p, ys, rfl, h1, a1⟩ := rp_tup r
    exact ⟨p, ys, rfl, .inr (SqT.of h1), fun n hn => k _ _ (same_new hn) (.lst upd_same (a1.mono (same_new hn)))⟩
theorem e_tuple (hm : X.mg "tuple" = none) (ha : PA X [a] (tA X.K W A)) (hg : Gl X "tuple" := by rfl) (he : starEach [a] X.env = (false, eval a X.env) :: starEach [] X.env := by rfl) : PE X (.Call (.Name "tuple" p) [a] [] pos) (tE X.K W (eCall gTuple A)) :=
  e_callTy call_tuple_of cd_tuple hm (by decide +kernel) ha hg (he := he)
theorem e_list (hm : X.mg "list" = none) (ha : PA X [a] (tA X.K W A)) (hg : Gl X "list" := by rfl) (he : starEach [a] X.env = (false, eval a X.env) :: starEach [] X.env := by rfl) : PE X (.Call (.Name "list" p) [a] [] pos) (tE X.K W (eCall gList A)) :=
  e_callTy call_list_of cd_list hm (by decide +kernel) ha hg (he := he)
/-! list(range(a, b)) -/
def rgI (a b : Int) : List Int := (List.range (b - a).toNat).map fun i => a + (i : Nat)
def dRg : D → D → Option D
  | .int i, .int j => if -1000000 ≤ i ∧ i ≤ 1000000 ∧ -1000000 ≤ j ∧ j ≤ 1000000 then some (.lst ((rgI i j).map .int)) else none
  | _, _ => none
theorem rp_all_ints {K : PySem.W.Frag} {H : Hp} : ∀ (ns : List Int), RpAll K H (ns.map V.int) (ns.map D.int)
  | [] => .nil
  | n :: ns => .cons (.int n) (rp_all_ints ns)
theorem rgV_eq (a b : Int) : rgV a b = (rgI a b).map V.int := by unfold rgV rgI; rw [List.map_map]; rfl
theorem rg_ok {i j : Int} (h : -1000000 ≤ i ∧ i ≤ 1000000 ∧ -1000000 ≤ j ∧ j ≤ 1000000) : RgOk i j := ⟨by omega, by omega, by omega, by omega, by
  have e : (2 : Nat) ^ 24 = 16777216 := by decide
  rw [e]; omega⟩
theorem e_listRg2 (hl : X.mg "list" = none) (hm : X.mg "range" = none) {p2 pos2 : Pos} (ha : PE X a (tE X.K W F)) (hb : PE X b (tE X.K W G)) (hc : X.calm = true := by rfl) (hg : Gl X "list" := by rfl) (hg2 : Gl X "range" := by rfl)
    (na : starEach [.Call (.Name "range" p2) [a, b] [] pos2] X.env = (false, eval (.Call (.Name "range" p2) [a, b] [] pos2) X.env) :: starEach [] X.env := by rfl)
    (na2 : starEach [a, b] X.env = (false, eval a X.env) :: starEach [b] X.env := by rfl) (nb2 : starEach [b] X.env = (false, eval b X.env) :: starEach [] X.env := by rfl) (hp2 : (backTo pos2 (starEach [b] X.env)).any (·.1) = false := by rfl) :
    PE X (.Call (.Name "list" p) [.Call (.Name "range" p2) [a, b] [] pos2] [] pos) (tE X.K W (eBin dRg F G)) := by
  refine pe_imp (pe_listRg hc hg hl (prg_2 hg2 hm ha hb na2 nb2 hp2) na) fun σ H Q h => ?_
  obtain ⟨ρ, rr, h⟩ := h
  refine ⟨ρ, rr, cs_mono (cs_bind h) (fun dx h1 v1 H1 s1 r1 => ?_) fun c q => q⟩
  refine ⟨ρ, rr.mono s1, cs_mono (cs_bind h1) (fun dy h2 v2 H2 s2 r2 => ?_) fun c q H' s => q H' (s1.trans s)⟩
  obtain ⟨d, e, h3⟩ := cs_of h2
  cases dx <;> cases dy <;> simp only [dRg] at e <;> try contradiction
  rename_i i j
  split at e
  · rename_i hb
    cases e
    refine ⟨i, j, rp_int r1, rp_int r2, rg_ok hb, fun q hq => ?_⟩
    refine h3 _ _ ((s1.trans s2).trans (same_new hq)) (.lst upd_same ?_)
    rw [rgV_eq]
    exact rp_all_ints _
  · cases e
/-! isinstance(x, T) -/
def dTy : D → String
  | .non => "NoneType" | .bl _ => "bool" | .int _ => "int" | .str _ => "str" | .lst _ => "list" | .tup _ => "tuple" | .dct _ => "dict" | .scr _ => "list" | .clo _ _ => "clo" | .lam _ _ _ => "lam" | .ins _ _ => "ins" | .obj _ => "obj"
inductive TyN where
  | int | bool | str | tuple | list
def TyN.s : TyN → String
  | .int => "int" | .bool => "bool" | .str => "str" | .tuple => "tuple" | .list => "list"
def dIsi (T : TyN) : D → Option D
  | .scr _ => none
  | .bl _ => some (.bl (match T with | .int => true | .bool => true | _ => false))
  | .int _ => some (.bl (match T with | .int => true | _ => false))
  | .str _ => some (.bl (match T with | .str => true | _ => false))
  | .tup _ => some (.bl (match T with | .tuple => true | _ => false))
  | .lst _ => some (.bl (match T with | .list => true | _ => false))
  | .non => some (.bl false)
  | .dct _ => none
  | .clo _ _ => none
  | .lam _ _ _ => none
  | .ins _ _ => none
  | .obj _ => none
def kTy : D → Bool
  | .non => true | .bl _ => true | .int _ => true | .str _ => true | .lst _ => true | .tup _ => true
  | _ => false
theorem dTy_x {K : PySem.W.Frag} {H : Hp} {v : V} {d : D} (h : Rp K H v d) (hk : kTy d = true) : TyX K H v (.type (dTy d)) := by
  cases h with
  | non => exact .base .non
  | bl b => exact .base (.bl b)
  | int b => exact .base (.int b)
  | str b => exact .base (.str b)
  | lst h _ => exact .base (.lst h)
  | tup h _ => exact .base (.tup h)
  | _ => cases hk
theorem kit_all (T : TyN) (d : D) (b : Bool) (h : dIsi T d = some (.bl b)) : kitB (dTy d) T.s = some b := by
  cases T <;> cases d <;> simp only [dIsi, Option.some.injEq, D.bl.injEq] at h <;> first | contradiction | (subst h; simp only [dTy, TyN.s]; decide +kernel)
theorem e_isi (T : TyN) {q : Str} {pT : Pos} (hm : X.mg "isinstance" = none) (hmT : X.mg q = none) (hq : q = PySem.Str.ofString T.s) (ha : PE X a (tE X.K W F)) (hg : Gl X "isinstance" := by rfl) (hgT : Gl X q := by rfl)
    (hvT : bootBuiltins q = some (.type T.s) := by decide +kernel) (hn : q ≠ "__name__" := by decide) (hd : (q == ("__debug__" : Str)) = false := by decide)
    (he : starEach [a, .Name q pT] X.env = (false, eval a X.env) :: starEach [.Name q pT] X.env := by rfl) (he2 : starEach [.Name q pT] X.env = (false, eval (.Name q pT) X.env) :: starEach [] X.env := by rfl) (hpl : (backTo pos (starEach [.Name q pT] X.env)).any (·.1) = false := by rfl) :
    PE X (.Call (.Name "isinstance" p) [a, .Name q pT] [] pos) (tE X.K W (eUn (dIsi T) F)) := by
  refine pe_imp (pe_callB call_isi hg hm (by decide +kernel) (pa_cons ha (pa_cons (pe_bltn (v := .ty T.s) hgT hmT hvT rfl hn hd) pa_nil he2) he) (he := he) (hpl := hpl)) fun σ H Q h => ?_
  obtain ⟨ρ, rr, h⟩ := h
  refine ⟨ρ, rr, cs_mono (cs_bind h) (fun dx h1 v1 H1 s1 r1 => ?_) fun c q => q⟩
  obtain ⟨d, e, h3⟩ := cs_of h1
  have hb : ∃ b, d = .bl b := by
    cases dx <;> simp only [dIsi] at e <;> first | contradiction | (cases e; exact ⟨_, rfl⟩)
  obtain ⟨b, rfl⟩ := hb
  exact ⟨v1, .ty T.s, _, _, b, rfl, .ty _, dTy_x r1 (by cases dx <;> first | rfl | cases e), kit_ty (kit_all T dx b e), h3 _ H1 s1 (.bl b)⟩

/-! ### calls of defs -/
/-- the promise of a def by its semantics on data -/
def spD (K : PySem.W.Frag) (ec : Nat → Addr) (m : List D → Rs D) : Sp := fun vs H Q E => AllTab K H ∧ ∃ ds, RpAll K H vs ds ∧ cs (m ds) (fun d => ∀ v H', Same H H' → Rp K H' v d → Q v H') (fun c => ∀ H', Same H H' → E (.ref (ec c)) none H')
structure FOk (P : Program) (w : World) (K : PySem.W.Frag) (mg : Str → Option Value) (base : Heap) (ec : Nat → Addr) (k : Nat) (x : Str) (ps : List Str) (m : List D → Rs D) : Prop where
  ex : ∃ fd, FnOk P w K mg base (L2.CX P w) k (He.ga K x) fd ps (spD K ec m) ∧ Binds K fd ps []
  kp : PySem.W.keepIn K (.ref (He.ga K x)) = true
  mg_ : mg x = some (.ref (He.ga K x))
def eF (m : List D → Rs D) (A : Sl → Rs (List D)) : Sl → Rs D := fun ρ => (A ρ).bind m
theorem e_call {ec : Nat → Addr} {j : Nat} {ps : List Str} {m : List D → Rs D} (O : FOk X.prog X.w X.K X.mg X.base ec j x ps m) (hr : Room k X.A) (tk : Takes X (wx ec W)) (ha : PA X (e :: es) (tA X.K W A)) (hjk : j ≤ k := by decide) (hg : Gl X x := by rfl)
    (hdb : (x == ("__debug__" : Str)) = false := by decide) (he : starEach (e :: es) X.env = (false, eval e X.env) :: starEach es X.env := by rfl) (hpl : (backTo pos (starEach es X.env)).any (·.1) = false := by rfl) :
    PE X (.Call (.Name x p) (e :: es) [] pos) (tE X.K W (eF m A)) := by
  obtain ⟨fd, Fk, Bd⟩ := O.ex
  refine pe_imp (pe_callS Fk (hr.mono hjk) hg O.mg_ O.kp Bd (fun σ => passAt tk σ) ha hdb he hpl) fun σ H Q h => ?_
  obtain ⟨ρ, rr, h⟩ := h
  refine ⟨ρ, rr, cs_mono (cs_bind h) (fun ds h1 vs H1 s1 r1 => ?_) fun c q => q⟩
  exact ⟨rr.1.2.mono s1, ds, r1, cs_mono h1 (fun d h2 v H' s r => h2 v H' (s1.trans s) r) fun c q H' s => ⟨c, rfl, rfl, q H' (s1.trans s)⟩⟩
theorem takes_w0 {ec : Nat → Addr} : Takes X (wx ec W0) := takes0.imp fun _ _ _ _ ⟨_, _, _, z⟩ => z.elim
end
end PB

namespace PB
open PySem PySem.Spec PyProof.Rows L2

/-! ### enumerate of a tuple -/
def IteT (K : PySem.W.Frag) (a : Addr) : It :=
  ⟨fun i H => ∃ (xs : List V) (x : V), SqT K H a xs ∧ xs[i]? = some x, fun i H v H' => ∃ T x, v = .ref T ∧ H T = none ∧ H' = upd H T (.tup [.int (i : Nat), x]) ∧ ∀ xs, SqT K H a xs → xs[i]? = some x, fun i H => ∃ xs : List V, SqT K H a xs ∧ xs.length = i⟩
theorem turn_enumT {P : Program} {w : World} {K : PySem.W.Frag} {elts : List Expr} {kk : Nat} {tpos : Pos} (a e it : Addr) (hae : a ≠ e) (hai : a ≠ it) :
    Turn P w K (.Tuple elts kk tpos) (IteT K a) [e, it] e (fun i h => (∃ old, IsEnum h e it ((i : Nat) : Int) old) ∧ h.IsTupleIter it a i ∧ e ≠ it) where
  mem := by simp
  obj := fun i h st b hb => by
    obtain ⟨⟨old, he⟩, ⟨o, ho, hc, hd⟩, _⟩ := st
    have e' : b = e ∨ b = it := by simpa using hb
    rcases e' with z | z
    · rw [z]; exact ⟨_, he, fun v q => nomatch q⟩
    · rw [z]; exact ⟨o, ho, fun v q => by rw [hd] at q; cases q⟩
  keep := fun i h h' st k => let ⟨⟨old, he⟩, hi, hne⟩ := st; ⟨⟨old, k e (by simp) _ he⟩, hi.at fun o q => k it (by simp) o q, hne⟩
  item := by
    intro X hP hw hK hc i pins s σ H E I hf st hg
    subst hP hw hK
    obtain ⟨⟨old, he⟩, hit, hne⟩ := st
    obtain ⟨xs, x, hq, hx⟩ := hg
    obtain ⟨its, rv, p, hz⟩ := I.tuple hq
    have hel : e < s.heap.objs.size := Heap.lt_size he
    have hil : it < s.heap.objs.size := by obtain ⟨_, q, _⟩ := hit; exact Heap.lt_size q
    have hlt : i < its.toArray.size := by
      have h1 := rv.length
      have h2 := (List.getElem?_eq_some_iff.mp hx).1
      simp; omega
    refine wpAny_pyNext_enum_itemD (Draws.tuple (prog := X.prog) (w := X.w) (A := X.A.in1) (show X.A.in1.handled = none from I.ok.hd hc) it a hai its.toArray) he ⟨hit, p⟩ hlt hne (by simp; exact ⟨hne, Ne.symm hae⟩) fun u h' tk hu ho hst' hT hsz hk => ?_
    obtain ⟨hit', _⟩ := hst'
    refine ⟨_, rfl, wpAny_letOwnedTupleGo_enum (s := { s with heap := h', toks := tk + 1 }) ho fun h'' he' sb => ?_⟩
    have ru : RelV x u := by
      obtain ⟨u', hu', r'⟩ := rv.get hx
      have : its[i]? = some u := by simpa using hu
      rw [hu'] at this; cases this; exact r'
    have hT2 : h''.get? s.heap.objs.size = some { cls := .type "tuple", data := .seq #[.int i tk, u] } := (sb.2 _ (Nat.ne_of_gt hel)).trans hT
    have new : ObjOk X.prog X.w (upd H s.heap.objs.size (.tup [.int (i : Nat), x])) h'' s.heap.objs.size (.tup [.int (i : Nat), x]) :=
      ⟨by show 2 ≤ sizeLine; decide, [.int i tk, u], .cons ⟨_, rfl⟩ (.cons ru .nil), ⟨_, hT2, rfl, _, rfl⟩⟩
    have I1 : L2.Inv X pins σ (upd H s.heap.objs.size (.tup [.int (i : Nat), x])) { s with heap := h'', toks := tk + 1 } :=
      I.turnedNew (ch := [e, it]) (fun b ob hb q => (sb.2 b (fun z => hb (by simp [z]))).trans (hk b ob (fun z => hb (by simp [z])) (fun z => hb (by simp [z])) q)) hf (Nat.le_refl _) new
    refine ⟨.ref s.heap.objs.size, _, I1, rfl, ⟨_, x, rfl, I.hok.fresh (Nat.le_refl _), rfl, fun ys hy => by rw [I.tuple_inj hy hq]; exact hx⟩, ⟨⟨u, ?_⟩, hit'.at fun o q => (sb.2 it (Ne.symm hne)).trans q, hne⟩, fun b hb => ?_⟩
    · have e1 : ((i + 1 : Nat) : Int) = (i : Int) + 1 := by omega
      rw [e1]; exact he'
    · have hb' : b < s.heap.objs.size := by
        have e' : b = e ∨ b = it := by simpa using hb
        rcases e' with z | z
        · rw [z]; exact hel
        · rw [z]; exact hil
      rw [upd_ne (Nat.ne_of_lt hb')]
      exact (hf b hb).1
  done := by
    intro X hP hw hK hc i pins s σ H E I hf st hg
    subst hP hw hK
    obtain ⟨⟨old, he⟩, hit, hne⟩ := st
    obtain ⟨xs, hq, hx⟩ := hg
    obtain ⟨its, rv, p, hz⟩ := I.tuple hq
    obtain ⟨f0, f1, f2, f3, f4, f5⟩ := hf it (by simp)
    have hl := rv.length
    have hi : i = its.toArray.size := by simp; omega
    subst hi
    exact wpAny_pyNext_enum_endD (Draws.tuple (prog := X.prog) (w := X.w) (A := X.A.in1) (show X.A.in1.handled = none from I.ok.hd hc) it a hai its.toArray) he ⟨hit, p⟩ fun h' eb => ⟨rfl, I.turned (t' := s.toks) (fun b o hb q => eb b o hb q) f0 f1 f3 f4 f5⟩
  self := fun A i s Q E st h => let ⟨⟨_, he⟩, _⟩ := st; wpAny_pyIter_enum he h
theorem meets_enumerate_newB1 {v : Value} {o : Obj} {H : Heap → Prop} (B : Begins v o H) :
    Meets (Builtin.«enumerate.__new__» ⟨[.type "enumerate", v], []⟩) (fun _ R s => H s.heap ∧
      R (.ok (.ret (.ref (s.heap.push o).objs.size))) { s with heap := (s.heap.push o).push { cls := .type "enumerate", data := .fields #[.none, .bool false, .ref s.heap.objs.size, rawInt 0, .none, .none] } }) :=
  .of_wp fun prog w A R s h => by
    obtain ⟨hp, g, d, tk, os⟩ := s; obtain ⟨h1, h⟩ := h
    have hsub := sub_enumerate
    have q1 : ∀ {A' : Around} {E : Value → Shared → Prop} {Q : Value → Shared → Prop}, Q (.ref hp.objs.size) ⟨hp.push o, g, d, tk, os⟩ → wpAny (model prog w) A' (pyIter v) Q E ⟨hp, g, d, tk, os⟩ :=
      fun q => B.iter prog w _ _ ⟨hp, g, d, tk, os⟩ _ h1 q
    wp_walk using q1
    refine wpAny_stack_any fun st => wpAny_pure ?_
    split
    · rename_i c _ _ _ _ _
      cases (c == Value.type "enumerate")
      · wp_walk using q1
        exact ⟨_, rfl, h⟩
      · wp_walk using q1
        exact ⟨_, rfl, h⟩
    · wp_walk using q1
      exact ⟨_, rfl, h⟩
theorem enum_begins1 {prog : Program} {w : World} {A : Around} {E : Value → Shared → Prop} {s : Shared} {v : Value} {o : Obj} {H : Heap → Prop} {Q : Value → Shared → Prop} (B : Begins v o H) (h1 : H s.heap)
    (h : ∀ h', IsEnum h' (s.heap.objs.size + 1) s.heap.objs.size 0 .none → h'.get? s.heap.objs.size = some o → h'.objs.size = s.heap.objs.size + 2 →
      (∀ b o, s.heap.get? b = some o → h'.get? b = some o) → Q (.ref (s.heap.objs.size + 1)) { s with heap := h' }) :
    wpAny (model prog w) A (call (.type "enumerate") [v]) Q E s := by
  refine callType_new F.called_enumerate (by decide) (F.typeCall_enumerate_1 _) (F.newCall_enumerate_1 _) (fun obj => F.args_object_init_2 obj _) F.entry_enumerate_new
    (meets_enumerate_newB1 B) ⟨h1, ?_⟩
  have hz : (s.heap.push o).objs.size = s.heap.objs.size + 1 := Heap.size_push ..
  show _ ∧ _
  rw [hz]
  have he : IsEnum ((s.heap.push o).push { cls := .type "enumerate", data := .fields #[.none, .bool false, .ref s.heap.objs.size, rawInt 0, .none, .none] }) (s.heap.objs.size + 1) s.heap.objs.size 0 .none := by
    have q := Heap.get?_push_size (s.heap.push o) (o := { cls := .type "enumerate", data := .fields #[.none, .bool false, .ref s.heap.objs.size, rawInt 0, .none, .none] }) rfl
    rw [hz] at q
    exact q
  have key := h _ he (Heap.get?_push_of_some _ (Heap.get?_push_size _ B.free)) (by rw [Heap.size_push, hz]) (fun b o e => Heap.get?_push_of_some _ (Heap.get?_push_of_some _ e))
  exact ⟨⟨_, he, rfl⟩, key⟩
def iEnumT (K : PySem.W.Frag) (ta : TA) : TI := fun σ H R => ta σ H fun vs H1 => ∃ a xs, vs = [.ref a] ∧ SqT K H1 a xs ∧ R (IteT K a) H1
theorem pi_enumT {X : Cx} {e : Expr} {ta : TA} {p pos tpos : Pos} {elts : List Expr} {kk : Nat} (hg : Gl X "enumerate") (hm : X.mg "enumerate" = none) (ha : PA X [e] ta) (hs : starEach [e] X.env = [(false, eval e X.env)] := by rfl) :
    PI X (.Tuple elts kk tpos) (.Call (.Name "enumerate" p) [e] [] pos) (iEnumT X.K ta) := by
  refine ⟨fun pins s σ H R I h => ?_⟩
  refine Call_ (ld_blt I hg hm boot_enumerate (PyProof.Rows.callWith_type1 (thn (ha.run pos pins s σ H _ I h) fun us s1 ⟨vs, H1, I1, r1, q1⟩ => ?_) hs rfl))
  obtain ⟨a, xs, ex, hq, q⟩ := q1
  subst ex
  cases r1 with
  | cons r rr =>
    cases rr
    cases r
    obtain ⟨its, rv, p', hz⟩ := I1.tuple hq
    have la : a < s1.heap.objs.size := p'.lt
    refine enum_begins1 (begins_tuple a its.toArray) p' fun h' he hit hsz hk => wpAny_pyIter_enum he ?_
    have I2 : L2.Inv X pins σ H1 { s1 with heap := h' } := I1.kept (t' := s1.toks) hk
    refine ⟨s1.heap.objs.size + 1, [s1.heap.objs.size + 1, s1.heap.objs.size], _, _, H1, rfl, I2, turn_enumT a (s1.heap.objs.size + 1) s1.heap.objs.size (Nat.ne_of_lt (Nat.lt_succ_of_lt la)) (Nat.ne_of_lt la), ⟨⟨.none, he⟩, ⟨_, hit, rfl, rfl⟩, Nat.succ_ne_self _⟩, fun b hb => ?_, q⟩
    have e' : b = s1.heap.objs.size + 1 ∨ b = s1.heap.objs.size := by simpa using hb
    have hle : s1.heap.objs.size ≤ b := by
      rcases e' with z | z
      · rw [z]; exact Nat.le_add_right _ _
      · rw [z]; exact Nat.le_refl _
    exact I1.fpOk hle (I1.hok.fresh hle)
end PB

namespace PB
open PySem PySem.Spec PyProof.Rows L2
section
variable {prog : Program} {w : World} {A : Around} {E : Value → Shared → Prop} {s : Shared} {z TI TO i1 i2 T : Addr} {fp1 fp2 : List Addr} {n1 n2 i : Nat} {P1 P2 : Nat → Value → Prop} {St1 St2 : Nat → Heap → Prop} {a1 a2 : Value} {f : Bool} {oT : Obj}
theorem over {D : Draws prog w A i1 fp1 n1 P1 St1} {h h' : Heap} {c : Addr} (st : St1 i h) (hs : Heap.SameBut c h h') (hc : c ∉ fp1) : St1 i h' := D.frame i h h' st fun b hb o e => (hs.2 b fun q => hc (q ▸ hb)).trans e
theorem zipD2_next_item_held {Q : Value → Shared → Prop} (S : ZipSep2 z TI TO i1 i2 fp1 fp2) (D1 : Draws prog w A i1 fp1 n1 P1 St1) (D2 : Draws prog w A i2 fp2 n2 P2 St2)
    (hz : IsZipHeld s.heap z TI TO T f) (hT : s.heap.get? T = some oT) (hTI : IsTupOf2 s.heap TI (.ref i1) (.ref i2)) (st1 : St1 i s.heap) (st2 : St2 i s.heap) (hlt1 : i < n1) (hlt2 : i < n2)
    (hQ : ∀ x y h' tk, P1 i x → P2 i y → IsZipHeld h' z TI TO T true → St1 (i + 1) h' → St2 (i + 1) h' → IsTupOf2 h' s.heap.objs.size x y → h'.objs.size = s.heap.objs.size + 1 →
      (∀ c o, c ≠ z → c ≠ i1 → c ≠ i2 → s.heap.get? c = some o → h'.get? c = some o) → Q (.ref s.heap.objs.size) { s with heap := h', toks := tk }) :
    wpAny (model prog w) A (Builtin.«zip.__next__» ⟨[.ref z], []⟩) (fun fin s' => ∃ v, fin = .done (.ret v) ∧ Q v s') E s := by
  show wpAny _ _ (field (.ref z) 2 >>= _) _ _ _
  refine wpAny_bind (wpAny_field hz rfl (x := .bool false) rfl ?_)
  show wpAny _ _ (field (.ref z) 3 >>= _) _ _ _
  refine wpAny_bind (wpAny_field hz rfl (x := .ref TI) rfl ?_)
  refine wpAny_bind (wpAny_seqItems hTI rfl ?_)
  show wpAny _ _ (Builtin.SmallTypes.ownedTupleIsFree (.ref z) >>= _) _ _ _
  refine wpAny_bind (wpAny_tupleHeld_zip hz hT fun h₁ hz₁ hs₁ => ?_)
  simp only [Bool.false_eq_true, if_false]
  refine wpAny_bind ?_
  rw [← Array.forIn_toList]
  simp only [List.forIn_cons, List.forIn_nil]
  refine wpAny_bind (wpAny_bind (wpAny_holding ?_))
  show wpAny _ _ (Builtin.SmallTypes.nextOf (.ref i1) >>= _) _ _ _
  refine wpAny_bind (D1.item i { s with heap := h₁ } _ _ hlt1 (D1.frame i _ _ st1 fun b hb o e => (hs₁.2 b fun q => S.zf1 (q ▸ hb)).trans e) fun x h₂ tk₂ hx st1₂ hs₂ => wpAny_pure ?_)
  replace hs₂ : Heap.SameBut i1 h₁ h₂ := hs₂
  refine wpAny_pure ?_
  refine wpAny_bind (wpAny_bind (wpAny_holding ?_))
  show wpAny _ _ (Builtin.SmallTypes.nextOf (.ref i2) >>= _) _ _ _
  have st2₂ : St2 i h₂ := D2.frame i _ _ st2 fun b hb o e => (hs₂.2 b fun q => S.sep1_2 (q ▸ hb)).trans ((hs₁.2 b fun q => S.zf2 (q ▸ hb)).trans e)
  refine wpAny_bind (D2.item i { s with heap := h₂, toks := tk₂ } _ _ hlt2 st2₂ fun y h₃ tk₃ hy st2₃ hs₃ => wpAny_pure ?_)
  replace hs₃ : Heap.SameBut i2 h₂ h₃ := hs₃
  refine wpAny_pure (wpAny_pure ?_)
  show wpAny _ _ (newTuple [x, y] >>= _) _ _ _
  refine wpAny_bind (wpAny_newTuple ?_)
  have hsz : h₃.objs.size = s.heap.objs.size := by rw [hs₃.1, hs₂.1, hs₁.1]
  have hz₃ : IsZipHeld h₃ z TI TO T true := hs₃.extBut _ _ S.zi2 (hs₂.extBut _ _ S.zi1 hz₁)
  have hk : ∀ c o, c ≠ z → c ≠ i1 → c ≠ i2 → s.heap.get? c = some o → h₃.get? c = some o := fun c o c1 c2 c3 e => hs₃.extBut _ _ c3 (hs₂.extBut _ _ c2 (hs₁.extBut _ _ c1 e))
  have st1₃ : St1 (i + 1) h₃ := D1.frame _ _ _ st1₂ fun b hb o e => (hs₃.2 b fun q => S.sep2_1 (q ▸ hb)).trans e
  refine wpAny_pure ⟨_, rfl, ?_⟩
  show Q (.ref h₃.objs.size) _
  have hp : IsTupOf2 (h₃.push { cls := .type "tuple", data := .seq #[x, y] }) h₃.objs.size x y := Heap.get?_push_size _ rfl
  have hz4 : (h₃.push { cls := .type "tuple", data := .seq #[x, y] }).objs.size = h₃.objs.size + 1 := Heap.size_push ..
  rw [hsz] at hp hz4 ⊢
  exact hQ x y _ tk₃ hx hy (Heap.get?_push_of_some _ hz₃) (D1.frame _ _ _ st1₃ fun b _ o e => Heap.get?_push_of_some _ e) (D2.frame _ _ _ st2₃ fun b _ o e => Heap.get?_push_of_some _ e) hp hz4 fun c o c1 c2 c3 e => Heap.get?_push_of_some _ (hk c o c1 c2 c3 e)
theorem zipD2_next_end_held {Q : Fin → Shared → Prop} (S : ZipSep2 z TI TO i1 i2 fp1 fp2) (D1 : Draws prog w A i1 fp1 n1 P1 St1) (D2 : Draws prog w A i2 fp2 n2 P2 St2)
    (hz : IsZipHeld s.heap z TI TO T f) (hT : s.heap.get? T = some oT) (hTI : IsTupOf2 s.heap TI (.ref i1) (.ref i2)) (st1 : St1 i s.heap) (st2 : St2 i s.heap) (hle1 : i ≤ n1) (hle2 : i ≤ n2) (hend : i = n1 ∨ i = n2)
    (hE : ∀ h' tk e, (∀ c o, c ≠ z → c ≠ i1 → c ≠ i2 → s.heap.get? c = some o → h'.get? c = some o) → (∃ o, h'.get? e = some o ∧ o.cls = .type "StopIteration") → E (.ref e) { s with heap := h', toks := tk }) :
    wpAny (model prog w) A (Builtin.«zip.__next__» ⟨[.ref z], []⟩) Q E s := by
  show wpAny _ _ (field (.ref z) 2 >>= _) _ _ _
  refine wpAny_bind (wpAny_field hz rfl (x := .bool false) rfl ?_)
  show wpAny _ _ (field (.ref z) 3 >>= _) _ _ _
  refine wpAny_bind (wpAny_field hz rfl (x := .ref TI) rfl ?_)
  refine wpAny_bind (wpAny_seqItems hTI rfl ?_)
  show wpAny _ _ (Builtin.SmallTypes.ownedTupleIsFree (.ref z) >>= _) _ _ _
  refine wpAny_bind (wpAny_tupleHeld_zip hz hT fun h₁ hz₁ hs₁ => ?_)
  simp only [Bool.false_eq_true, if_false]
  refine wpAny_bind ?_
  rw [← Array.forIn_toList]
  simp only [List.forIn_cons, List.forIn_nil]
  refine wpAny_bind (wpAny_bind (wpAny_holding ?_))
  show wpAny _ _ (Builtin.SmallTypes.nextOf (.ref i1) >>= _) _ _ _
  have st1₁ : St1 i h₁ := D1.frame i _ _ st1 fun b hb o e => (hs₁.2 b fun q => S.zf1 (q ▸ hb)).trans e
  by_cases hi : i = n1
  · subst hi
    refine wpAny_bind (D1.done { s with heap := h₁ } _ _ st1₁ fun h₂ e hs₂ he => ?_)
    exact hE h₂ s.toks e (fun c o c1 c2 _ x => hs₂ _ _ c2 (hs₁.extBut _ _ c1 x)) he
  · have hy : i = n2 := by rcases hend with h | h; exact absurd h hi; exact h
    refine wpAny_bind (D1.item i { s with heap := h₁ } _ _ (by omega) st1₁ fun x h₂ tk₂ hx st1₂ hs₂ => wpAny_pure ?_)
    replace hs₂ : Heap.SameBut i1 h₁ h₂ := hs₂
    refine wpAny_pure ?_
    refine wpAny_bind (wpAny_bind (wpAny_holding ?_))
    show wpAny _ _ (Builtin.SmallTypes.nextOf (.ref i2) >>= _) _ _ _
    have st2₂ : St2 i h₂ := D2.frame i _ _ st2 fun b hb o e => (hs₂.2 b fun q => S.sep1_2 (q ▸ hb)).trans ((hs₁.2 b fun q => S.zf2 (q ▸ hb)).trans e)
    subst hy
    refine wpAny_bind (D2.done { s with heap := h₂, toks := tk₂ } _ _ st2₂ fun h₃ e hs₃ he => ?_)
    exact hE h₃ tk₂ e (fun c o c1 c2 c3 x => hs₃ _ _ c3 (hs₂.extBut _ _ c2 (hs₁.extBut _ _ c1 x))) he
theorem pyNext_zipD2_item_held {Q : Option Value → Shared → Prop} (S : ZipSep2 z TI TO i1 i2 fp1 fp2) (D1 : Draws prog w A.in1 i1 fp1 n1 P1 St1) (D2 : Draws prog w A.in1 i2 fp2 n2 P2 St2)
    (hz : IsZipHeld s.heap z TI TO T f) (hT : s.heap.get? T = some oT) (hTI : IsTupOf2 s.heap TI (.ref i1) (.ref i2)) (st1 : St1 i s.heap) (st2 : St2 i s.heap) (hlt1 : i < n1) (hlt2 : i < n2)
    (hQ : ∀ x y h' tk, P1 i x → P2 i y → IsZipHeld h' z TI TO T true → St1 (i + 1) h' → St2 (i + 1) h' → IsTupOf2 h' s.heap.objs.size x y → h'.objs.size = s.heap.objs.size + 1 →
      (∀ c o, c ≠ z → c ≠ i1 → c ≠ i2 → s.heap.get? c = some o → h'.get? c = some o) → Q (some (.ref s.heap.objs.size)) { s with heap := h', toks := tk }) :
    wpAny (model prog w) A (pyNext (.ref z)) Q E s := by
  have hTy : s.TypeIs (.ref z) "zip" := ⟨_, hz, rfl⟩
  unfold pyNext
  exact wpAny_bind (wpAny_attempt (wpAny_callSpecial?_slot (name := Str.ofString "__next__") hTy F.slot_zip_next
    (wpAny_call_entry F.slot_zip_next hTy F.entry_zip_next
      (zipD2_next_item_held S D1 D2 hz hT hTI st1 st2 hlt1 hlt2 fun x y h' tk y1 y2 b1 b2 d1 d2 b5 b6 => wpAny_pure (hQ x y h' tk y1 y2 b1 b2 d1 d2 b5 b6)) (F.args_zip_next_1 _))))
theorem pyNext_zipD2_end_held {Q : Option Value → Shared → Prop} (S : ZipSep2 z TI TO i1 i2 fp1 fp2) (D1 : Draws prog w A.in1 i1 fp1 n1 P1 St1) (D2 : Draws prog w A.in1 i2 fp2 n2 P2 St2)
    (hz : IsZipHeld s.heap z TI TO T f) (hT : s.heap.get? T = some oT) (hTI : IsTupOf2 s.heap TI (.ref i1) (.ref i2)) (st1 : St1 i s.heap) (st2 : St2 i s.heap) (hle1 : i ≤ n1) (hle2 : i ≤ n2) (hend : i = n1 ∨ i = n2)
    (hQ : ∀ h' tk, (∀ c o, c ≠ z → c ≠ i1 → c ≠ i2 → s.heap.get? c = some o → h'.get? c = some o) → Q none { s with heap := h', toks := tk }) : wpAny (model prog w) A (pyNext (.ref z)) Q E s := by
  have hTy : s.TypeIs (.ref z) "zip" := ⟨_, hz, rfl⟩
  unfold pyNext
  refine wpAny_bind (wpAny_attempt (wpAny_callSpecial?_slot (name := Str.ofString "__next__") hTy F.slot_zip_next
    (wpAny_call_entry F.slot_zip_next hTy F.entry_zip_next (zipD2_next_end_held S D1 D2 hz hT hTI st1 st2 hle1 hle2 hend fun h' tk e hk he => ?_) (F.args_zip_next_1 _))))
  obtain ⟨o, ho, hc⟩ := he
  refine wpAny_bind (wpAny_isInstance (T := "StopIteration") (b := true) ⟨o, ho, hc⟩ isSubtype_stop ?_)
  exact wpAny_pure (hQ _ tk hk)

/-! ### the loop of list(..) over the zip -/
/-- what the zip is at turn i, its tuples held by the list -/
def ZAt (N : Nat) (L z TI TO i1 i2 : Addr) (St1 St2 : Nat → Heap → Prop) (P1 P2 : Nat → Value → Prop) (i : Nat) (acc : Array Value) (h : Heap) : Prop :=
  IsTupOf2 h TI (.ref i1) (.ref i2) ∧ St1 i h ∧ St2 i h ∧ (acc.size = i ∧ h.objs.size = N + i) ∧ (∀ (j : Nat) (v : Value), acc[j]? = some v → ∃ t x y, v = .ref t ∧ t = N + j ∧ P1 j x ∧ P2 j y ∧ IsTupOf2 h t x y ∧ t ≠ z ∧ t ≠ TO ∧ t ≠ i1 ∧ t ≠ i2) ∧
  ((i = 0 ∧ IsZip h z TI TO .none ∧ ∃ b1 b2, IsTupOf2 h TO b1 b2) ∨ ∃ T f oT, IsZipHeld h z TI TO T f ∧ h.get? T = some oT ∧ T ≠ z ∧ T ≠ i1 ∧ T ≠ i2 ∧ T ≠ L ∧ ∃ oTO, h.get? TO = some oTO)
theorem extend_zip {N : Nat} {R : Result → Shared → Prop} (S : ZipSep2 z TI TO i1 i2 fp1 fp2) (D1 : Draws prog w A.in1.in1 i1 fp1 n1 P1 St1) (D2 : Draws prog w A.in1.in1 i2 fp2 n2 P2 St2) (L : Addr) (hLz : L ≠ z) (hLT : L ≠ TO) (hLTI : L ≠ TI) (hL1 : L ∉ fp1) (hL2 : L ∉ fp2) (res : Value) (hn : min n1 n2 ≤ sizeLine) :
    ∀ (k i : Nat) (s : Shared) (acc : Array Value) (c : Nat), min n1 n2 - i = k → i ≤ min n1 n2 → ZAt N L z TI TO i1 i2 St1 St2 P1 P2 i acc s.heap → s.heap.get? L = some { cls := .type "list", dict := none, data := .seq acc c, slots := #[] } →
    (∀ h' tk acc' c', (∀ b o, b ≠ L → b ≠ z → b ≠ TO → b ≠ i1 → b ≠ i2 → s.heap.get? b = some o → h'.get? b = some o) → h'.get? L = some { cls := .type "list", dict := none, data := .seq acc' c', slots := #[] } → acc'.size = min n1 n2 →
      (∀ (j : Nat) (v : Value), acc'[j]? = some v → ∃ t x y, v = .ref t ∧ t = N + j ∧ P1 j x ∧ P2 j y ∧ IsTupOf2 h' t x y) → R (.ok (.ret res)) { s with heap := h', toks := tk }) →
    codeAny (model prog w) A (.builtin "list.extend.loop" ⟨[.ref L, .ref z, res], []⟩) R s := by
  have hLi1 : L ≠ i1 := fun e => hL1 (e ▸ S.mem1)
  have hLi2 : L ≠ i2 := fun e => hL2 (e ▸ S.mem2)
  intro k
  induction k with
  | zero =>
    intro i s acc c hk hi hz hL hR
    obtain ⟨hTI, st1, st2, ⟨hsz, hN⟩, hacc, hzz⟩ := hz
    refine codeAny_builtin F.entry_extend_loop ?_
    rw [Around.under_plainId F.plain_extend_loop _]
    show wpAny _ A.in1 (pyNext (.ref z) >>= _) _ _ s
    have fin : ∀ h' tk, (∀ c o, c ≠ z → c ≠ TO → c ≠ i1 → c ≠ i2 → s.heap.get? c = some o → h'.get? c = some o) → R (.ok (.ret res)) { s with heap := h', toks := tk } := fun h' tk hkk =>
      hR h' tk acc c (fun b o _ h2 h3 h4 h5 e => hkk b o h2 h3 h4 h5 e) (hkk L _ hLz hLT hLi1 hLi2 hL) (by omega) fun j v e => by
        obtain ⟨t, x, y, e1, e0, p1, p2, ht, q1, q2, q3, q4⟩ := hacc j v e
        exact ⟨t, x, y, e1, e0, p1, p2, hkk t _ q1 q2 q3 q4 ht⟩
    rcases hzz with ⟨rfl, hz0, b1, b2, hTO⟩ | ⟨T, f, oT, hzh, hT, _⟩
    · refine wpAny_bind (wpAny_pyNext_zipD2_end S D1 D2 hz0 hTI hTO st1 st2 (Nat.zero_le _) (Nat.zero_le _) (by omega) fun h' tk hkk => ?_)
      exact wpAny_pure (fin h' tk hkk)
    · refine wpAny_bind (pyNext_zipD2_end_held S D1 D2 hzh hT hTI st1 st2 (by omega) (by omega) (by omega) fun h' tk hkk => ?_)
      exact wpAny_pure (fin h' tk fun c o h1 _ h3 h4 e => hkk c o h1 h3 h4 e)
  | succ k ih =>
    intro i s acc c hk hi hz hL hR
    obtain ⟨hTI, st1, st2, ⟨hsz, hN⟩, hacc, hzz⟩ := hz
    have hlt : i < min n1 n2 := by omega
    refine codeAny_builtin F.entry_extend_loop ?_
    rw [Around.under_plainId F.plain_extend_loop _]
    show wpAny _ A.in1 (pyNext (.ref z) >>= _) _ _ s
    have zlt : z < s.heap.objs.size := by
      rcases hzz with ⟨_, hz0, _⟩ | ⟨T, f, oT, hzh, _⟩
      · exact Heap.lt_size hz0
      · exact Heap.lt_size hzh
    have i1lt : i1 < s.heap.objs.size := by obtain ⟨o, e⟩ := D1.live i _ st1; exact Heap.lt_size e
    have i2lt : i2 < s.heap.objs.size := by obtain ⟨o, e⟩ := D2.live i _ st2; exact Heap.lt_size e
    have Llt : L < s.heap.objs.size := Heap.lt_size hL
    have step : ∀ x y h' tk (T : Addr) (f : Bool) (oT : Obj), P1 i x → P2 i y → IsZipHeld h' z TI TO T f → h'.get? T = some oT → T ≠ z → T ≠ i1 → T ≠ i2 → T ≠ L → (∃ oTO, h'.get? TO = some oTO) → (s.heap.objs.size ≠ TO) → St1 (i + 1) h' → St2 (i + 1) h' → IsTupOf2 h' s.heap.objs.size x y → h'.objs.size = s.heap.objs.size + 1 →
        (∀ c o, c ≠ z → c ≠ TO → c ≠ i1 → c ≠ i2 → s.heap.get? c = some o → h'.get? c = some o) →
        wpAny (model prog w) A.in1 (updateSeq L (·.push (.ref s.heap.objs.size)) >>= fun _ => pure (Fin.again (.builtin "list.extend.loop" ⟨[.ref L, .ref z, res], []⟩)))
          (fun fin s' => match fin with | .done f => R (.ok f) s' | .again c' => c'.quiet = true ∧ codeAny (model prog w) A c' R s') (fun e s' => R (.error e) s') { s with heap := h', toks := tk } := by
      intro x y h' tk T f oT px py hz' hT' hTz hT1 hT2 hTL hTO' hnTO st1' st2' hp hsz' hkk
      have hL' : h'.get? L = some { cls := .type "list", dict := none, data := .seq acc c, slots := #[] } := hkk L _ hLz hLT hLi1 hLi2 hL
      have oth : ∀ b o, b ≠ L → h'.get? b = some o → (h'.update L (Obj.mapSeq (·.push (.ref s.heap.objs.size)))).get? b = some o := fun b o hb e => (Heap.get?_update_other _ _ (Ne.symm hb)).trans e
      have hTIL : TI ≠ L := Ne.symm hLTI
      refine wpAny_bind ?_
      refine wpAny_updateSeq hL' rfl (wpAny_pure ⟨plainId_quiet F.plain_extend_loop _, ih (i + 1) _ (acc.push (.ref s.heap.objs.size)) _ (by omega) hlt ?_ (Heap.get?_update_self _ hL' rfl) fun h2 tk2 acc2 c2 hk2 hL2' hsz2 hacc2 => ?_⟩) (by rw [hsz]; omega) (by show (acc.push _).size ≤ sizeLine + 1; rw [Array.size_push, hsz]; omega)
      · have hTI' : IsTupOf2 h' TI (.ref i1) (.ref i2) := hkk TI _ S.TIz S.TITO S.TIi1 S.TIi2 hTI
        refine ⟨oth _ _ hTIL hTI', D1.frame _ _ _ st1' fun b hb o e => oth b o (fun q => hL1 (q ▸ hb)) e, D2.frame _ _ _ st2' fun b hb o e => oth b o (fun q => hL2 (q ▸ hb)) e, ⟨by rw [Array.size_push, hsz], by rw [Heap.size_update]; show h'.objs.size = N + (i + 1); omega⟩, fun j v e => ?_, .inr ⟨T, f, oT, oth _ _ (Ne.symm hLz) hz', oth _ _ hTL hT', hTz, hT1, hT2, hTL, ?_⟩⟩
        rotate_left
        · obtain ⟨oTO, q⟩ := hTO'
          exact ⟨oTO, oth _ _ (Ne.symm hLT) q⟩
        by_cases hj : j < acc.size
        · have e' : acc[j]? = some v := by rw [Array.getElem?_push] at e; rw [if_neg (by omega)] at e; exact e
          obtain ⟨t, x', y', e1, e0, p1, p2, ht, q1, q2, q3, q4⟩ := hacc j v e'
          have htL : t ≠ L := fun q => by
            rw [q] at ht
            have ht' : s.heap.get? L = some _ := ht
            rw [hL] at ht'; simp at ht'
          exact ⟨t, x', y', e1, e0, p1, p2, oth _ _ htL (hkk t _ q1 q2 q3 q4 ht), q1, q2, q3, q4⟩
        · have hj2 : j = acc.size := by
            have := (Array.getElem?_eq_some_iff.mp e).1
            rw [Array.size_push] at this
            omega
          subst hj2
          have e' : v = .ref s.heap.objs.size := by rw [Array.getElem?_push_size] at e; exact (Option.some.inj e).symm
          subst e'
          rw [hsz]
          exact ⟨s.heap.objs.size, x, y, rfl, hN, px, py, oth _ _ (Nat.ne_of_gt Llt) hp, Nat.ne_of_gt zlt, hnTO, Nat.ne_of_gt i1lt, Nat.ne_of_gt i2lt⟩
      · exact hR h2 tk2 acc2 c2 (fun b o h1 h3 h4 h5 h6 e => hk2 b o h1 h3 h4 h5 h6 (oth b o h1 (hkk b o h3 h4 h5 h6 e))) hL2' hsz2 hacc2
    rcases hzz with ⟨rfl, hz0, b1, b2, hTO⟩ | ⟨T, f, oT, hzh, hT, hTz, hT1, hT2, hTL, oTO, hTO⟩
    · refine wpAny_bind (wpAny_pyNext_zipD2_item S D1 D2 hz0 hTI hTO st1 st2 (by omega) (by omega) fun x y h' tk px py hz' hTO' st1' st2' hp hsz' hkk => ?_)
      have hTOlt : TO < s.heap.objs.size := Heap.lt_size hTO
      exact step x y h' tk s.heap.objs.size false _ px py hz' hp (Nat.ne_of_gt zlt) (Nat.ne_of_gt i1lt) (Nat.ne_of_gt i2lt) (Nat.ne_of_gt Llt) ⟨_, hTO'⟩ (Nat.ne_of_gt hTOlt) st1' st2' hp hsz' hkk
    · refine wpAny_bind (pyNext_zipD2_item_held S D1 D2 hzh hT hTI st1 st2 (by omega) (by omega) fun x y h' tk px py hz' st1' st2' hp hsz' hkk => ?_)
      have hTOlt : TO < s.heap.objs.size := Heap.lt_size hTO
      exact step x y h' tk T true _ px py hz' (hkk T _ hTz hT1 hT2 hT) hTz hT1 hT2 hTL ⟨oTO, hkk TO _ S.TOz S.Ti1 S.Ti2 hTO⟩ (Nat.ne_of_gt hTOlt) st1' st2' hp hsz' fun c o h1 _ h3 h4 e => hkk c o h1 h3 h4 e
end
end PB
namespace PB
open PySem PySem.Spec PyProof.Rows L2
section
variable {prog : Program} {w : World} {A : Around} {E : Value → Shared → Prop} {s : Shared} {z TI TO i1 i2 T : Addr} {fp1 fp2 : List Addr} {n1 n2 i : Nat} {P1 P2 : Nat → Value → Prop} {St1 St2 : Nat → Heap → Prop}
theorem zip_no_len : typeLookup (.type "zip") "__len__" = pure none := am_miss_of_fast (by decide +kernel)
theorem zip_no_hint : typeLookup (.type "zip") "__length_hint__" = pure none := am_miss_of_fast (by decide +kernel)
theorem hint_zip {Q : Bool → Shared → Prop} (hT : s.TypeIs (.ref z) "zip") (h : Q true s) : wpAny (model prog w) A (Builtin.List.listLengthHint (.ref z)) Q E s := by
  unfold Builtin.List.listLengthHint
  refine wpAny_bind (wpAny_specialOf hT zip_no_len ?_)
  show wpAny _ _ (specialOf (.ref z) "__length_hint__" >>= _) _ _ _
  refine wpAny_bind (wpAny_specialOf hT zip_no_hint ?_)
  exact wpAny_pure h
/-- list(zip(v1, v2)), the zip just made -/
theorem list_of_zip {Q : Value → Shared → Prop} (S : ZipSep2 z TI TO i1 i2 fp1 fp2) (D1 : ∀ A : Around, A.handled = none → Draws prog w A i1 fp1 n1 P1 St1) (D2 : ∀ A : Around, A.handled = none → Draws prog w A i2 fp2 n2 P2 St2)
    (hh : A.handled = none) (hn : min n1 n2 ≤ sizeLine) (hz : IsZip s.heap z TI TO .none) (hTI : IsTupOf2 s.heap TI (.ref i1) (.ref i2)) {b1 b2 : Value} (hTO : IsTupOf2 s.heap TO b1 b2) (st1 : St1 0 s.heap) (st2 : St2 0 s.heap)
    (hf1 : ∀ b ∈ fp1, b < s.heap.objs.size) (hf2 : ∀ b ∈ fp2, b < s.heap.objs.size)
    (hQ : ∀ h' tk acc c, (∀ b o, b ≠ z → b ≠ TO → b ≠ i1 → b ≠ i2 → s.heap.get? b = some o → h'.get? b = some o) → h'.get? s.heap.objs.size = some { cls := .type "list", dict := none, data := .seq acc c, slots := #[] } → acc.size = min n1 n2 →
      (∀ (j : Nat) (v : Value), acc[j]? = some v → ∃ t x y, v = .ref t ∧ P1 j x ∧ P2 j y ∧ IsTupOf2 h' t x y ∧ t = s.heap.objs.size + 1 + j) → Q (.ref s.heap.objs.size) { s with heap := h', toks := tk }) :
    wpAny (model prog w) A (call (.type "list") [.ref z]) Q E s := by
  refine callType_codes (Q₁ := fun obj s₁ => obj = .ref s.heap.objs.size ∧ s₁ = { s with heap := s.heap.push { cls := .type "list", data := .seq #[] } }) PySem.F.called_list (PySem.F.typeCall_list_1 _) PySem.F.entry_list_init
    (code_list_new _ ⟨rfl, rfl⟩) fun obj s₁ h₁ => ?_
  obtain ⟨rfl, rfl⟩ := h₁
  have hS : (s.heap.push { cls := .type "list", data := .seq #[] }).get? s.heap.objs.size = some { cls := .type "list", data := .seq #[] } := Heap.get?_push_size _ rfl
  refine ⟨⟨_, hS, rfl⟩, PySem.F.args_list_init_2 _ _, ?_⟩
  have hzl := Heap.lt_size hz
  have hTIl := Heap.lt_size hTI
  have hTOl := Heap.lt_size hTO
  have nS : ∀ b, b < s.heap.objs.size → b ≠ s.heap.objs.size := fun b hb => Nat.ne_of_lt hb
  generalize hL : s.heap.objs.size = L at *
  generalize hp1 : s.heap.push { cls := .type "list", data := .seq #[] } = h1 at *
  have hsz1 : h1.objs.size = L + 1 := by rw [← hp1, Heap.size_push, hL]
  have old1 : ∀ b o, s.heap.get? b = some o → h1.get? b = some o := fun b o e => by rw [← hp1]; exact Heap.get?_push_of_some _ e
  show wpAny _ _ (do let old ← Builtin.List.listItems (.ref L); Builtin.List.listUpdate (.ref L) (fun _ => #[]); letGo old.toList.reverse; Builtin.List.listExtendWith (.ref L) (.ref z) .none) _ _ _
  refine wpAny_bind ?_
  unfold Builtin.List.listItems
  refine wpAny_bind (wpAny_seqItems hS rfl (wpAny_pure ?_))
  show wpAny _ _ (updateSeq L (fun _ => #[]) >>= fun _ => letGo (#[] : Array Value).toList.reverse >>= fun _ => Builtin.List.listExtendWith (.ref L) (.ref z) .none) _ _ _
  refine wpAny_bind (wpAny_updateSeq hS rfl ?_)
  have hS₂ := Heap.get?_update_self (Obj.mapSeq (fun _ => (#[] : Array Value))) hS rfl
  have oth2 : ∀ b o, b ≠ L → h1.get? b = some o → (h1.update L (Obj.mapSeq (fun _ => (#[] : Array Value)))).get? b = some o := fun b o hb e => (Heap.get?_update_other _ _ (Ne.symm hb)).trans e
  refine wpAny_bind (wpAny_letGo ?_)
  generalize hp2 : h1.update L (Obj.mapSeq (fun _ => (#[] : Array Value))) = h2 at *
  have hsz2 : h2.objs.size = L + 1 := by rw [← hp2, Heap.size_update, hsz1]
  have old2 : ∀ b o, b ≠ L → s.heap.get? b = some o → h2.get? b = some o := fun b o hb e => oth2 b o hb (old1 b o e)
  have hz2 : IsZip h2 z TI TO .none := old2 _ _ (nS z hzl) hz
  have hTy : Shared.TypeIs { s with heap := h2 } (.ref z) "zip" := ⟨_, hz2, rfl⟩
  unfold Builtin.List.listExtendWith
  refine wpAny_bind (wpAny_typeOf (T := "zip") hTy ?_)
  have hne : Builtin.List.listSameRef (.ref L) (.ref z) = false := by simp [Builtin.List.listSameRef, Ne.symm (nS z hzl)]
  have n1' : (Value.type "zip" == Value.type "list") = false := by decide
  have n2' : (Value.type "zip" == Value.type "tuple") = false := by decide
  simp only [hne, n1', n2', Bool.or_false, Bool.false_eq_true, if_false]
  refine wpAny_bind (wpAny_pyIter_zip hz2 ?_)
  refine wpAny_bind (wpAny_holding (hint_zip hTy ?_))
  refine wpAny_ite_split (fun _ => ?_) (fun hab => absurd (by simp) hab)
  refine wpAny_bind (wpAny_rule ?_)
  refine wpAny_bind ?_
  show wpAny _ _ (updateSeq L (·.push .none) >>= fun _ => updateSeq L (·.pop)) _ _ _
  refine wpAny_bind (wpAny_updateSeq hS₂ rfl ?_)
  have hS₃ := Heap.get?_update_self (Obj.mapSeq (·.push Value.none)) hS₂ rfl
  refine wpAny_updateSeq (hz := by seq_fits) hS₃ rfl ?_
  have hS₄ := Heap.get?_update_self (Obj.mapSeq (·.pop)) hS₃ rfl
  have old4 : ∀ b o, b ≠ L → s.heap.get? b = some o → ((h2.update L (Obj.mapSeq (·.push Value.none))).update L (Obj.mapSeq (·.pop))).get? b = some o := fun b o hb e =>
    (Heap.get?_update_other _ _ (Ne.symm hb)).trans ((Heap.get?_update_other _ _ (Ne.symm hb)).trans (old2 b o hb e))
  generalize hp4 : (h2.update L (Obj.mapSeq (·.push Value.none))).update L (Obj.mapSeq (·.pop)) = h4 at *
  have hsz4 : h4.objs.size = L + 1 := by rw [← hp4, Heap.size_update, Heap.size_update, hsz2]
  have E1 := D1 A.in1.in1.in1 hh
  have E2 := D2 A.in1.in1.in1 hh
  refine wpAny_pure ⟨plainId_quiet PySem.F.plain_extend_loop _, extend_zip (A := A.in1) (N := L + 1) S E1 E2 L (Ne.symm (nS z hzl)) (Ne.symm (nS TO hTOl)) (Ne.symm (nS TI hTIl)) (fun q => Nat.lt_irrefl _ (hf1 L q)) (fun q => Nat.lt_irrefl _ (hf2 L q)) .none hn (min n1 n2) 0 { s with heap := h4 } #[] _ rfl (Nat.zero_le _) ?_ hS₄ fun h' tk acc' c' hk hL' hsz' hacc => ?_⟩
  · refine ⟨old4 _ _ (nS TI hTIl) hTI, E1.frame _ _ _ st1 fun b hb o e => old4 b o (nS b (hf1 b hb)) e, E2.frame _ _ _ st2 fun b hb o e => old4 b o (nS b (hf2 b hb)) e, ⟨rfl, hsz4⟩, fun j v e => by simp at e, .inl ⟨rfl, old4 _ _ (nS z hzl) hz, b1, b2, old4 _ _ (nS TO hTOl) hTO⟩⟩
  · refine ⟨rfl, hQ h' tk acc' c' (fun b o q1 q2 q3 q4 e => ?_) hL' hsz' fun j v e => ?_⟩
    · have hb : b ≠ L := by rw [← hL]; exact Nat.ne_of_lt (Heap.lt_size e)
      exact hk b o hb q1 q2 q3 q4 (old4 b o hb e)
    · obtain ⟨t, x, y, q1, q2, q3, q4, q5⟩ := hacc j v e
      exact ⟨t, x, y, q1, q3, q4, q5, q2⟩
end
end PB

namespace PB
open PySem PySem.Spec PyProof.Rows L2
section
variable {X : Cx} {pins : List (Addr × Obj)} {σ : L2.St} {H H' : Hp} {s : Shared} {h' : Heap}
theorem inv_many {t' : Nat} (I : L2.Inv X pins σ H s) (k : ∀ b u, s.heap.get? b = some u → h'.get? b = some u) (sm : L2.Same H H') (nw : ∀ a o, H' a = some o → H a = some o ∨ s.heap.objs.size ≤ a)
    (ob : ∀ a o, H' a = some o → s.heap.objs.size ≤ a → ObjOk X.prog X.w H' h' a o) : L2.Inv X pins σ H' { s with heap := h', toks := t' } := by
  have fr : ∀ b o, s.heap.get? b = some o → H b = none → H' b = none := fun b o e n => by
    cases q : H' b with
    | none => rfl
    | some u =>
      rcases nw b u q with z | z
      · rw [n] at z; cases z
      · exact absurd (Nat.lt_of_lt_of_le (Heap.lt_size e) z) (Nat.lt_irrefl _)
  refine I.un ⟨fun b u q _ _ _ => k b u q, fun b u q _ _ _ => ⟨u.slots, k b u q⟩, fun b u q n _ => fr b u q n, fun b u q _ => ⟨u, k b u q⟩, fun b xs q => sm _ _ q, fun b u xs q => sm _ _ q, fun b ps q => ⟨#[], by rw [sm _ _ q]; simp⟩⟩ (fun a o e => ?_)
  rcases nw a o e with z | z
  · exact (I.hok a o z).stay (fun b u _ q => k b u q) (fun b q => sm _ _ q) fun b xs q => sm _ _ q
  · exact ob a o e z
end
/-- the items of a list or a tuple -/
def dSeq : D → Option (List D)
  | .lst xs => some xs
  | .tup xs => some xs
  | _ => none
def zipT (xs ys : List D) : List D := List.zipWith (fun x y => .tup [x, y]) xs ys
def dZip (x y : D) : Option D := (dSeq x).bind fun xs => (dSeq y).bind fun ys => some (.lst (zipT xs ys))
/-- what a sequence at a is, for an iterator -/
inductive Sq (K : PySem.W.Frag) (H : Hp) (a : Addr) (xs : List V) : Prop
  | l (h : SqL K H a xs)
  | t (h : SqT K H a xs)
theorem seq_rp {K : PySem.W.Frag} {H : Hp} {v : V} {d : D} {ds : List D} (h : Rp K H v d) (e : dSeq d = some ds) : ∃ a xs, v = .ref a ∧ Sq K H a xs ∧ RpAll K H xs ds := by
  cases d <;> simp only [dSeq] at e <;> try contradiction
  · cases e
    obtain ⟨a, xs, rfl, h1, a1⟩ := rp_lst h
    exact ⟨a, xs, rfl, .l (SqL.of h1), a1⟩
  · cases e
    obtain ⟨a, xs, rfl, h1, a1⟩ := rp_tup h
    exact ⟨a, xs, rfl, .t (SqT.of h1), a1⟩
/-- how a sequence begins and is drawn -/
theorem sq_draws {X : Cx} {pins : List (Addr × Obj)} {σ : L2.St} {H : Hp} {s : Shared} {a : Addr} {xs : List V} (I : L2.Inv X pins σ H s) (h : Sq X.K H a xs) :
    ∃ (o : Obj) (HH : Heap → Prop) (its : List Value), Vals xs its ∧ xs.length ≤ sizeLine ∧ a < s.heap.objs.size ∧ Begins (.ref a) o HH ∧ HH s.heap ∧
      ∀ (it : Addr), a ≠ it → ∃ St : Nat → Heap → Prop, (∀ A : Around, A.handled = none → Draws X.prog X.w A it [it, a] its.length (fun i v => its[i]? = some v) St) ∧ (∀ h : Heap, h.get? it = some o → (∀ b u, s.heap.get? b = some u → h.get? b = some u) → St 0 h) := by
  cases h with
  | l h =>
    obtain ⟨its, rv, p, hz⟩ := I.list h
    refine ⟨_, _, its, rv, hz, p.lt, begins_list a its.toArray, p.isList, fun it hne => ⟨fun i h => h.IsListIter it a i ∧ h.IsList a its.toArray, fun A hh => ?_, fun h e k => ⟨⟨_, e, rfl, rfl⟩, ?_⟩⟩⟩
    · have q := Draws.list (prog := X.prog) (w := X.w) (A := A) hh it a hne its.toArray
      simpa using q
    · exact p.isList.at fun o q => k a o q
  | t h =>
    obtain ⟨its, rv, p, hz⟩ := I.tuple h
    refine ⟨_, _, its, rv, hz, p.lt, begins_tuple a its.toArray, p, fun it hne => ⟨fun i h => h.IsTupleIter it a i ∧ h.IsTuple a its.toArray, fun A hh => ?_, fun h e k => ⟨⟨_, e, rfl, rfl⟩, ?_⟩⟩⟩
    · have q := Draws.tuple (prog := X.prog) (w := X.w) (A := A) hh it a hne its.toArray
      simpa using q
    · have p' : s.heap.IsTuple a its.toArray := p
      exact p'.at fun o q => k a o q
/-- list(zip(a, b)) -/
def tLZ (K : PySem.W.Frag) (ta tb : TE) : TE := fun σ H Q => ta σ H fun x H1 => tb σ H1 fun y H2 => ∃ a b xs ys, x = .ref a ∧ y = .ref b ∧ Sq K H2 a xs ∧ Sq K H2 b ys ∧
  ∀ L H', Same H2 H' → H' L = some (.lst ((List.range (min xs.length ys.length)).map fun j => .ref (L + 1 + j))) → (∀ (j : Nat) (x y : V), xs[j]? = some x → ys[j]? = some y → H' (L + 1 + j) = some (.tup [x, y])) → Q (.ref L) H'
theorem pe_listZip {X : Cx} {a b : Expr} {ta tb : TE} {p p2 pos pos2 : Pos} (hc : X.calm = true) (hg : Gl X "list") (hm : X.mg "list" = none) (hg2 : Gl X "zip") (hm2 : X.mg "zip" = none) (ha : PE X a ta) (hb : PE X b tb)
    (na : starEach [.Call (.Name "zip" p2) [a, b] [] pos2] X.env = (false, eval (.Call (.Name "zip" p2) [a, b] [] pos2) X.env) :: starEach [] X.env := by rfl)
    (na2 : starEach [a, b] X.env = (false, eval a X.env) :: starEach [b] X.env := by rfl) (nb2 : starEach [b] X.env = (false, eval b X.env) :: starEach [] X.env := by rfl) (hp2 : (backTo pos2 (starEach [b] X.env)).any (·.1) = false := by rfl) :
    PE X (.Call (.Name "list" p) [.Call (.Name "zip" p2) [a, b] [] pos2] [] pos) (tLZ X.K ta tb) := by
  refine ⟨fun pins s σ H Q I h => ?_⟩
  refine Call_ (ld_blt I hg hm boot_list (PyProof.Rows.callWith_type1 (args_cons ?_ na) na))
  refine Call_ (ld_blt I hg2 hm2 PyProof.Rows.boot_zip (PyProof.Rows.callWith_type1 (args_cons (thn (ha.run pins s σ H _ I h) fun v s1 ⟨x, H1, I1, r1, q1⟩ => one_arg hb I1 q1 (fun u s2 y H2 I2 r2 q => ?_) nb2) na2) na2 hp2))
  obtain ⟨a', b', xs, ys, rfl, rfl, sx, sy, q⟩ := q
  cases r1
  cases r2
  obtain ⟨o1, HH1, its1, rv1, hz1, la, B1, hh1, G1⟩ := sq_draws I2 sx
  obtain ⟨o2, HH2, its2, rv2, hz2, lb, B2, hh2, G2⟩ := sq_draws I2 sy
  generalize hN : s2.heap.objs.size = N at *
  obtain ⟨St1, D1, st1⟩ := G1 N (Nat.ne_of_lt la)
  obtain ⟨St2, D2, st2⟩ := G2 (N + 1) (Nat.ne_of_lt (Nat.lt_succ_of_lt lb))
  refine zip_begins2 B1 B2 hh1 hh2 fun h' hz hTI hTO ho1 ho2 hsz hk => ?_
  rw [hN] at hz hTI hTO ho1 ho2 hsz ⊢
  refine args_nil ?_
  have e1 := rv1.length
  have e2 := rv2.length
  refine list_of_zip (s := { s2 with heap := h' }) (zip_sep2 (N := N) (fp1 := [a']) (fp2 := [b']) (by simpa using la) (by simpa using lb)) D1 D2 (I2.ok.hd hc) (by omega) hz hTI hTO (st1 h' ho1 hk) (st2 h' ho2 hk) ?_ ?_ fun h'' tk acc cc hk2 hL hacc hit => ?_
  · intro c hcm
    show c < h'.objs.size
    rw [hsz]
    simp only [List.mem_cons, List.not_mem_nil, or_false] at hcm
    rcases hcm with rfl | rfl
    · exact Nat.lt_add_of_pos_right (by decide)
    · exact Nat.lt_of_lt_of_le la (Nat.le_add_right _ _)
  · intro c hcm
    show c < h'.objs.size
    rw [hsz]
    simp only [List.mem_cons, List.not_mem_nil, or_false] at hcm
    rcases hcm with rfl | rfl
    · exact Nat.lt_of_succ_le (by show N + 1 + 1 ≤ N + 5; omega)
    · exact Nat.lt_of_lt_of_le lb (Nat.le_add_right _ _)
  · have hL' : h''.get? (N + 5) = some { cls := .type "list", dict := none, data := .seq acc cc, slots := #[] } := by
      have := hL
      rw [show ({ s2 with heap := h' } : Shared).heap.objs.size = N + 5 from hsz] at this
      exact this
    have hit' : ∀ (j : Nat) (v : Value), acc[j]? = some v → ∃ x y, v = .ref (N + 5 + 1 + j) ∧ its1[j]? = some x ∧ its2[j]? = some y ∧ IsTupOf2 h'' (N + 5 + 1 + j) x y := fun j v e => by
      obtain ⟨t, x, y, z1, z2, z3, z4, z5⟩ := hit j v e
      rw [show ({ s2 with heap := h' } : Shared).heap.objs.size = N + 5 from hsz] at z5
      subst z5
      exact ⟨x, y, z1, z2, z3, z4⟩
    have keep : ∀ b o, s2.heap.get? b = some o → h''.get? b = some o := fun b o e => by
      have hb := Heap.lt_size e
      rw [hN] at hb
      exact hk2 b o (Nat.ne_of_lt (Nat.lt_of_lt_of_le hb (Nat.le_add_right _ _))) (Nat.ne_of_lt (Nat.lt_of_lt_of_le hb (Nat.le_add_right _ _))) (Nat.ne_of_lt hb) (Nat.ne_of_lt (Nat.lt_succ_of_lt hb)) (hk b o e)
    generalize hLp : N + 5 = Lp at *
    have hNL : N ≤ Lp := by omega
    let n := min xs.length ys.length
    let H' : Hp := fun (c : Nat) => if c = Lp then some (.lst ((List.range n).map fun j => .ref (Lp + 1 + j))) else if Lp < c ∧ c < Lp + 1 + n then some (.tup [xs.getD (c - Lp - 1) .non, ys.getD (c - Lp - 1) .non]) else H2 c
    have fresh : ∀ c, N ≤ c → H2 c = none := fun c hc => I2.hok.fresh (by rw [hN]; exact hc)
    have sm : L2.Same H2 H' := fun (c : Nat) o e => by
      have hc : c < N := by
        rcases Nat.lt_or_ge c N with q | q
        · exact q
        · rw [fresh c q] at e; cases e
      show (if c = Lp then _ else if Lp < c ∧ c < Lp + 1 + n then _ else H2 c) = some o
      rw [if_neg (Nat.ne_of_lt (Nat.lt_of_lt_of_le hc hNL)), if_neg (fun q => absurd (Nat.lt_of_lt_of_le hc hNL) (Nat.not_lt.mpr (Nat.le_of_lt q.1)))]
      exact e
    have hT : ∀ (j : Nat) (x y : V), xs[j]? = some x → ys[j]? = some y → H' (Lp + 1 + j) = some (.tup [x, y]) := fun j x y ex ey => by
      have jx := (List.getElem?_eq_some_iff.mp ex).1
      have jy := (List.getElem?_eq_some_iff.mp ey).1
      have e0 : Lp + 1 + j - Lp - 1 = j := by omega
      show (if Lp + 1 + j = Lp then _ else if Lp < Lp + 1 + j ∧ Lp + 1 + j < Lp + 1 + n then some (HO.tup [xs.getD (Lp + 1 + j - Lp - 1) .non, ys.getD (Lp + 1 + j - Lp - 1) .non]) else H2 (Lp + 1 + j)) = _
      rw [if_neg (by omega), if_pos (by refine ⟨by omega, ?_⟩; show Lp + 1 + j < Lp + 1 + min xs.length ys.length; omega), e0, List.getD_eq_getElem?_getD, List.getD_eq_getElem?_getD, ex, ey]
      rfl
    have hLH : H' Lp = some (.lst ((List.range n).map fun j => .ref (Lp + 1 + j))) := by
      show (if Lp = Lp then _ else _) = _
      rw [if_pos rfl]
    have nsz : n ≤ sizeLine := Nat.le_trans (Nat.min_le_left _ _) hz1
    have accs : acc.size = n := by rw [hacc]; show min its1.length its2.length = min xs.length ys.length; omega
    refine ⟨.ref Lp, H', (inv_many (s := s2) (h' := h'') (t' := tk) I2 keep sm (fun (c : Nat) o e => ?_) (fun (c : Nat) o e hcN => ?_) : L2.Inv X pins σ H' { s2 with heap := h'', toks := tk }), ?_, q Lp H' (.of sm) hLH hT⟩
    · by_cases hc : N ≤ c
      · exact .inr (by rw [hN]; exact hc)
      · refine .inl ?_
        have e' : (if c = Lp then _ else if Lp < c ∧ c < Lp + 1 + n then _ else H2 c) = some o := e
        rw [if_neg (by omega), if_neg (by omega)] at e'
        exact e'
    · rw [hN] at hcN
      have e' : (if c = Lp then some (HO.lst ((List.range n).map fun j => .ref (Lp + 1 + j))) else if Lp < c ∧ c < Lp + 1 + n then some (HO.tup [xs.getD (c - Lp - 1) .non, ys.getD (c - Lp - 1) .non]) else H2 c) = some o := e
      by_cases h1 : c = Lp
      · rw [if_pos h1] at e'
        cases e'
        subst h1
        refine ⟨by simpa using nsz, acc.toList, cc, vals_of_at (by simp [accs]) fun j x u ex eu => ?_, by simpa using hL'⟩
        have eu' : acc[j]? = some u := by rw [← Array.getElem?_toList]; exact eu
        obtain ⟨x', y', rfl, _, _, _⟩ := hit' j u eu'
        rw [List.getElem?_map] at ex
        cases hr : (List.range n)[j]? with
        | none => rw [hr] at ex; cases ex
        | some j' =>
          rw [hr] at ex
          obtain ⟨hj1, hj2⟩ := List.getElem?_eq_some_iff.mp hr
          rw [List.getElem_range] at hj2
          subst hj2
          cases ex
          rfl
      · rw [if_neg h1] at e'
        by_cases h2 : Lp < c ∧ c < Lp + 1 + n
        · rw [if_pos h2] at e'
          cases e'
          obtain ⟨j, rfl⟩ : ∃ j, c = Lp + 1 + j := ⟨c - Lp - 1, by omega⟩
          have hj : j < n := by omega
          have hja : j < acc.size := by omega
          obtain ⟨x', y', _, ex, ey, ht⟩ := hit' j acc[j] (Array.getElem?_eq_getElem hja)
          have e0 : Lp + 1 + j - Lp - 1 = j := by omega
          have hjx : j < xs.length := Nat.lt_of_lt_of_le hj (Nat.min_le_left _ _)
          have hjy : j < ys.length := Nat.lt_of_lt_of_le hj (Nat.min_le_right _ _)
          refine ⟨by show 2 ≤ sizeLine; decide, [x', y'], ?_, ⟨_, ht, rfl, _, rfl⟩⟩
          rw [e0, List.getD_eq_getElem?_getD, List.getD_eq_getElem?_getD, List.getElem?_eq_getElem hjx, List.getElem?_eq_getElem hjy]
          obtain ⟨u1, g1, w1⟩ := rv1.get (List.getElem?_eq_getElem hjx)
          obtain ⟨u2, g2, w2⟩ := rv2.get (List.getElem?_eq_getElem hjy)
          rw [ex] at g1; cases g1
          rw [ey] at g2; cases g2
          exact .cons w1 (.cons w2 .nil)
        · rw [if_neg h2] at e'
          rw [fresh c hcN] at e'; cases e'
    · show Value.ref _ = Value.ref Lp
      rw [show ({ s2 with heap := h' } : Shared).heap.objs.size = Lp from hsz]
theorem RpAll.of_get {K : PySem.W.Frag} {H : Hp} : ∀ {vs : List V} {ds : List D}, vs.length = ds.length → (∀ (j : Nat) (v : V) (d : D), vs[j]? = some v → ds[j]? = some d → Rp K H v d) → RpAll K H vs ds
  | [], [], _, _ => .nil
  | [], _ :: _, h, _ => by simp at h
  | _ :: _, [], h, _ => by simp at h
  | v :: vs, d :: ds, h, f => .cons (f 0 v d rfl rfl) (RpAll.of_get (by simpa using h) fun j v d h1 h2 => f (j + 1) v d (by simpa using h1) (by simpa using h2))
section
variable {X : Cx} {W : Wsh} {a b : Expr} {F G : Sl → Rs D} {p p2 pos pos2 : Pos}
theorem e_listZip (hm : X.mg "list" = none) (hm2 : X.mg "zip" = none) (ha : PE X a (tE X.K W F)) (hb : PE X b (tE X.K W G)) (hc : X.calm = true := by rfl) (hg : Gl X "list" := by rfl) (hg2 : Gl X "zip" := by rfl)
    (na : starEach [.Call (.Name "zip" p2) [a, b] [] pos2] X.env = (false, eval (.Call (.Name "zip" p2) [a, b] [] pos2) X.env) :: starEach [] X.env := by rfl)
    (na2 : starEach [a, b] X.env = (false, eval a X.env) :: starEach [b] X.env := by rfl) (nb2 : starEach [b] X.env = (false, eval b X.env) :: starEach [] X.env := by rfl) (hp2 : (backTo pos2 (starEach [b] X.env)).any (·.1) = false := by rfl) :
    PE X (.Call (.Name "list" p) [.Call (.Name "zip" p2) [a, b] [] pos2] [] pos) (tE X.K W (eBin dZip F G)) := by
  refine pe_imp (pe_listZip hc hg hm hg2 hm2 ha hb na na2 nb2 hp2) fun σ H Q h => ?_
  obtain ⟨ρ, rr, h⟩ := h
  refine ⟨ρ, rr, cs_mono (cs_bind h) (fun dx h1 v1 H1 s1 r1 => ?_) fun c q => q⟩
  refine ⟨ρ, rr.mono s1, cs_mono (cs_bind h1) (fun dy h2 v2 H2 s2 r2 => ?_) fun c q H' s => q H' (s1.trans s)⟩
  obtain ⟨d, e, h3⟩ := cs_of h2
  unfold dZip at e
  cases ex : dSeq dx with
  | none => rw [ex] at e; cases e
  | some xs =>
    cases ey : dSeq dy with
    | none => rw [ex, ey] at e; cases e
    | some ys =>
      rw [ex, ey] at e
      cases e
      obtain ⟨p1, vs, rfl, q1, a1⟩ := seq_rp (r1.mono s2) ex
      obtain ⟨p2, us, rfl, q2, a2⟩ := seq_rp r2 ey
      refine ⟨p1, p2, vs, us, rfl, rfl, q1, q2, fun L H' sm hL hT => h3 _ _ ((s1.trans s2).trans sm) (.lst hL ?_)⟩
      have l1 := a1.length
      have l2 := a2.length
      refine RpAll.of_get (by simp [zipT, l1, l2]) fun j v d ev ed => ?_
      rw [List.getElem?_map] at ev
      cases hr : (List.range (min vs.length us.length))[j]? with
      | none => rw [hr] at ev; cases ev
      | some j' =>
        rw [hr] at ev
        obtain ⟨hj1, hj2⟩ := List.getElem?_eq_some_iff.mp hr
        rw [List.getElem_range] at hj2
        subst hj2
        cases ev
        rw [List.length_range] at hj1
        have jx : j < vs.length := by omega
        have jy : j < us.length := by omega
        unfold zipT at ed
        rw [List.getElem?_zipWith] at ed
        rw [List.getElem?_eq_getElem (show j < xs.length by omega), List.getElem?_eq_getElem (show j < ys.length by omega)] at ed
        cases ed
        obtain ⟨v1, g1, w1⟩ := a1.get (List.getElem?_eq_getElem (show j < xs.length by omega))
        obtain ⟨v2, g2, w2⟩ := a2.get (List.getElem?_eq_getElem (show j < ys.length by omega))
        exact .tup (hT j v1 v2 g1 g2) (.cons (w1.mono sm) (.cons (w2.mono sm) .nil))
end
end PB

namespace PB
open PySem PySem.Spec PyProof.Rows L2

/-! ### what is walked -/
def YD (K : PySem.W.Frag) (H1 H : Hp) (x : V) (H' : Hp) (d : D) : Prop :=
  (H' = H ∧ Rp K H1 x d) ∨ ∃ T x1 x2 d1 d2, x = .ref T ∧ H T = none ∧ H' = upd H T (.tup [x1, x2]) ∧ d = .tup [d1, d2] ∧ Rp K H1 x1 d1 ∧ Rp K H1 x2 d2
structure WkD (K : PySem.W.Frag) (J : It) (H1 : Hp) (ds : List D) : Prop where
  go : ∀ (i : Nat) H, Same H1 H → i < ds.length → J.go i H
  stop : ∀ H, Same H1 H → J.stop ds.length H
  yld : ∀ (i : Nat) H x H' d, Same H1 H → ds[i]? = some d → J.yld i H x H' → YD K H1 H x H' d
theorem WkD.mono {K : PySem.W.Frag} {J : It} {H1 H2 : Hp} {ds : List D} (w : WkD K J H1 ds) (s : Same H1 H2) : WkD K J H2 ds where
  go := fun i H h => w.go i H (s.trans h)
  stop := fun H h => w.stop H (s.trans h)
  yld := fun i H x H' d h e y => by
    rcases w.yld i H x H' d (s.trans h) e y with ⟨a, b⟩ | ⟨T, x1, x2, d1, d2, a, b, c, e, f, g⟩
    · exact .inl ⟨a, b.mono s⟩
    · exact .inr ⟨T, x1, x2, d1, d2, a, b, c, e, f.mono s, g.mono s⟩
/-- behind a yield: the heap has grown by a new tuple at most; over a hidden part -/
theorem YD.hid {K : PySem.W.Frag} {H1 H H' : Hp} {x : V} {d : D} {as : List Addr} (y : YD K H1 H x H' d) (s : Same H1 (hide as H)) (m : ∀ a ∈ as, H a ≠ none) :
    Same H H' ∧ Same (hide as H) (hide as H') ∧ Rp K (hide as H') x d ∧ ∀ a ∈ as, H' a = H a := by
  rcases y with ⟨rfl, r⟩ | ⟨T, x1, x2, d1, d2, rfl, hT, rfl, rfl, r1, r2⟩
  · exact ⟨Same.refl _, Same.refl _, r.mono s, fun _ _ => rfl⟩
  · have nT : ∀ a ∈ as, a ≠ T := fun a ha e => m a ha (by rw [e]; exact hT)
    have hTn : T ∉ as := fun h => nT T h rfl
    have s2 : Same (hide as H) (hide as (upd H T (.tup [x1, x2]))) := .of fun b o e => by
      by_cases hb : b ∈ as
      · rw [hide_in hb] at e; cases e
      · rw [hide_out hb] at e ⊢
        rw [upd_ne (ne_of_none e hT)]; exact e
    refine ⟨same_new hT, s2, .tup (by rw [hide_out hTn]; exact upd_same) (.cons (r1.mono (s.trans s2)) (.cons (r2.mono (s.trans s2)) .nil)), fun a ha => upd_ne (nT a ha)⟩
def tI (K : PySem.W.Frag) (W : Wsh) (F : Sl → Rs (List D)) : TI := fun σ H R => ∃ ρ, R0 K σ H ρ ∧ cs (F ρ) (fun ds => ∀ J H1, Same H H1 → WkD K J H1 ds → R J H1) (fun c => ∀ H', Same H H' → W c σ H')
theorem pi_or {X : Cx} {tg e : Expr} {t t' : TI} (h : PI X tg e t) (h' : PI X tg e t') : PI X tg e (fun σ H R => t σ H R ∨ t' σ H R) := ⟨fun pins s σ H R I hw => by
  rcases hw with hw | hw
  · exact h.run pins s σ H R I hw
  · exact h'.run pins s σ H R I hw⟩
def sSeq (F : Sl → Rs D) : Sl → Rs (List D) := fun ρ => (F ρ).bind fun d => Rs.of (dSeq d)
theorem wk_l {K : PySem.W.Frag} {H1 : Hp} {a : Addr} {xs : List V} {ds : List D} (h : H1 a = some (.lst xs)) (r : RpAll K H1 xs ds) : WkD K (Itl K a) H1 ds where
  go := fun i H s hi => by
    have hl := r.length
    exact ⟨xs, xs[i]'(by omega), SqL.of (s _ _ h), by simp⟩
  stop := fun H s => ⟨xs, SqL.of (s _ _ h), by rw [r.length]; exact Nat.le_refl _⟩
  yld := fun i H x H' d s e y => by
    obtain ⟨e1, y⟩ := y
    obtain ⟨v, e2, rv⟩ := r.get e
    have := y xs (SqL.of (s _ _ h))
    rw [e2] at this; cases this
    exact .inl ⟨e1, rv⟩
theorem wk_t {K : PySem.W.Frag} {H1 : Hp} {a : Addr} {xs : List V} {ds : List D} (h : H1 a = some (.tup xs)) (r : RpAll K H1 xs ds) : WkD K (Itt K a) H1 ds where
  go := fun i H s hi => by
    have hl := r.length
    exact ⟨xs, xs[i]'(by omega), SqT.of (s _ _ h), by simp⟩
  stop := fun H s => ⟨xs, SqT.of (s _ _ h), by rw [r.length]; exact Nat.le_refl _⟩
  yld := fun i H x H' d s e y => by
    obtain ⟨e1, y⟩ := y
    obtain ⟨v, e2, rv⟩ := r.get e
    have := y xs (SqT.of (s _ _ h))
    rw [e2] at this; cases this
    exact .inl ⟨e1, rv⟩
section
variable {X : Cx} {W : Wsh} {tg a b : Expr} {F G : Sl → Rs D} {p pos : Pos}
theorem i_seq (ha : PE X a (tE X.K W F)) : PI X tg a (tI X.K W (sSeq F)) := by
  refine pi_imp (pi_or (pi_list (tg := tg) ha) (pi_tup ha)) fun σ H R h => ?_
  obtain ⟨ρ, rr, h⟩ := h
  unfold sSeq at h
  cases hF : F ρ with
  | bad => rw [hF] at h; exact h.elim
  | ex c => rw [hF] at h; exact .inl ⟨ρ, rr, by rw [hF]; exact h⟩
  | ok d =>
    rw [hF] at h
    cases d with
    | lst ds =>
      refine .inl ⟨ρ, rr, ?_⟩
      rw [hF]
      intro v H1 s1 r1
      obtain ⟨p, xs, rfl, h1, a1⟩ := rp_lst r1
      exact ⟨p, rfl, ⟨xs, SqL.of h1⟩, h _ _ s1 (wk_l h1 a1)⟩
    | tup ds =>
      refine .inr ⟨ρ, rr, ?_⟩
      rw [hF]
      intro v H1 s1 r1
      obtain ⟨p, xs, rfl, h1, a1⟩ := rp_tup r1
      exact ⟨p, rfl, ⟨xs, SqT.of h1⟩, h _ _ s1 (wk_t h1 a1)⟩
    | _ => exact h.elim
def sRg1 (A : Sl → Rs (List D)) : Sl → Rs (List D) := fun ρ => (A ρ).bind fun ds => match ds with
  | [.int j] => if -1000000 ≤ j ∧ j ≤ 1000000 then .ok ((rgI 0 j).map .int) else .bad
  | _ => .bad
def sRg2 (A : Sl → Rs (List D)) : Sl → Rs (List D) := fun ρ => (A ρ).bind fun ds => match ds with
  | [.int i, .int j] => if -1000000 ≤ i ∧ i ≤ 1000000 ∧ -1000000 ≤ j ∧ j ≤ 1000000 then .ok ((rgI i j).map .int) else .bad
  | _ => .bad
theorem rgI_len (a b : Int) : (rgI a b).length = (b - a).toNat := by unfold rgI; simp
theorem rgI_get {a b : Int} {i : Nat} {d : D} (h : ((rgI a b).map D.int)[i]? = some d) : d = .int (a + i) := by
  unfold rgI at h
  rw [List.map_map, List.getElem?_map] at h
  cases hr : (List.range (b - a).toNat)[i]? with
  | none => rw [hr] at h; cases h
  | some j =>
    rw [hr] at h
    obtain ⟨hj1, hj2⟩ := List.getElem?_eq_some_iff.mp hr
    rw [List.getElem_range] at hj2
    subst hj2
    cases h; rfl
theorem wk_r {K : PySem.W.Frag} {H1 : Hp} {a b : Int} {n : Nat} (hn : n = (b - a).toNat) : WkD K (Itr a n) H1 ((rgI a b).map .int) where
  go := fun i H s hi => by rw [List.length_map, rgI_len] at hi; show i < n; omega
  stop := fun H s => by rw [List.length_map, rgI_len]; show n ≤ (b - a).toNat; omega
  yld := fun i H x H' d s e y => by
    obtain ⟨e1, e2⟩ := y
    have z := rgI_get e
    subst z
    subst e2
    exact .inl ⟨e1, .int _⟩
variable {A : Sl → Rs (List D)}
theorem i_range1 (hm : X.mg "range" = none) (ha : PA X [a] (tA X.K W A)) (hg : Gl X "range" := by rfl) (hs : starEach [a] X.env = [(false, eval a X.env)] := by rfl) : PI X tg (.Call (.Name "range" p) [a] [] pos) (tI X.K W (sRg1 A)) := by
  refine pi_imp (pi_range1 hg hm ha hs) fun σ H R h => ?_
  obtain ⟨ρ, rr, h⟩ := h
  refine ⟨ρ, rr, cs_mono (cs_bind h) (fun ds h1 vs H1 s1 r1 => ?_) fun c q => q⟩
  match ds, h1 with
  | [.int j], h1 =>
    by_cases hb : -1000000 ≤ j ∧ j ≤ 1000000
    · have h2 : cs (if -1000000 ≤ j ∧ j ≤ 1000000 then Rs.ok ((rgI 0 j).map D.int) else .bad) _ _ := h1
      rw [if_pos hb] at h2
      obtain ⟨v, rfl, r⟩ := rpall1 r1
      exact ⟨j, by rw [rp_int r], by omega, by omega, h2 _ H1 s1 (wk_r (by omega))⟩
    · have h2 : cs (if -1000000 ≤ j ∧ j ≤ 1000000 then Rs.ok ((rgI 0 j).map D.int) else .bad) _ _ := h1
      rw [if_neg hb] at h2; exact h2.elim
theorem i_range2 (hm : X.mg "range" = none) (ha : PA X [a, b] (tA X.K W A)) (hg : Gl X "range" := by rfl) (hs : starEach [a, b] X.env = [(false, eval a X.env), (false, eval b X.env)] := by rfl) (hs2 : starEach [b] X.env = [(false, eval b X.env)] := by rfl) :
    PI X tg (.Call (.Name "range" p) [a, b] [] pos) (tI X.K W (sRg2 A)) := by
  refine pi_imp (pi_range2 hg hm ha hs hs2) fun σ H R h => ?_
  obtain ⟨ρ, rr, h⟩ := h
  refine ⟨ρ, rr, cs_mono (cs_bind h) (fun ds h1 vs H1 s1 r1 => ?_) fun c q => q⟩
  match ds, h1 with
  | [.int i, .int j], h1 =>
    by_cases hb : -1000000 ≤ i ∧ i ≤ 1000000 ∧ -1000000 ≤ j ∧ j ≤ 1000000
    · have h2 : cs (if -1000000 ≤ i ∧ i ≤ 1000000 ∧ -1000000 ≤ j ∧ j ≤ 1000000 then Rs.ok ((rgI i j).map D.int) else .bad) _ _ := h1
      rw [if_pos hb] at h2
      obtain ⟨v, v', rfl, r, r'⟩ := rpall2 r1
      exact ⟨i, j, by rw [rp_int r, rp_int r'], by omega, h2 _ H1 s1 (wk_r rfl)⟩
    · have h2 : cs (if -1000000 ≤ i ∧ i ≤ 1000000 ∧ -1000000 ≤ j ∧ j ≤ 1000000 then Rs.ok ((rgI i j).map D.int) else .bad) _ _ := h1
      rw [if_neg hb] at h2; exact h2.elim
/-! enumerate, zip -/
def enumT : Nat → List D → List D
  | _, [] => []
  | k, x :: xs => .tup [.int k, x] :: enumT (k + 1) xs
theorem enumT_len : ∀ (k : Nat) (xs : List D), (enumT k xs).length = xs.length
  | _, [] => rfl
  | k, x :: xs => congrArg (· + 1) (enumT_len (k + 1) xs)
theorem enumT_get : ∀ (xs : List D) (k i : Nat), (enumT k xs)[i]? = (xs[i]?).map fun x => .tup [.int ((k + i : Nat) : Int), x]
  | [], k, i => by simp [enumT]
  | x :: xs, k, 0 => by simp [enumT]
  | x :: xs, k, i + 1 => by
    simp only [enumT, List.getElem?_cons_succ]
    rw [enumT_get xs (k + 1) i]
    congr 1
    funext y
    rw [show k + 1 + i = k + (i + 1) by omega]
def sEnum (A : Sl → Rs (List D)) : Sl → Rs (List D) := fun ρ => (A ρ).bind fun ds => match ds with
  | [d] => Rs.of ((dSeq d).map (enumT 0))
  | _ => .bad
theorem wk_e {K : PySem.W.Frag} {H1 : Hp} {a : Addr} {xs : List V} {ds : List D} (h : H1 a = some (.lst xs)) (r : RpAll K H1 xs ds) : WkD K (Ite K a) H1 (enumT 0 ds) where
  go := fun i H s hi => by
    have hl := r.length
    rw [enumT_len] at hi
    exact ⟨xs, xs[i]'(by omega), SqL.of (s _ _ h), by simp⟩
  stop := fun H s => ⟨xs, SqL.of (s _ _ h), by rw [enumT_len, r.length]; exact Nat.le_refl _⟩
  yld := fun i H x H' d s e y => by
    obtain ⟨T, v, e1, hT, e2, y⟩ := y
    rw [enumT_get] at e
    cases q : ds[i]? with
    | none => rw [q] at e; cases e
    | some d' =>
      rw [q] at e; cases e
      obtain ⟨v', e3, rv⟩ := r.get q
      have := y xs (SqL.of (s _ _ h))
      rw [e3] at this; cases this
      refine .inr ⟨T, _, _, _, _, e1, hT, e2, rfl, ?_, rv⟩
      rw [show 0 + i = i by omega]
      exact .int _
theorem wk_eT {K : PySem.W.Frag} {H1 : Hp} {a : Addr} {xs : List V} {ds : List D} (h : H1 a = some (.tup xs)) (r : RpAll K H1 xs ds) : WkD K (IteT K a) H1 (enumT 0 ds) where
  go := fun i H s hi => by
    have hl := r.length
    rw [enumT_len] at hi
    exact ⟨xs, xs[i]'(by omega), SqT.of (s _ _ h), by simp⟩
  stop := fun H s => ⟨xs, SqT.of (s _ _ h), by rw [enumT_len, r.length]⟩
  yld := fun i H x H' d s e y => by
    obtain ⟨T, v, e1, hT, e2, y⟩ := y
    rw [enumT_get] at e
    cases q : ds[i]? with
    | none => rw [q] at e; cases e
    | some d' =>
      rw [q] at e; cases e
      obtain ⟨v', e3, rv⟩ := r.get q
      have := y xs (SqT.of (s _ _ h))
      rw [e3] at this; cases this
      refine .inr ⟨T, _, _, _, _, e1, hT, e2, rfl, ?_, rv⟩
      rw [show 0 + i = i by omega]
      exact .int _
variable {elts : List Expr} {kk : Nat} {tpos : Pos}
theorem i_enum (hm : X.mg "enumerate" = none) (ha : PA X [a] (tA X.K W A)) (hg : Gl X "enumerate" := by rfl) (hs : starEach [a] X.env = [(false, eval a X.env)] := by rfl) : PI X (.Tuple elts kk tpos) (.Call (.Name "enumerate" p) [a] [] pos) (tI X.K W (sEnum A)) := by
  refine pi_imp (pi_or (pi_enum hg hm ha hs) (pi_enumT hg hm ha hs)) fun σ H R h => ?_
  obtain ⟨ρ, rr, h⟩ := h
  unfold sEnum at h
  cases hF : A ρ with
  | bad => rw [hF] at h; exact h.elim
  | ex c => rw [hF] at h; exact .inl ⟨ρ, rr, by rw [hF]; exact h⟩
  | ok ds =>
    rw [hF] at h
    rcases ds with _ | ⟨d, _ | ⟨d2, r⟩⟩
    · exact h.elim
    · cases d with
      | lst ds =>
        refine .inl ⟨ρ, rr, ?_⟩
        rw [hF]
        intro vs H1 s1 r1
        obtain ⟨v, rfl, r⟩ := rpall1 r1
        obtain ⟨p, xs, rfl, h1, a1⟩ := rp_lst r
        exact ⟨p, xs, rfl, SqL.of h1, h _ _ s1 (wk_e h1 a1)⟩
      | tup ds =>
        refine .inr ⟨ρ, rr, ?_⟩
        rw [hF]
        intro vs H1 s1 r1
        obtain ⟨v, rfl, r⟩ := rpall1 r1
        obtain ⟨p, xs, rfl, h1, a1⟩ := rp_tup r
        exact ⟨p, xs, rfl, SqT.of h1, h _ _ s1 (wk_eT h1 a1)⟩
      | _ => exact h.elim
    · exact h.elim
def sZip (A : Sl → Rs (List D)) : Sl → Rs (List D) := fun ρ => (A ρ).bind fun ds => match ds with
  | [.lst xs, .lst ys] => .ok (zipT xs ys)
  | [.tup xs, .tup ys] => .ok (zipT xs ys)
  | _ => .bad
theorem zipT_len (xs ys : List D) : (zipT xs ys).length = min xs.length ys.length := by simp [zipT]
theorem zipT_get {xs ys : List D} {i : Nat} {d : D} (h : (zipT xs ys)[i]? = some d) : ∃ x y, xs[i]? = some x ∧ ys[i]? = some y ∧ d = .tup [x, y] := by
  unfold zipT at h
  rw [List.getElem?_zipWith] at h
  cases q1 : xs[i]? with
  | none => rw [q1] at h; cases h
  | some x =>
    cases q2 : ys[i]? with
    | none => rw [q1, q2] at h; cases h
    | some y => rw [q1, q2] at h; cases h; exact ⟨x, y, rfl, rfl, rfl⟩
theorem wk_z {K : PySem.W.Frag} {H1 : Hp} {a b : Addr} {xs ys : List V} {ds es : List D} (h : H1 a = some (.lst xs)) (r : RpAll K H1 xs ds) (h' : H1 b = some (.lst ys)) (r' : RpAll K H1 ys es) : WkD K (Itz K a b) H1 (zipT ds es) where
  go := fun i H s hi => by
    have hl := r.length
    have hl' := r'.length
    rw [zipT_len] at hi
    exact ⟨xs, ys, xs[i]'(by omega), ys[i]'(by omega), SqL.of (s _ _ h), SqL.of (s _ _ h'), by simp, by simp⟩
  stop := fun H s => ⟨xs, ys, SqL.of (s _ _ h), SqL.of (s _ _ h'), by
    have hl := r.length
    have hl' := r'.length
    rw [zipT_len]; omega⟩
  yld := fun i H x H' d s e y => by
    obtain ⟨T, v, u, e1, hT, e2, y1, y2⟩ := y
    obtain ⟨x', y', q1, q2, rfl⟩ := zipT_get e
    obtain ⟨v', e3, rv⟩ := r.get q1
    obtain ⟨u', e4, ru⟩ := r'.get q2
    have z1 := y1 xs (SqL.of (s _ _ h))
    have z2 := y2 ys (SqL.of (s _ _ h'))
    rw [e3] at z1; cases z1
    rw [e4] at z2; cases z2
    exact .inr ⟨T, _, _, _, _, e1, hT, e2, rfl, rv, ru⟩
theorem wk_zT {K : PySem.W.Frag} {H1 : Hp} {a b : Addr} {xs ys : List V} {ds es : List D} (h : H1 a = some (.tup xs)) (r : RpAll K H1 xs ds) (h' : H1 b = some (.tup ys)) (r' : RpAll K H1 ys es) : WkD K (RZ.ItzT K a b) H1 (zipT ds es) where
  go := fun i H s hi => by
    have hl := r.length
    have hl' := r'.length
    rw [zipT_len] at hi
    exact ⟨xs, ys, xs[i]'(by omega), ys[i]'(by omega), SqT.of (s _ _ h), SqT.of (s _ _ h'), by simp, by simp⟩
  stop := fun H s => ⟨xs, ys, SqT.of (s _ _ h), SqT.of (s _ _ h'), by
    have hl := r.length
    have hl' := r'.length
    rw [zipT_len]; omega⟩
  yld := fun i H x H' d s e y => by
    obtain ⟨T, v, u, e1, hT, e2, y1, y2⟩ := y
    obtain ⟨x', y', q1, q2, rfl⟩ := zipT_get e
    obtain ⟨v', e3, rv⟩ := r.get q1
    obtain ⟨u', e4, ru⟩ := r'.get q2
    have z1 := y1 xs (SqT.of (s _ _ h))
    have z2 := y2 ys (SqT.of (s _ _ h'))
    rw [e3] at z1; cases z1
    rw [e4] at z2; cases z2
    exact .inr ⟨T, _, _, _, _, e1, hT, e2, rfl, rv, ru⟩
theorem i_zip (hm : X.mg "zip" = none) (ha : PA X [a, b] (tA X.K W A)) (hg : Gl X "zip" := by rfl) (hs : starEach [a, b] X.env = (false, eval a X.env) :: starEach [b] X.env := by rfl) (hpl : (backTo pos (starEach [b] X.env)).any (·.1) = false := by rfl) :
    PI X (.Tuple elts kk tpos) (.Call (.Name "zip" p) [a, b] [] pos) (tI X.K W (sZip A)) := by
  refine pi_imp (RZ.pi_zipA hg hm ha hs hpl) fun σ H R h => ?_
  obtain ⟨ρ, rr, h⟩ := h
  refine ⟨ρ, rr, cs_mono (cs_bind h) (fun ds h1 vs H1 s1 r1 => ?_) fun c q => q⟩
  match ds, h1 with
  | [.lst ds, .lst es], h1 =>
    obtain ⟨v, v', rfl, r, r'⟩ := rpall2 r1
    obtain ⟨p, xs, rfl, g1, a1⟩ := rp_lst r
    obtain ⟨p', xs', rfl, g1', a1'⟩ := rp_lst r'
    exact ⟨p, p', xs, xs', rfl, .inl ⟨SqL.of g1, SqL.of g1', h1 _ _ s1 (wk_z g1 a1 g1' a1')⟩⟩
  | [.tup ds, .tup es], h1 =>
    obtain ⟨v, v', rfl, r, r'⟩ := rpall2 r1
    obtain ⟨p, xs, rfl, g1, a1⟩ := rp_tup r
    obtain ⟨p', xs', rfl, g1', a1'⟩ := rp_tup r'
    exact ⟨p, p', xs, xs', rfl, .inr ⟨SqT.of g1, SqT.of g1', h1 _ _ s1 (wk_zT g1 a1 g1' a1')⟩⟩
end

/-! ### targets -/
abbrev Asn := List (Nat × D)
def setV (σ : L2.St) : List Nat → List V → L2.St
  | i :: is, v :: vs => setV (σ.set i (some v)) is vs
  | _, _ => σ
def setD (ρ : Sl) : Asn → Sl
  | [] => ρ
  | (i, d) :: r => setD (ρ.set i (some d)) r
def TgP (K : PySem.W.Frag) (g : TG) (T : D → Option Asn) : Prop := ∀ v d G H σ as (Q : L2.St → Hp → Prop), Same G H → Rp K G v d → T d = some as → (∀ vs : List V, RpAll K G vs (as.map Prod.snd) → Q (setV σ (as.map Prod.fst) vs) H) → g v σ H Q
def TgsP (K : PySem.W.Frag) (g : TGs) (T : List D → Option Asn) : Prop := ∀ vs ds G H σ as (Q : L2.St → Hp → Prop), Same G H → RpAll K G vs ds → T ds = some as → (∀ vs : List V, RpAll K G vs (as.map Prod.snd) → Q (setV σ (as.map Prod.fst) vs) H) → g vs σ H Q
def tgName (i : Nat) : D → Option Asn := fun d => some [(i, d)]
def tgTup (T : List D → Option Asn) : D → Option Asn
  | .tup ds => T ds
  | _ => none
def tgNil : List D → Option Asn
  | [] => some []
  | _ => none
def tgCons (T : D → Option Asn) (U : List D → Option Asn) : List D → Option Asn
  | d :: ds => (T d).bind fun a => (U ds).map fun b => a ++ b
  | _ => none
theorem setV_append (σ : L2.St) : ∀ (is js : List Nat) (vs us : List V), is.length = vs.length → setV σ (is ++ js) (vs ++ us) = setV (setV σ is vs) js us
  | [], js, [], us, _ => by cases js <;> cases us <;> rfl
  | [], _, _ :: _, _, h => by simp at h
  | _ :: _, _, [], _, h => by simp at h
  | i :: is, js, v :: vs, us, h => by
    show setV (σ.set i (some v)) (is ++ js) (vs ++ us) = setV (setV (σ.set i (some v)) is vs) js us
    exact setV_append (σ.set i (some v)) is js vs us (by simpa using h)
section
variable {K : PySem.W.Frag}
theorem tp_name (i : Nat) : TgP K (gName i) (tgName i) := fun v d G H σ as Q s r e k => by
  cases e
  exact k [v] (.cons r .nil)
theorem tp_nil : TgsP K gNil tgNil := fun vs ds G H σ as Q s r e k => by
  cases r with
  | nil => cases e; exact ⟨rfl, k [] .nil⟩
  | cons _ _ => cases e
theorem tp_cons {g : TG} {gs : TGs} {T : D → Option Asn} {U : List D → Option Asn} (h : TgP K g T) (h' : TgsP K gs U) : TgsP K (gCons g gs) (tgCons T U) := fun vs ds G H σ as Q s r e k => by
  cases r with
  | nil => cases e
  | @cons v vs d ds r1 r2 =>
    simp only [tgCons] at e
    cases e1 : T d with
    | none => rw [e1] at e; cases e
    | some a1 =>
      cases e2 : U ds with
      | none => rw [e1, e2] at e; cases e
      | some a2 =>
        rw [e1, e2] at e
        cases e
        refine ⟨v, vs, rfl, h v d G H σ a1 _ s r1 e1 fun ws rw_ => h' vs ds G H _ a2 Q s r2 e2 fun us ru => ?_⟩
        have key := k (ws ++ us) (by rw [List.map_append]; exact rw_.append ru)
        rw [List.map_append, setV_append _ _ _ _ _ (by rw [List.length_map, rw_.length, List.length_map])] at key
        exact key
theorem tp_tup {gs : TGs} {n : Nat} {U : List D → Option Asn} (h : TgsP K gs U) (hn : ∀ ds as, U ds = some as → ds.length = n) : TgP K (gTup K n gs) (tgTup U) := fun v d G H σ as Q s r e k => by
  cases d <;> simp only [tgTup] at e <;> try contradiction
  obtain ⟨a, xs, rfl, h1, a1⟩ := rp_tup r
  exact ⟨a, xs, rfl, SqT.of (s _ _ h1), by rw [a1.length]; exact hn _ _ e, h xs _ G H σ as Q s a1 e k⟩
end
theorem tn_nil : ∀ ds as, tgNil ds = some as → ds.length = 0 := fun ds as e => by cases ds with | nil => rfl | cons _ _ => cases e
theorem tn_cons {T : D → Option Asn} {U : List D → Option Asn} {n : Nat} (h : ∀ ds as, U ds = some as → ds.length = n) : ∀ ds as, tgCons T U ds = some as → ds.length = n + 1 := fun ds as e => by
  cases ds with
  | nil => cases e
  | cons d ds =>
    simp only [tgCons] at e
    cases e1 : T d with
    | none => rw [e1] at e; cases e
    | some a1 =>
      cases e2 : U ds with
      | none => rw [e1, e2] at e; cases e
      | some a2 => rw [List.length_cons, h ds a2 e2]
/-- the slots that a target stores -/
def InS (vs : List Nat) (T : D → Option Asn) : Prop := ∀ d as, T d = some as → ∀ p ∈ as, p.1 ∈ vs
def InSs (vs : List Nat) (T : List D → Option Asn) : Prop := ∀ d as, T d = some as → ∀ p ∈ as, p.1 ∈ vs
theorem is_name {vs : List Nat} {i : Nat} (h : i ∈ vs) : InS vs (tgName i) := fun d as e p hp => by cases e; simp at hp; subst hp; exact h
theorem is_nil {vs : List Nat} : InSs vs tgNil := fun d as e p hp => by cases d with | nil => cases e; cases hp | cons _ _ => cases e
theorem is_cons {vs : List Nat} {T : D → Option Asn} {U : List D → Option Asn} (h : InS vs T) (h' : InSs vs U) : InSs vs (tgCons T U) := fun ds as e p hp => by
  cases ds with
  | nil => cases e
  | cons d ds =>
    simp only [tgCons] at e
    cases e1 : T d with
    | none => rw [e1] at e; cases e
    | some a1 =>
      cases e2 : U ds with
      | none => rw [e1, e2] at e; cases e
      | some a2 =>
        rw [e1, e2] at e; cases e
        rcases List.mem_append.mp hp with hp | hp
        · exact h d a1 e1 p hp
        · exact h' ds a2 e2 p hp
theorem is_tup {vs : List Nat} {U : List D → Option Asn} (h : InSs vs U) : InS vs (tgTup U) := fun d as e p hp => by
  cases d <;> simp only [tgTup] at e <;> try contradiction
  exact h _ as e p hp
theorem R0.set1 {K : PySem.W.Frag} {σ : L2.St} {H : Hp} {ρ : Sl} {i : Nat} {v : V} {d : D} (r : R0 K σ H ρ) (h : Rp K H v d) : R0 K (σ.set i (some v)) H (ρ.set i (some d)) := ⟨⟨by simpa using r.1.1, r.1.2⟩, fun j e q => by
  have hl := r.1.1
  by_cases hj : j = i
  · subst hj
    by_cases hlt : j < ρ.length
    · rw [List.getElem?_set_self hlt] at q
      cases q
      exact ⟨v, by rw [List.getElem?_set_self (by omega)], h⟩
    · rw [List.getElem?_eq_none (by simpa using hlt)] at q; cases q
  · rw [List.getElem?_set_ne (Ne.symm hj)] at q ⊢
    exact r.2 j e q⟩
theorem R0.sets {K : PySem.W.Frag} {H : Hp} : ∀ {as : Asn} {vs : List V} {σ : L2.St} {ρ : Sl}, R0 K σ H ρ → RpAll K H vs (as.map Prod.snd) → R0 K (setV σ (as.map Prod.fst) vs) H (setD ρ as)
  | [], _, _, _, r, h => by cases h; exact r
  | (i, d) :: as, vs, σ, ρ, r, h => by
    cases h with
    | @cons v vs _ _ h t => exact R0.sets (as := as) (σ := σ.set i (some v)) (ρ := ρ.set i (some d)) (r.set1 h) t
theorem wipe_set {σ : L2.St} {i : Nat} {x : Option V} : ∀ {vs : List Nat}, i ∈ vs → wipe (σ.set i x) vs = wipe σ vs
  | v :: vs, h => by
    show (wipe (σ.set i x) vs).set v none = (wipe σ vs).set v none
    by_cases hv : i ∈ vs
    · rw [wipe_set hv]
    · have hi : i = v := by simpa [hv] using h
      subst hi
      have key : ∀ (us : List Nat) (τ : L2.St), (wipe (τ.set i x) us).set i none = (wipe τ us).set i none := by
        intro us
        induction us with
        | nil => intro τ; show (τ.set i x).set i none = τ.set i none; rw [List.set_set]
        | cons u us ih =>
          intro τ
          show ((wipe (τ.set i x) us).set u none).set i none = ((wipe τ us).set u none).set i none
          by_cases hu : u = i
          · subst hu; rw [List.set_set, List.set_set]; exact ih τ
          · rw [List.set_comm _ _ hu, ih τ, List.set_comm _ _ hu]
      exact key vs σ
theorem wipe_sets : ∀ {as : List Nat} {us : List V} {σ : L2.St} {vs : List Nat}, (∀ i ∈ as, i ∈ vs) → wipe (setV σ as us) vs = wipe σ vs
  | [], _, _, _, _ => rfl
  | _ :: _, [], _, _, _ => rfl
  | i :: as, u :: us, σ, vs, h => by
    show wipe (setV (σ.set i (some u)) as us) vs = _
    rw [wipe_sets (fun j hj => h j (by simp [hj])), wipe_set (h i (by simp))]
theorem wipe_wipe {σ : L2.St} : ∀ {us vs : List Nat}, (∀ i ∈ us, i ∈ vs) → wipe (wipe σ us) vs = wipe σ vs
  | [], _, _ => rfl
  | u :: us, vs, h => by
    show wipe ((wipe σ us).set u none) vs = _
    rw [wipe_set (h u (by simp)), wipe_wipe fun i hi => h i (by simp [hi])]
def wipeD (ρ : Sl) : List Nat → Sl
  | [] => ρ
  | v :: vs => (wipeD ρ vs).set v none
theorem wipeD_len (ρ : Sl) : ∀ vs, (wipeD ρ vs).length = ρ.length
  | [] => rfl
  | v :: vs => by show ((wipeD ρ vs).set v none).length = _; rw [List.length_set, wipeD_len ρ vs]
theorem R0.wipe {K : PySem.W.Frag} {H : Hp} : ∀ {vs : List Nat} {σ : L2.St} {ρ : Sl}, R0 K σ H ρ → R0 K (L2.wipe σ vs) H (wipeD ρ vs)
  | [], _, _, r => r
  | v :: vs, σ, ρ, r => by
    have ih := R0.wipe (vs := vs) r
    refine ⟨⟨?_, ih.1.2⟩, fun j e q => ?_⟩
    · show ((wipeD ρ vs).set v none).length ≤ ((L2.wipe σ vs).set v none).length
      rw [List.length_set, List.length_set]; exact ih.1.1
    have q' : ((wipeD ρ vs).set v none)[j]? = some (some e) := q
    show ∃ x, ((L2.wipe σ vs).set v none)[j]? = some (some x) ∧ _
    by_cases hj : j = v
    · subst hj
      by_cases hlt : j < (wipeD ρ vs).length
      · rw [List.getElem?_set_self hlt] at q'; cases q'
      · rw [List.getElem?_eq_none (by simpa using hlt)] at q'; cases q'
    · rw [List.getElem?_set_ne (Ne.symm hj)] at q' ⊢
      exact ih.2 j e q'

/-! ### a list comprehension -/
def cYes : Sl → Rs Bool := fun _ => .ok true
def lcL (T : D → Option Asn) (C : Sl → Rs Bool) (E : Sl → Rs D) (ρ : Sl) : List D → Rs (List D)
  | [] => .ok []
  | d :: ds => (Rs.of (T d)).bind fun as => (C (setD ρ as)).bind fun b => match b with
    | true => (E (setD ρ as)).bind fun y => (lcL T C E ρ ds).bind fun r => .ok (y :: r)
    | false => lcL T C E ρ ds
def noEx {α : Type} : Rs α → Rs α
  | .ok a => .ok a
  | _ => .bad
def eLc (S : Sl → Rs (List D)) (vs : List Nat) (T : D → Option Asn) (C : Sl → Rs Bool) (E : Sl → Rs D) : Sl → Rs D := fun ρ => (S ρ).bind fun ds => if ds.length ≤ 1000000 then noEx ((lcL T C E (wipeD ρ vs) ds).bind fun r => .ok (.lst r)) else .bad
section
variable {X : Cx} {W : Wsh} {tg elt iter : Expr} {ifs : List Expr} {scope : Scope} {own : List (Str × Nat)} {pos : Pos} {S : Sl → Rs (List D)} {g : TG} {T : D → Option Asn} {C : Sl → Rs Bool} {E : Sl → Rs D}
theorem ts_nil : PTs X [] (tT X.K W cYes) := ⟨fun pins s σ H Q I h => pts_nil.run pins s σ H Q I (by
  obtain ⟨ρ, rr, h⟩ := h
  exact h H (Same.refl H))⟩
theorem ts_one {c : Expr} (h : PT X c (tT X.K W C)) : PTs X [c] (tT X.K W C) := pts_one h
theorem lc_read {K : PySem.W.Frag} {vs : List Nat} (ht : TgP K g T) (hi : InS vs T) {σ : L2.St} {H : Hp} {Q : VK} (h : tE K W (eLc S vs T C E) σ H Q) :
    tLc (tI K W S) g (tT K W0 C) (tFr (tE K W0 E)) vs σ H Q := by
  obtain ⟨ρ, rr, h⟩ := h
  refine ⟨ρ, rr, cs_mono (cs_bind h) (fun ds h1 J H1 s1 wk Dl hD => ?_) fun c q => q⟩
  by_cases hn : ds.length ≤ 1000000
  · rw [if_pos hn] at h1
    cases hr : lcL T C E (wipeD ρ vs) ds with
    | bad => rw [hr] at h1; exact h1.elim
    | ex c => rw [hr] at h1; exact h1.elim
    | ok res =>
      rw [hr] at h1
      have h1' : ∀ v H', Same H H' → Rp K H' v (.lst res) → Q v H' := h1
      have sH : ∀ {H3 H4 : Hp} {acc : List V}, H3 Dl = some (.lst acc) → Same H3 H4 → Same (hide [Dl] H3) (hide [Dl] H4) := fun {H3 H4 acc} ha s => same_hideM s fun a hm => ⟨.lst acc, by
        have : a = Dl := by simpa using hm
        rw [this]; exact ha, rfl⟩
      have hup : ∀ (H4 : Hp) (o : HO), hide [Dl] (upd H4 Dl o) = hide [Dl] H4 := fun H4 o => by
        funext b
        by_cases hb : b ∈ [Dl]
        · rw [hide_in hb, hide_in hb]
        · rw [hide_out hb, hide_out hb, upd_ne (by simpa using hb)]
      have hD1 : hide [Dl] H1 = H1 := by
        funext b
        by_cases hb : b ∈ [Dl]
        · rw [hide_in hb]
          have : b = Dl := by simpa using hb
          rw [this, hD]
        · rw [hide_out hb]
      let Nx : Nat → Hp → Prop := fun i H5 => ∃ acc es r, H5 Dl = some (.lst acc) ∧ Same H1 (hide [Dl] H5) ∧ RpAll K (hide [Dl] H5) acc es ∧ acc.length ≤ i ∧ lcL T C E (wipeD ρ vs) (ds.drop i) = .ok r ∧ es ++ r = res
      refine ⟨fun i m H5 => m = ds.length - i ∧ i ≤ ds.length ∧ Nx i H5, ⟨ds.length, by simp, Nat.zero_le _, [], [], res, upd_same, ?_, .nil, Nat.le_refl _, by simpa using hr, rfl⟩, ?_⟩
      · rw [hup, hD1]; exact Same.refl _
      · rintro i m H5 ⟨rfl, hile, acc, es, r, hacc, sm, ra, hal, hlc, hres⟩
        by_cases hlt : i < ds.length
        · refine .inr ⟨wk.go i H5 (sm.trans hide_same) hlt, Nx (i + 1), fun H' hN => ⟨ds.length - (i + 1), by omega, rfl, hlt, hN⟩, fun x H6 y => ?_⟩
          have hdi : ds[i]? = some ds[i] := List.getElem?_eq_getElem hlt
          have hdrop : ds.drop i = ds[i] :: ds.drop (i + 1) := by rw [List.drop_eq_getElem_cons hlt]
          rw [hdrop] at hlc
          simp only [lcL] at hlc
          cases hT : T ds[i] with
          | none => rw [hT] at hlc; cases hlc
          | some as =>
            rw [hT] at hlc
            have hlc' : ((C (setD (wipeD ρ vs) as)).bind fun b => match b with
              | true => (E (setD (wipeD ρ vs) as)).bind fun y => (lcL T C E (wipeD ρ vs) (ds.drop (i + 1))).bind fun r => .ok (y :: r)
              | false => lcL T C E (wipeD ρ vs) (ds.drop (i + 1))) = .ok r := hlc
            obtain ⟨s56, s56h, rx, hk⟩ := (wk.yld i H5 x H6 _ (sm.trans hide_same) hdi y).hid (as := [Dl]) sm (fun a ha => by
              have : a = Dl := by simpa using ha
              rw [this, hacc]; simp)
            have hacc6 : H6 Dl = some (.lst acc) := by rw [hk Dl (by simp), hacc]
            refine ht x ds[i] (hide [Dl] H6) H6 (L2.wipe σ vs) as _ hide_same rx hT fun us ru => ?_
            refine ⟨by rw [wipe_sets (fun j hj => by obtain ⟨p, hp, rfl⟩ := List.mem_map.mp hj; exact hi _ as hT p hp)]; exact wipe_wipe fun _ h => h, ?_⟩
            have R6 : R0 K (setV (L2.wipe σ vs) (as.map Prod.fst) us) (hide [Dl] H6) (setD (wipeD ρ vs) as) := R0.sets ((rr.wipe (vs := vs)).mono (s1.trans (sm.trans s56h))) ru
            cases hC : C (setD (wipeD ρ vs) as) with
            | bad => rw [hC] at hlc'; cases hlc'
            | ex c => rw [hC] at hlc'; cases hlc'
            | ok b =>
              rw [hC] at hlc'
              refine ⟨_, R6.mono hide_same, ?_⟩
              rw [hC]
              intro H7 s67
              have hacc7 : H7 Dl = some (.lst acc) := s67 _ _ hacc6
              cases b with
              | true =>
                have hlc2 : ((E (setD (wipeD ρ vs) as)).bind fun y => (lcL T C E (wipeD ρ vs) (ds.drop (i + 1))).bind fun r => .ok (y :: r)) = .ok r := hlc'
                refine iteT ?_
                cases hE : E (setD (wipeD ρ vs) as) with
                | bad => rw [hE] at hlc2; cases hlc2
                | ex c => rw [hE] at hlc2; cases hlc2
                | ok dy =>
                  rw [hE] at hlc2
                  cases hL2 : lcL T C E (wipeD ρ vs) (ds.drop (i + 1)) with
                  | bad => rw [hL2] at hlc2; cases hlc2
                  | ex c => rw [hL2] at hlc2; cases hlc2
                  | ok r2 =>
                    rw [hL2] at hlc2
                    have er : r = dy :: r2 := by cases hlc2; rfl
                    refine ⟨[Dl], fun a ha => .inl ⟨acc, by have : a = Dl := by simpa using ha
                                                            rw [this]; exact hacc7⟩, _, R6.mono (sH hacc6 s67), ?_⟩
                    rw [hE]
                    intro v H8 s8 r8 hn8
                    have hp : put [Dl] H7 H8 Dl = some (.lst acc) := by rw [put_in (by simp)]; exact hacc7
                    refine ⟨acc, hp, Nat.lt_of_lt_of_le (by omega : acc.length < 1000000 + 1) (by decide), acc ++ [v], es ++ [dy], r2, upd_same, ?_, ?_, by simp; omega, hL2, by rw [← hres, er]; simp⟩
                    · rw [hup, hide_put hn8]
                      exact sm.trans (s56h.trans ((sH hacc6 s67).trans s8))
                    · rw [hup, hide_put hn8]
                      exact (ra.mono (s56h.trans ((sH hacc6 s67).trans s8))).append (.cons r8 .nil)
              | false =>
                have hlc2 : lcL T C E (wipeD ρ vs) (ds.drop (i + 1)) = .ok r := hlc'
                refine iteF ?_
                exact ⟨acc, es, r, hacc7, sm.trans (s56h.trans (sH hacc6 s67)), ra.mono (s56h.trans (sH hacc6 s67)), by omega, hlc2, hres⟩
        · have e : i = ds.length := by omega
          subst e
          rw [List.drop_length] at hlc
          cases hlc
          rw [List.append_nil] at hres
          subst hres
          refine .inl ⟨wk.stop H5 (sm.trans hide_same), h1' _ _ (s1.trans (sm.trans hide_same)) (.lst hacc (ra.mono hide_same))⟩
  · rw [if_neg hn] at h1; exact h1.elim
theorem e_lc (hN : X.N.Nodup) (hi : PI X tg iter (tI X.K W S)) (ok : BlkOk X.N X.env.scope scope own) (ht : TgP X.K g T) (hin : InS (own.map (·.2)) T)
    (hg : ∀ (s : Shared) (H : Hp) (C : Addr) (cl : List (Str × Addr)) (fp : List Addr), PG (X.blk s H scope (compEnvC scope cl C X.env) fp) tg g) (hc : ∀ (s : Shared) (H : Hp) (C₁ : Addr) (cl : List (Str × Addr)) (fp : List Addr), PTs (X.blk s H scope (compEnvC scope cl C₁ X.env) fp) ifs (tT X.K W0 C))
    (he : ∀ (s : Shared) (H : Hp) (C : Addr) (cl : List (Str × Addr)) (fp : List Addr), PE (X.blk s H scope (compEnvC scope cl C X.env) fp) elt (tE X.K W0 E)) (hcm : X.calm = true := by rfl) (hs : ∀ x, foldedSetIterable iter X.env x = pure x := by intro _; rfl) :
    PE X (.ListComp elt [⟨tg, iter, ifs, 0⟩] scope pos) (tE X.K W (eLc S (own.map (·.2)) T C E)) :=
  pe_imp (pe_lc hcm hN hi ok hg hc (fun s H C cl fp => pe_fr (he s H C cl fp)) hs) fun _ _ _ h => lc_read ht hin h
end
end PB

namespace PB
open PySem PySem.Spec PyProof.Rows L2

/-! ### slots and heap between two statements; the lists and dicts that are being filled (own) stand apart -/
def adr1 (σ : L2.St) (i : Nat) : Addr := match σ[i]? with
  | some (some (.ref a)) => a
  | _ => 0
def adr (own : List Nat) (σ : L2.St) : List Addr := own.map (adr1 σ)
def OwnRp (K : PySem.W.Frag) (G : Hp) (o : Option HO) (d : D) : Prop := (∃ xs ds, o = some (.lst xs) ∧ d = .lst ds ∧ RpAll K G xs ds) ∨ ∃ kvs kds, o = some (.dK kvs) ∧ d = .dct kds ∧ RpKV K G kvs kds
theorem OwnRp.mono {K : PySem.W.Frag} {G G' : Hp} {o : Option HO} {d : D} (s : Same G G') (h : OwnRp K G o d) : OwnRp K G' o d := by
  rcases h with ⟨xs, ds, a, b, c⟩ | ⟨xs, ds, a, b, c⟩
  · exact .inl ⟨xs, ds, a, b, c.mono s⟩
  · exact .inr ⟨xs, ds, a, b, c.mono s⟩
structure R (K : PySem.W.Frag) (H0 : Hp) (own : List Nat) (σ : L2.St) (H : Hp) (ρ : Sl) : Prop where
  len : ρ.length ≤ σ.length
  own_ : ∀ i ∈ own, ∃ p d, σ[i]? = some (some (.ref p)) ∧ ρ[i]? = some (some d) ∧ OwnRp K (hide (adr own σ) H) (H p) d
  nd : (adr own σ).Nodup
  base : Same H0 (hide (adr own σ) H)
  slot : ∀ (i : Nat) (d : D), i ∉ own → ρ[i]? = some (some d) → ∃ v, σ[i]? = some (some v) ∧ Rp K (hide (adr own σ) H) v d
  tabs : AllTab K (hide (adr own σ) H)
section
variable {K : PySem.W.Frag} {H0 H H' H1 G : Hp} {own : List Nat} {σ : L2.St} {ρ : Sl} {i : Nat} {v : V} {d : D} {p : Addr}
theorem adr1_of (h : σ[i]? = some (some (.ref p))) : adr1 σ i = p := by unfold adr1; rw [h]
theorem R.at (r : R K H0 own σ H ρ) {a : Addr} (ha : a ∈ adr own σ) : ∃ i d, i ∈ own ∧ σ[i]? = some (some (.ref a)) ∧ ρ[i]? = some (some d) ∧ OwnRp K (hide (adr own σ) H) (H a) d := by
  obtain ⟨i, hi, e⟩ := List.mem_map.mp ha
  obtain ⟨p, d, e1, e2, h⟩ := r.own_ i hi
  rw [adr1_of e1] at e
  subst e
  exact ⟨i, d, hi, e1, e2, h⟩
theorem R.mu (r : R K H0 own σ H ρ) : Mu (adr own σ) H := fun a ha => by
  obtain ⟨i, d, _, _, _, h⟩ := r.at ha
  rcases h with ⟨xs, ds, e, _⟩ | ⟨xs, ds, e, _⟩
  · exact .inl ⟨xs, e⟩
  · exact .inr ⟨xs, e⟩
theorem R.ne (r : R K H0 own σ H ρ) : ∀ a ∈ adr own σ, H a ≠ none := fun a ha => by
  rcases r.mu a ha with ⟨xs, e⟩ | ⟨xs, e⟩ <;> rw [e] <;> simp
theorem OwnRp.rp (h : OwnRp K G (H p) d) (s : Same G H) : Rp K H (.ref p) d := by
  rcases h with ⟨xs, ds, e, rfl, c⟩ | ⟨xs, ds, e, rfl, c⟩
  · exact .lst e (c.mono s)
  · exact .dct (.inl e) (c.mono s)
theorem R.r0 (r : R K H0 own σ H ρ) : R0 K σ H ρ := ⟨⟨r.len, r.tabs.mono hide_same⟩, fun i d e => by
  by_cases hi : i ∈ own
  · obtain ⟨p, d', e1, e2, h⟩ := r.own_ i hi
    rw [e] at e2; cases e2
    exact ⟨_, e1, h.rp hide_same⟩
  · obtain ⟨v, e1, h⟩ := r.slot i d hi e
    exact ⟨v, e1, h.mono hide_same⟩⟩
theorem wipeD_get : ∀ {vs : List Nat} {ρ : Sl} {j : Nat} {d : D}, (wipeD ρ vs)[j]? = some (some d) → ρ[j]? = some (some d) ∧ j ∉ vs
  | [], _, _, _, h => ⟨h, by simp⟩
  | v :: vs, ρ, j, d, h => by
    have h' : ((wipeD ρ vs).set v none)[j]? = some (some d) := h
    by_cases hj : j = v
    · subst hj
      by_cases hlt : j < (wipeD ρ vs).length
      · rw [List.getElem?_set_self hlt] at h'; cases h'
      · rw [List.getElem?_eq_none (by simpa using hlt)] at h'; cases h'
    · rw [List.getElem?_set_ne (Ne.symm hj)] at h'
      obtain ⟨a, b⟩ := wipeD_get h'
      exact ⟨a, by simp [hj, b]⟩
theorem R.r0h (r : R K H0 own σ H ρ) : R0 K σ (hide (adr own σ) H) (wipeD ρ own) := ⟨⟨by rw [wipeD_len]; exact r.len, r.tabs⟩, fun i d e => by
  obtain ⟨e1, hi⟩ := wipeD_get e
  exact r.slot i d hi e1⟩
theorem R.grow (r : R K H0 own σ H ρ) (s : Same H H') : R K H0 own σ H' ρ := by
  have sh := same_hideM s r.mu.nx
  refine ⟨r.len, fun i hi => ?_, r.nd, r.base.trans sh, fun i d hi e => ?_, r.tabs.mono sh⟩
  · obtain ⟨p, d, e1, e2, h⟩ := r.own_ i hi
    refine ⟨p, d, e1, e2, ?_⟩
    have : H' p = H p := by
      rcases h with ⟨xs, ds, e, _⟩ | ⟨xs, ds, e, _⟩ <;> (rw [e]; exact s _ _ e)
    rw [this]
    exact h.mono sh
  · obtain ⟨v, e1, h⟩ := r.slot i d hi e
    exact ⟨v, e1, h.mono sh⟩
/-- the rest of the heap has grown, what is being filled stands as before -/
theorem R.growG (r : R K H0 own σ H ρ) (s : Same (hide (adr own σ) H) (hide (adr own σ) H')) (k : ∀ a ∈ adr own σ, H' a = H a) : R K H0 own σ H' ρ := by
  refine ⟨r.len, fun i hi => ?_, r.nd, r.base.trans s, fun i d hi e => ?_, r.tabs.mono s⟩
  · obtain ⟨p, d, e1, e2, h⟩ := r.own_ i hi
    refine ⟨p, d, e1, e2, ?_⟩
    rw [k p (by rw [← adr1_of e1]; exact List.mem_map_of_mem hi)]
    exact h.mono s
  · obtain ⟨v, e1, h⟩ := r.slot i d hi e
    exact ⟨v, e1, h.mono s⟩
theorem R.putG (r : R K H0 own σ H ρ) (s : Same (hide (adr own σ) H) H1) (n : ∀ a ∈ adr own σ, H1 a = none) : R K H0 own σ (put (adr own σ) H H1) ρ := by
  refine r.growG ?_ fun a ha => put_in ha
  rw [hide_put n]; exact s
theorem R.rebase (r : R K H0 own σ H ρ) : R K (hide (adr own σ) H) own σ H ρ := ⟨r.len, r.own_, r.nd, Same.refl _, r.slot, r.tabs⟩
theorem R.unbase (r : R K G own σ H ρ) (s : Same H0 G) : R K H0 own σ H ρ := ⟨r.len, r.own_, r.nd, s.trans r.base, r.slot, r.tabs⟩
theorem adr_set {x : Option V} (h : i ∉ own) : adr own (σ.set i x) = adr own σ := by
  unfold adr
  refine List.map_congr_left fun j hj => ?_
  unfold adr1
  rw [List.getElem?_set_ne (fun e : i = j => h (by rw [e]; exact hj))]
theorem R.set (r : R K H0 own σ H ρ) (hi : i ∉ own) (h : Rp K (hide (adr own σ) H) v d) : R K H0 own (σ.set i (some v)) H (ρ.set i (some d)) := by
  have ea := adr_set (σ := σ) (x := some v) hi
  refine ⟨by simpa using r.len, fun j hj => ?_, by rw [ea]; exact r.nd, by rw [ea]; exact r.base, fun j e hj q => ?_, by rw [ea]; exact r.tabs⟩
  · have hne : i ≠ j := fun e => hi (e ▸ hj)
    rw [ea, List.getElem?_set_ne hne, List.getElem?_set_ne hne]
    exact r.own_ j hj
  · rw [ea]
    by_cases hji : j = i
    · subst hji
      by_cases hlt : j < ρ.length
      · rw [List.getElem?_set_self hlt] at q
        cases q
        exact ⟨v, by rw [List.getElem?_set_self (Nat.lt_of_lt_of_le hlt r.len)], h⟩
      · rw [List.getElem?_eq_none (by simpa using hlt)] at q; cases q
    · rw [List.getElem?_set_ne (Ne.symm hji)] at q ⊢
      exact r.slot j e hj q
theorem R.sets : ∀ {as : Asn} {vs : List V} {σ : L2.St} {ρ : Sl}, R K H0 own σ H ρ → (∀ q ∈ as, q.1 ∉ own) → RpAll K (hide (adr own σ) H) vs (as.map Prod.snd) → R K H0 own (setV σ (as.map Prod.fst) vs) H (setD ρ as)
  | [], _, _, _, r, _, h => by cases h; exact r
  | (i, d) :: as, vs, σ, ρ, r, ho, h => by
    cases h with
    | @cons v vs _ _ h t =>
      have hi : i ∉ own := ho (i, d) (by simp)
      refine R.sets (as := as) (σ := σ.set i (some v)) (ρ := ρ.set i (some d)) (r.set hi h) (fun q hq => ho q (by simp [hq])) ?_
      rw [adr_set hi]
      exact t
/-- a new list or dict, to be filled -/
theorem R.acq {o : HO} (r : R K H0 own σ H ρ) (hi : i ∉ own) (hl : i < ρ.length) (hp : H p = none) (h : OwnRp K (hide (adr own σ) H) (some o) d) : R K H0 (i :: own) (σ.set i (some (.ref p))) (upd H p o) (ρ.set i (some d)) := by
  have hls : i < σ.length := Nat.lt_of_lt_of_le hl r.len
  have e1 : adr1 (σ.set i (some (.ref p))) i = p := adr1_of (by rw [List.getElem?_set_self hls])
  have ea : adr (i :: own) (σ.set i (some (.ref p))) = p :: adr own σ := by
    show adr1 (σ.set i (some (.ref p))) i :: adr own (σ.set i (some (.ref p))) = _
    rw [e1, adr_set hi]
  have np : p ∉ adr own σ := fun hm => r.ne p hm hp
  have eh : hide (p :: adr own σ) (upd H p o) = hide (adr own σ) H := by
    funext b
    by_cases hb : b ∈ adr own σ
    · rw [hide_in (by simp [hb]), hide_in hb]
    · by_cases hbp : b = p
      · subst hbp; rw [hide_in (by simp), hide_out hb, hp]
      · rw [hide_out (by simp [hb, hbp]), hide_out hb, upd_ne hbp]
  refine ⟨by simpa using r.len, fun j hj => ?_, by rw [ea]; exact List.nodup_cons.mpr ⟨np, r.nd⟩, by rw [ea, eh]; exact r.base, fun j e hj q => ?_, by rw [ea, eh]; exact r.tabs⟩
  · rw [ea, eh]
    rcases List.mem_cons.mp hj with rfl | hj
    · exact ⟨p, d, by rw [List.getElem?_set_self hls], by rw [List.getElem?_set_self hl], by rw [upd_same]; exact h⟩
    · obtain ⟨p', d', g1, g2, g3⟩ := r.own_ j hj
      have hne : i ≠ j := fun e => hi (e ▸ hj)
      have hpp : p' ≠ p := fun e => by
        apply np
        rw [← e, ← adr1_of g1]
        exact List.mem_map_of_mem hj
      exact ⟨p', d', by rw [List.getElem?_set_ne hne]; exact g1, by rw [List.getElem?_set_ne hne]; exact g2, by rw [upd_ne hpp]; exact g3⟩
  · rw [ea, eh]
    have hji : j ≠ i := fun e => hj (by simp [e])
    rw [List.getElem?_set_ne (Ne.symm hji)] at q ⊢
    exact r.slot j e (fun hm => hj (by simp [hm])) q
/-- it is filled: data from here on -/
theorem R.rel (r : R K H0 (i :: own) σ H ρ) (hi : i ∉ own) : R K H0 own σ H ρ := by
  have s : Same (hide (adr (i :: own) σ) H) (hide (adr own σ) H) := .of fun b o e => by
    by_cases hb : b ∈ adr own σ
    · rw [hide_in (show b ∈ adr (i :: own) σ from List.mem_cons_of_mem _ hb)] at e; cases e
    · by_cases hb2 : b ∈ adr (i :: own) σ
      · rw [hide_in hb2] at e; cases e
      · rw [hide_out hb2] at e; rw [hide_out hb]; exact e
  have nd : (adr1 σ i :: adr own σ).Nodup := r.nd
  refine ⟨r.len, fun j hj => ?_, (List.nodup_cons.mp nd).2, r.base.trans s, fun j e hj q => ?_, r.tabs.mono s⟩
  · obtain ⟨p, d, e1, e2, h⟩ := r.own_ j (List.mem_cons_of_mem _ hj)
    exact ⟨p, d, e1, e2, h.mono s⟩
  · by_cases hji : j = i
    · subst hji
      obtain ⟨p, d, e1, e2, h⟩ := r.own_ j (by simp)
      rw [q] at e2; cases e2
      refine ⟨_, e1, ?_⟩
      have np : p ∉ adr own σ := by rw [← adr1_of e1]; exact (List.nodup_cons.mp nd).1
      have hp' : hide (adr own σ) H p = H p := hide_out np
      rcases h with ⟨xs, ds, z, rfl, c⟩ | ⟨xs, ds, z, rfl, c⟩
      · exact .lst (by rw [hp', z]) (c.mono s)
      · exact .dct (.inl (by rw [hp', z])) (c.mono s)
    · obtain ⟨v, e1, h⟩ := r.slot j e (by simp [hji, hj]) q
      exact ⟨v, e1, h.mono s⟩
/-- a store into what is being filled -/
theorem R.fill {o : HO} (r : R K H0 own σ H ρ) (hi : i ∈ own) (e1 : σ[i]? = some (some (.ref p))) (h : OwnRp K (hide (adr own σ) H) (some o) d) : R K H0 own σ (upd H p o) (ρ.set i (some d)) := by
  have hp : p ∈ adr own σ := by rw [← adr1_of e1]; exact List.mem_map_of_mem hi
  have eh : hide (adr own σ) (upd H p o) = hide (adr own σ) H := by
    funext b
    by_cases hb : b ∈ adr own σ
    · rw [hide_in hb, hide_in hb]
    · rw [hide_out hb, hide_out hb, upd_ne (fun e : b = p => hb (by rw [e]; exact hp))]
  have inj : ∀ j ∈ own, ∀ k ∈ own, adr1 σ j = adr1 σ k → j = k ∨ True := fun _ _ _ _ _ => .inr trivial
  refine ⟨by simpa using r.len, fun j hj => ?_, r.nd, by rw [eh]; exact r.base, fun j e hj q => ?_, by rw [eh]; exact r.tabs⟩
  · rw [eh]
    by_cases hji : j = i
    · subst hji
      obtain ⟨p', d', g1, g2, g3⟩ := r.own_ j hj
      rw [e1] at g1; cases g1
      have hlt : j < ρ.length := (List.getElem?_eq_some_iff.mp g2).1
      exact ⟨p, d, e1, by rw [List.getElem?_set_self hlt], by rw [upd_same]; exact h⟩
    · obtain ⟨p', d', g1, g2, g3⟩ := r.own_ j hj
      have hpp : p' ≠ p := fun e => by
        have q1 : adr1 σ j = adr1 σ i := by rw [adr1_of g1, adr1_of e1, e]
        have nd : (own.map (adr1 σ)).Nodup := r.nd
        exact hji ((List.pairwise_map.mp nd |> fun P => by
          by_cases hne : j = i
          · exact hne
          · exfalso
            have key : ∀ (l : List Nat), l.Pairwise (fun a b => adr1 σ a ≠ adr1 σ b) → j ∈ l → i ∈ l → False := by
              intro l
              induction l with
              | nil => intro _ h _; cases h
              | cons a l ih =>
                intro hl h1 h2
                obtain ⟨ha, hl⟩ := List.pairwise_cons.mp hl
                rcases List.mem_cons.mp h1 with g1 | g1
                · rcases List.mem_cons.mp h2 with g2 | g2
                  · exact hne (g1.trans g2.symm)
                  · exact ha i g2 (g1 ▸ q1)
                · rcases List.mem_cons.mp h2 with g2 | g2
                  · exact ha j g1 (g2 ▸ q1.symm)
                  · exact ih hl g1 g2
            exact key own P hj hi))
      exact ⟨p', d', g1, by rw [List.getElem?_set_ne (Ne.symm hji)]; exact g2, by rw [upd_ne hpp]; exact g3⟩
  · rw [eh]
    have hji : j ≠ i := fun e => hj (e ▸ hi)
    rw [List.getElem?_set_ne (Ne.symm hji)] at q
    exact r.slot j e hj q
end

/-! ### statements -/
inductive Out where
  | nx (ρ : Sl) | rt (d : D) | bk (ρ : Sl) | ct (ρ : Sl)
def oc (K : PySem.W.Frag) (H0 : Hp) (own ownB : List Nat) (E : Ends) : Out → Prop
  | .nx ρ => ∀ σ' H', R K H0 own σ' H' ρ → E.nx σ' H'
  | .rt d => ∀ v H', Same H0 H' → Rp K H' v d → E.rt v H'
  | .bk ρ => ∀ σ' H', R K H0 ownB σ' H' ρ → E.bk σ' H'
  | .ct ρ => ∀ σ' H', R K H0 ownB σ' H' ρ → E.ct σ' H'
def tS (K : PySem.W.Frag) (W : Wsh) (H0 : Hp) (own : List Nat) (S : Sl → Rs Out) (own' ownB : List Nat) : TS := fun E σ H => ∃ ρ, R K H0 own σ H ρ ∧ cs (S ρ) (oc K H0 own' ownB E) (fun c => ∀ σ' H', Same H0 H' → W c σ' H')
structure DS (X : Cx) (W : Wsh) (own : List Nat) (S : Sl → Rs Out) (own' ownB : List Nat) (st : Stmt) : Prop where
  ps : ∀ H0, PS X st (tS X.K W H0 own S own' ownB)
structure DSs (X : Cx) (W : Wsh) (own : List Nat) (S : Sl → Rs Out) (own' ownB : List Nat) (sts : List Stmt) : Prop where
  ps : ∀ H0, PSs X sts (tS X.K W H0 own S own' ownB)
def seqS (S U : Sl → Rs Out) : Sl → Rs Out := fun ρ => (S ρ).bind fun o => match o with
  | .nx ρ' => U ρ'
  | o => .ok o
def sNil : Sl → Rs Out := fun ρ => .ok (.nx ρ)
section
variable {X : Cx} {W : Wsh} {own own1 own2 ownB : List Nat} {S U : Sl → Rs Out} {st : Stmt} {sts : List Stmt} {F : Sl → Rs D} {e : Expr} {pos : Pos}
theorem s_nil : DSs X W own sNil own ownB [] := ⟨fun H0 => pss_imp pss_nil fun E σ H h => by
  obtain ⟨ρ, r, h⟩ := h
  exact h σ H r⟩
theorem s_one (h : DS X W own S own1 ownB st) : DSs X W own S own1 ownB [st] := ⟨fun H0 => pss_one (h.ps H0)⟩
theorem s_cons (h : DS X W own S own1 ownB st) (h' : DSs X W own1 U own2 ownB sts) : DSs X W own (seqS S U) own2 ownB (st :: sts) := ⟨fun H0 => pss_imp (pss_cons (h.ps H0) (h'.ps H0)) fun E σ H hw => by
  obtain ⟨ρ, r, hw⟩ := hw
  refine ⟨ρ, r, cs_mono (cs_bind hw) (fun o h1 => ?_) fun c q => q⟩
  cases o with
  | nx ρ' => exact fun σ' H' r' => ⟨ρ', r', h1⟩
  | rt d => exact h1
  | bk ρ' => exact h1
  | ct ρ' => exact h1⟩
theorem s_relB {i : Nat} (hi : i ∉ own) (h : DS X W own S own1 ownB st) : DS X W (i :: own) S own1 ownB st := ⟨fun H0 => ps_imp (h.ps H0) fun E σ H hw => by
  obtain ⟨ρ, r, hw⟩ := hw
  exact ⟨ρ, r.rel hi, hw⟩⟩
theorem ss_relB {i : Nat} (hi : i ∉ own) (h : DSs X W own S own1 ownB sts) : DSs X W (i :: own) S own1 ownB sts := ⟨fun H0 => pss_imp (h.ps H0) fun E σ H hw => by
  obtain ⟨ρ, r, hw⟩ := hw
  exact ⟨ρ, r.rel hi, hw⟩⟩
theorem s_relA {i : Nat} (hi : i ∉ own1) (h : DS X W own S (i :: own1) ownB st) : DS X W own S own1 ownB st := ⟨fun H0 => ps_imp (h.ps H0) fun E σ H hw => by
  obtain ⟨ρ, r, hw⟩ := hw
  refine ⟨ρ, r, cs_mono hw (fun o h1 => ?_) fun c q => q⟩
  cases o with
  | nx ρ' => exact fun σ' H' r' => h1 σ' H' (r'.rel hi)
  | rt d => exact h1
  | bk ρ' => exact h1
  | ct ρ' => exact h1⟩
/-! expressions within statements -/
/-- in the plain heap: the value may be what is being filled -/
theorem inH {K : PySem.W.Frag} {H0 H : Hp} {σ : L2.St} {ρ : Sl} {Q : VK} (r : R K H0 own σ H ρ) (h : cs (F ρ) (fun d => ∀ v H', Same H H' → R K H0 own σ H' ρ → Rp K H' v d → Q v H') (fun c => ∀ σ' H', Same H0 H' → W c σ' H')) : tE K W F σ H Q :=
  ⟨ρ, r.r0, cs_mono h (fun d q v H' s rv => q v H' s (r.grow s) rv) fun c q H' s => q σ H' ((r.base.trans hide_same).trans s)⟩
/-- apart from what is being filled -/
theorem inG {K : PySem.W.Frag} {H0 H : Hp} {σ : L2.St} {ρ : Sl} {Q : VK} (r : R K H0 own σ H ρ)
    (h : cs (F (wipeD ρ own)) (fun d => ∀ v H', R K H0 own σ H' ρ → (∀ a ∈ adr own σ, H' a = H a) → Same (hide (adr own σ) H) (hide (adr own σ) H') → Rp K (hide (adr own σ) H') v d → Q v H') (fun c => ∀ σ' H', Same H0 H' → W c σ' H')) : tFr (tE K W F) σ H Q := by
  refine ⟨adr own σ, r.mu, _, r.r0h, cs_mono h (fun d q v H1 s rv hn => ?_) fun c q H' s => q σ H' (r.base.trans s)⟩
  refine q v _ (r.putG s hn) (fun a ha => put_in ha) ?_ ?_
  · rw [hide_put hn]; exact s
  · rw [hide_put hn]; exact rv
def sRet (F : Sl → Rs D) : Sl → Rs Out := fun ρ => (F ρ).bind fun d => .ok (.rt d)
theorem s_ret (h : PE X e (tE X.K W F)) : DS X W own (sRet F) own1 ownB (.Return (some e) pos) := ⟨fun H0 => ps_imp (ps_ret h) fun E σ H hw => by
  obtain ⟨ρ, r, hw⟩ := hw
  exact inH r (cs_mono (cs_bind hw) (fun d q v H' s r' rv => q v H' (r'.base.trans hide_same) rv) fun c q => q)⟩
def sExpr (F : Sl → Rs D) : Sl → Rs Out := fun ρ => (F ρ).bind fun _ => .ok (.nx ρ)
theorem s_expr (h : PE X e (tE X.K W F)) (hs : swapsWith e none pos.line X.env = pure false := by rfl) : DS X W own (sExpr F) own ownB (.Expr e pos) := ⟨fun H0 => ps_imp (ps_expr h hs) fun E σ H hw => by
  obtain ⟨ρ, r, hw⟩ := hw
  exact inH r (cs_mono (cs_bind hw) (fun d q v H' s r' rv => q σ H' r') fun c q => q)⟩
def sAsg (own : List Nat) (T : D → Option Asn) (F : Sl → Rs D) : Sl → Rs Out := fun ρ => (F (wipeD ρ own)).bind fun d => (Rs.of (T d)).bind fun as => .ok (.nx (setD ρ as))
def Apart (own : List Nat) (T : D → Option Asn) : Prop := ∀ d as, T d = some as → ∀ q ∈ as, q.1 ∉ own
theorem ap_of {vs own : List Nat} {T : D → Option Asn} (h : InS vs T) (hd : ∀ i ∈ vs, i ∉ own) : Apart own T := fun d as e q hq => hd _ (h d as e q hq)
/-- what a stored value needs -/
theorem asg_read {K : PySem.W.Frag} {H0 H : Hp} {g : TG} {T : D → Option Asn} {E : Ends} {σ : L2.St} {ρ : Sl} {d : D} {v : V} (ht : TgP K g T) (ap : Apart own T) (r : R K H0 own σ H ρ) (rv : Rp K (hide (adr own σ) H) v d)
    (h : cs ((Rs.of (T d)).bind fun as => .ok (Out.nx (setD ρ as))) (oc K H0 own ownB E) (fun c => ∀ σ' H', Same H0 H' → W c σ' H')) : g v σ H E.nx := by
  obtain ⟨as, e, h⟩ := cs_of (cs_bind h)
  exact ht v d _ H σ as _ hide_same rv e fun vs rvs => h _ _ (r.sets (ap d as e) rvs)
theorem s_asg {tg : Expr} {g : TG} {T : D → Option Asn} (h : PE X e (tE X.K W F)) (hg : PG X tg g) (ht : TgP X.K g T) (ap : Apart own T) (hs : swapsWithSole [tg] e pos.line X.env = pure false := by rfl) (hw : swappedStores [tg] e X.env = pure none := by rfl)
    (h1 : (assignEach [tg] X.env).map (·.2) = [assign tg X.env] := by rfl) : DS X W own (sAsg own T F) own ownB (.Assign [tg] e pos) := ⟨fun H0 => ps_imp (ps_asg (pe_fr h) hg hs hw h1) fun E σ H hw => by
  obtain ⟨ρ, r, hw⟩ := hw
  exact inG r (cs_mono (cs_bind hw) (fun d q v H' r' _ _ rv => asg_read ht ap r' rv q) fun c q => q)⟩
/-- x = e, the value no container -/
def scl : D → Bool
  | .non => true | .bl _ => true | .int _ => true | .str _ => true
  | _ => false
theorem scl_rp {K : PySem.W.Frag} {H H' : Hp} {v : V} {d : D} (h : Rp K H v d) (s : scl d = true) : Rp K H' v d := by
  cases h <;> first | (exact .non) | (exact .bl _) | (exact .int _) | (exact .str _) | cases s
def sAsgS (T : D → Option Asn) (F : Sl → Rs D) : Sl → Rs Out := fun ρ => (F ρ).bind fun d => match scl d with
  | true => (Rs.of (T d)).bind fun as => .ok (.nx (setD ρ as))
  | false => .bad
theorem s_asgS {tg : Expr} {g : TG} {T : D → Option Asn} (h : PE X e (tE X.K W F)) (hg : PG X tg g) (ht : TgP X.K g T) (ap : Apart own T) (hs : swapsWithSole [tg] e pos.line X.env = pure false := by rfl) (hw : swappedStores [tg] e X.env = pure none := by rfl)
    (h1 : (assignEach [tg] X.env).map (·.2) = [assign tg X.env] := by rfl) : DS X W own (sAsgS T F) own ownB (.Assign [tg] e pos) := ⟨fun H0 => ps_imp (ps_asg h hg hs hw h1) fun E σ H hw => by
  obtain ⟨ρ, r, hw⟩ := hw
  refine inH r (cs_mono (cs_bind hw) (fun d q v H' s r' rv => ?_) fun c q => q)
  cases hd : scl d with
  | false => rw [hd] at q; exact q.elim
  | true =>
    rw [hd] at q
    exact asg_read ht ap r' (scl_rp rv hd) q⟩
def sIf (C : Sl → Rs Bool) (S U : Sl → Rs Out) : Sl → Rs Out := fun ρ => (C ρ).bind fun b => match b with
  | true => S ρ
  | false => U ρ
theorem inT {K : PySem.W.Frag} {H0 H : Hp} {C : Sl → Rs Bool} {σ : L2.St} {ρ : Sl} {Q : Bool → Hp → Prop} (r : R K H0 own σ H ρ) (h : cs (C ρ) (fun b => ∀ H', Same H H' → R K H0 own σ H' ρ → Q b H') (fun c => ∀ σ' H', Same H0 H' → W c σ' H')) : tT K W C σ H Q :=
  ⟨ρ, r.r0, cs_mono h (fun d q H' s => q H' s (r.grow s)) fun c q H' s => q σ H' ((r.base.trans hide_same).trans s)⟩
theorem s_if {c : Expr} {C : Sl → Rs Bool} {sts' : List Stmt} (hc : PT X c (tT X.K W C)) (h : DSs X W own S own1 ownB sts) (h' : DSs X W own U own1 ownB sts') : DS X W own (sIf C S U) own1 ownB (.If c sts sts' pos) := ⟨fun H0 => ps_imp (ps_if hc (h.ps H0) (h'.ps H0)) fun E σ H hw => by
  obtain ⟨ρ, r, hw⟩ := hw
  refine inT r (cs_mono (cs_bind hw) (fun b q H' s r' => ?_) fun c q => q)
  cases b with
  | true => exact iteT ⟨ρ, r', q⟩
  | false => exact iteF ⟨ρ, r', q⟩⟩
def sBreak : Sl → Rs Out := fun ρ => .ok (.bk ρ)
def sCont : Sl → Rs Out := fun ρ => .ok (.ct ρ)
theorem s_break : DS X W own sBreak own1 own (.Break pos) := ⟨fun H0 => ps_imp ps_break fun E σ H hw => by
  obtain ⟨ρ, r, hw⟩ := hw
  exact hw σ H r⟩
theorem s_continue : DS X W own sCont own1 own (.Continue pos) := ⟨fun H0 => ps_imp ps_continue fun E σ H hw => by
  obtain ⟨ρ, r, hw⟩ := hw
  exact hw σ H r⟩
theorem s_pass : DS X W own sNil own ownB (.Pass pos) := ⟨fun H0 => ps_imp ps_pass fun E σ H hw => by
  obtain ⟨ρ, r, hw⟩ := hw
  exact hw σ H r⟩
/-! for -/
def forL (T : D → Option Asn) (S : Sl → Rs Out) : List D → Sl → Rs Out
  | [], ρ => .ok (.nx ρ)
  | d :: ds, ρ => (Rs.of (T d)).bind fun as => (S (setD ρ as)).bind fun o => match o with
    | .nx ρ' => forL T S ds ρ'
    | .ct ρ' => forL T S ds ρ'
    | .bk ρ' => .ok (.nx ρ')
    | .rt v => .ok (.rt v)
def sFor (own : List Nat) (I : Sl → Rs (List D)) (T : D → Option Asn) (S : Sl → Rs Out) : Sl → Rs Out := fun ρ => (I (wipeD ρ own)).bind fun ds => forL T S ds ρ
theorem s_for {tg iter : Expr} {I : Sl → Rs (List D)} {g : TG} {T : D → Option Asn} (hp : PassesOwn (model X.prog X.w) X.A X.env X.xe) (hi : PI X tg iter (tI X.K W I)) (hg : PG X tg g) (ht : TgP X.K g T) (ap : Apart own T) (hb : DSs X W own S own own sts) (hcm : X.calm = true := by rfl)
    (hs : ∀ x, foldedSetIterable iter X.env x = pure x := by intro _; rfl) : DS X W own (sFor own I T S) own ownB (.For tg iter sts [] pos) := by
  refine ⟨fun H0 => ?_⟩
  -- the body is used over the heap as it stands ahead of the loop
  have hb' : PSs X sts (fun E σ H => ∃ H0, tS X.K W H0 own S own own E σ H) := ⟨fun pins s σ H E I hw => by
    obtain ⟨H0, hw⟩ := hw
    exact (hb.ps H0).run pins s σ H E I hw⟩
  refine ps_imp (ps_for hp hcm (pi_fr hi) hg hb' hs) fun E σ H hw => ?_
  obtain ⟨ρ, r, hw⟩ := hw
  refine ⟨adr own σ, r.mu, wipeD ρ own, r.r0h, cs_mono (cs_bind hw) (fun ds h1 J H1 s1 wk hn => ?_) fun c q H' s => q σ H' (r.base.trans s)⟩
  have r1 : R X.K H0 own σ (put (adr own σ) H H1) ρ := r.putG s1 hn
  have e1 : hide (adr own σ) (put (adr own σ) H H1) = H1 := hide_put hn
  have r1' : R X.K H1 own σ (put (adr own σ) H H1) ρ := by have := r1.rebase; rw [e1] at this; exact this
  have s01 : Same H0 H1 := by have := r1.base; rw [e1] at this; exact this
  refine ⟨fun i m σ' H' => m = ds.length - i ∧ i ≤ ds.length ∧ ∃ ρ', R X.K H1 own σ' H' ρ' ∧ cs (forL T S (ds.drop i) ρ') (oc X.K H0 own ownB E) (fun c => ∀ σ' H', Same H0 H' → W c σ' H'),
    ⟨ds.length, by simp, Nat.zero_le _, ρ, r1', by simpa using h1⟩, ?_⟩
  rintro i m σ' H' ⟨rfl, hile, ρ', r', hc⟩
  have s1' : Same H1 H' := r'.base.trans hide_same
  by_cases hlt : i < ds.length
  · have hdi : ds[i]? = some ds[i] := List.getElem?_eq_getElem hlt
    have hdrop : ds.drop i = ds[i] :: ds.drop (i + 1) := by rw [List.drop_eq_getElem_cons hlt]
    rw [hdrop] at hc
    have hc' : cs ((Rs.of (T ds[i])).bind fun as => (S (setD ρ' as)).bind fun o => match o with
      | .nx ρ' => forL T S (ds.drop (i + 1)) ρ'
      | .ct ρ' => forL T S (ds.drop (i + 1)) ρ'
      | .bk ρ' => .ok (.nx ρ')
      | .rt v => .ok (.rt v)) (oc X.K H0 own ownB E) (fun c => ∀ σ' H', Same H0 H' → W c σ' H') := hc
    obtain ⟨as, eT, hc2⟩ := cs_of (cs_bind hc')
    refine .inr ⟨wk.go i H' s1' hlt, fun σ2 H2 => ∃ ρ2, R X.K H1 own σ2 H2 ρ2 ∧ cs (forL T S (ds.drop (i + 1)) ρ2) (oc X.K H0 own ownB E) (fun c => ∀ σ' H', Same H0 H' → W c σ' H'), fun σ2 H2 hN => ?_, fun x H3 y => ?_⟩
    · exact ⟨ds.length - (i + 1), by omega, rfl, hlt, hN⟩
    · obtain ⟨s3, s3h, rx, hk⟩ := (wk.yld i H' x H3 _ s1' hdi y).hid r'.base r'.ne
      have r3 : R X.K H1 own σ' H3 ρ' := r'.growG s3h hk
      refine ht x ds[i] _ H3 σ' as _ hide_same rx eT fun vs rvs => ?_
      refine ⟨H1, _, r3.sets (ap _ as eT) rvs, cs_mono (cs_bind hc2) (fun o h2 => ?_) fun c q σ'' H'' s => q σ'' H'' (s01.trans s)⟩
      cases o with
      | nx ρ2 => exact fun σ2 H2 r2 => ⟨ρ2, r2, h2⟩
      | ct ρ2 => exact fun σ2 H2 r2 => ⟨ρ2, r2, h2⟩
      | bk ρ2 => exact fun σ2 H2 r2 => h2 σ2 H2 (r2.unbase s01)
      | rt d => exact fun v H2 s rv => h2 v H2 (s01.trans s) rv
  · have e : i = ds.length := by omega
    subst e
    rw [List.drop_length] at hc
    exact .inl ⟨wk.stop H' s1', hc σ' H' (r'.unbase s01)⟩
/-! while -/
def whileN (C : Sl → Rs Bool) (S : Sl → Rs Out) : Nat → Sl → Rs Out
  | 0, _ => .bad
  | n + 1, ρ => (C ρ).bind fun b => match b with
    | false => .ok (.nx ρ)
    | true => (S ρ).bind fun o => match o with
      | .nx ρ' => whileN C S n ρ'
      | .ct ρ' => whileN C S n ρ'
      | .bk ρ' => .ok (.nx ρ')
      | .rt v => .ok (.rt v)
def sWhile (n : Nat) (C : Sl → Rs Bool) (S : Sl → Rs Out) : Sl → Rs Out := fun ρ => whileN C S n ρ
theorem s_while (n : Nat) {c : Expr} {C : Sl → Rs Bool} (hp : PassesOwn (model X.prog X.w) X.A X.env X.xe) (hc : PT X c (tT X.K W C)) (hb : DSs X W own S own own sts) : DS X W own (sWhile n C S) own ownB (.While c sts [] pos) := ⟨fun H0 => ps_imp (ps_while hp hc (hb.ps H0)) fun E σ H hw => by
  obtain ⟨ρ, r, hw⟩ := hw
  refine ⟨fun m σ' H' => ∃ ρ', R X.K H0 own σ' H' ρ' ∧ cs (whileN C S m ρ') (oc X.K H0 own ownB E) (fun c => ∀ σ' H', Same H0 H' → W c σ' H'), ⟨n, ρ, r, hw⟩, ?_⟩
  rintro m σ' H' ⟨ρ', r', h⟩
  cases m with
  | zero => exact h.elim
  | succ m =>
    refine inT r' (cs_mono (cs_bind h) (fun b q H2 s2 r2 => ?_) fun c q => q)
    cases b with
    | false => exact iteF (q σ' H2 r2)
    | true =>
      refine iteT ⟨fun σ3 H3 => ∃ ρ3, R X.K H0 own σ3 H3 ρ3 ∧ cs (whileN C S m ρ3) (oc X.K H0 own ownB E) (fun c => ∀ σ' H', Same H0 H' → W c σ' H'), fun σ3 H3 hN => ⟨m, Nat.lt_succ_self _, hN⟩, ρ', r2, cs_mono (cs_bind q) (fun o h2 => ?_) fun c q => q⟩
      cases o with
      | nx ρ2 => exact fun σ2 H2 r2 => ⟨ρ2, r2, h2⟩
      | ct ρ2 => exact fun σ2 H2 r2 => ⟨ρ2, r2, h2⟩
      | bk ρ2 => exact h2
      | rt d => exact h2⟩
/-! lists that are filled -/
def sNew (own : List Nat) (i : Nat) (A : Sl → Rs (List D)) : Sl → Rs Out := fun ρ => (A (wipeD ρ own)).bind fun ds => if ds.length ≤ 1000000 ∧ i < ρ.length then .ok (.nx (ρ.set i (some (.lst ds)))) else .bad
theorem s_new {i : Nat} {x : Str} {es : List Expr} {A : Sl → Rs (List D)} {pos' lp : Pos} (hN : X.N.Nodup) (hx : X.N[i]? = some x) (hl : Loc X.env.scope x) (hi : i ∉ own) (h : PA X es (tA X.K W A)) (hs : swapsWith (.List es lp) (some (.Name x pos')) pos.line X.env = pure false := by rfl)
    (hf : X.fn x = true ∨ X.env.scope.names.lookup x = some .local := by first | exact .inl rfl | exact .inr rfl | assumption) : DS X W own (sNew own i A) (i :: own) ownB (.Assign [.Name x pos'] (.List es lp) pos) := ⟨fun H0 => ps_imp (ps_set (i := i) hN hx hl (pe_lst (pa_fr h)) hs hf) fun E σ H hw => by
  obtain ⟨ρ, r, hw⟩ := hw
  refine ⟨adr own σ, r.mu, _, r.r0h, cs_mono (cs_bind hw) (fun ds h1 vs H1 s1 r1 hn => ?_) fun c q H' s => q σ H' (r.base.trans s)⟩
  by_cases hb : ds.length ≤ 1000000 ∧ i < ρ.length
  · rw [if_pos hb] at h1
    refine ⟨lb_le (by rw [r1.length]; exact hb.1), fun p hp => h1 _ _ ((r.putG s1 hn).acq hi hb.2 hp (.inl ⟨vs, ds, rfl, rfl, ?_⟩))⟩
    rw [hide_put hn]; exact r1
  · rw [if_neg hb] at h1; exact h1.elim⟩
def sApp (own : List Nat) (i : Nat) (A : Sl → Rs (List D)) : Sl → Rs Out := fun ρ => match ρ[i]? with
  | some (some (.lst ds)) => (A (wipeD ρ own)).bind fun es => match es with
    | [d] => if ds.length < 1000000 then .ok (.nx (ρ.set i (some (.lst (ds ++ [d]))))) else .bad
    | _ => .bad
  | _ => .bad
theorem s_app {i : Nat} {a f : Expr} {A : Sl → Rs (List D)} {cpos : Pos} (hi : i ∈ own) (h : PA X [a] (tA X.K W A)) (hm : ∀ t, PA X [a] t → PE X (.Call f [a] [] cpos) (tBM X.K "list" rAppend (tVar i) t))
    (hs : swapsWith (.Call f [a] [] cpos) none pos.line X.env = pure false := by rfl) : DS X W own (sApp own i A) own ownB (.Expr (.Call f [a] [] cpos) pos) := ⟨fun H0 => by
  refine ps_imp (ps_expr (hm _ (pa_fr h)) hs) fun E σ H hw => ?_
  obtain ⟨ρ, r, hw⟩ := hw
  obtain ⟨p, d0, e1, e2, ho⟩ := r.own_ i hi
  unfold sApp at hw
  rw [e2] at hw
  rcases ho with ⟨xs, ds, ex, rfl, ra⟩ | ⟨xs, ds, ex, rfl, ra⟩
  · refine ⟨.ref p, e1, .inl ⟨rfl, xs, SqL.of ex⟩, adr own σ, r.mu, _, r.r0h, cs_mono (cs_bind hw) (fun es h1 vs H1 s1 r1 hn => ?_) fun c q H' s => q σ H' (r.base.trans s)⟩
    have r2 := r.putG s1 hn
    have hp : p ∈ adr own σ := by rw [← adr1_of e1]; exact List.mem_map_of_mem hi
    have ex2 : put (adr own σ) H H1 p = some (.lst xs) := by rw [put_in hp]; exact ex
    rcases es with _ | ⟨d, _ | ⟨d2, es⟩⟩
    · exact h1.elim
    · obtain ⟨v, rfl, rv⟩ := rpall1 r1
      by_cases hlt : ds.length < 1000000
      · have h2 : cs (if ds.length < 1000000 then Rs.ok (Out.nx (ρ.set i (some (.lst (ds ++ [d]))))) else .bad) _ _ := h1
        rw [if_pos hlt] at h2
        refine ⟨p, xs, v, rfl, rfl, ex2, Nat.lt_of_lt_of_le (by rw [ra.length]; exact hlt : xs.length < 1000000) (by decide), h2 _ _ (r2.fill hi e1 (.inl ⟨_, _, rfl, rfl, ?_⟩))⟩
        rw [hide_put hn]
        exact (ra.mono s1).append (.cons rv .nil)
      · have h2 : cs (if ds.length < 1000000 then Rs.ok (Out.nx (ρ.set i (some (.lst (ds ++ [d]))))) else .bad) _ _ := h1
        rw [if_neg hlt] at h2; exact h2.elim
    · exact h1.elim
  · exact hw.elim⟩
def sExt (own : List Nat) (i : Nat) (A : Sl → Rs (List D)) : Sl → Rs Out := fun ρ => match ρ[i]? with
  | some (some (.lst ds)) => (A (wipeD ρ own)).bind fun es => match es with
    | [.lst d] => if ds.length + d.length ≤ 1000000 then .ok (.nx (ρ.set i (some (.lst (ds ++ d))))) else .bad
    | _ => .bad
  | _ => .bad
theorem s_ext {i : Nat} {a f : Expr} {A : Sl → Rs (List D)} {cpos : Pos} (hi : i ∈ own) (h : PA X [a] (tA X.K W A)) (hm : ∀ t, PA X [a] t → PE X (.Call f [a] [] cpos) (tBM X.K "list" rExtend (tVar i) t))
    (hs : swapsWith (.Call f [a] [] cpos) none pos.line X.env = pure false := by rfl) : DS X W own (sExt own i A) own ownB (.Expr (.Call f [a] [] cpos) pos) := ⟨fun H0 => by
  refine ps_imp (ps_expr (hm _ (pa_fr h)) hs) fun E σ H hw => ?_
  obtain ⟨ρ, r, hw⟩ := hw
  obtain ⟨p, d0, e1, e2, ho⟩ := r.own_ i hi
  unfold sExt at hw
  rw [e2] at hw
  rcases ho with ⟨xs, ds, ex, rfl, ra⟩ | ⟨xs, ds, ex, rfl, ra⟩
  · refine ⟨.ref p, e1, .inl ⟨rfl, xs, SqL.of ex⟩, adr own σ, r.mu, _, r.r0h, cs_mono (cs_bind hw) (fun es h1 vs H1 s1 r1 hn => ?_) fun c q H' s => q σ H' (r.base.trans s)⟩
    have r2 := r.putG s1 hn
    have hp : p ∈ adr own σ := by rw [← adr1_of e1]; exact List.mem_map_of_mem hi
    have ex2 : put (adr own σ) H H1 p = some (.lst xs) := by rw [put_in hp]; exact ex
    rcases es with _ | ⟨d, _ | ⟨d2, es⟩⟩
    · exact h1.elim
    · obtain ⟨v, rfl, rv⟩ := rpall1 r1
      cases d with
      | lst d =>
        obtain ⟨b, zs, rfl, hb, rz⟩ := rp_lst rv
        have nb : b ∉ adr own σ := fun hm => by rw [hn b hm] at hb; cases hb
        have hb2 : put (adr own σ) H H1 b = some (.lst zs) := by rw [put_out nb]; exact hb
        by_cases hlt : ds.length + d.length ≤ 1000000
        · have h2 : cs (if ds.length + d.length ≤ 1000000 then Rs.ok (Out.nx (ρ.set i (some (.lst (ds ++ d))))) else .bad) _ _ := h1
          rw [if_pos hlt] at h2
          refine ⟨p, b, xs, zs, rfl, rfl, ex2, hb2, lb_le (by rw [ra.length, rz.length]; exact hlt), h2 _ _ (r2.fill hi e1 (.inl ⟨_, _, rfl, rfl, ?_⟩))⟩
          rw [hide_put hn]
          exact (ra.mono s1).append rz
        · have h2 : cs (if ds.length + d.length ≤ 1000000 then Rs.ok (Out.nx (ρ.set i (some (.lst (ds ++ d))))) else .bad) _ _ := h1
          rw [if_neg hlt] at h2; exact h2.elim
      | _ => exact h1.elim
    · cases d <;> exact h1.elim
  · exact hw.elim⟩
/-! x = [.. for ..] -/
theorem s_setLc {i : Nat} {y : Str} {py : Pos} {elt tg iter : Expr} {ifs : List Expr} {scope : Scope} {ow : List (Str × Nat)} {spos : Pos} {I : Sl → Rs (List D)} {g : TG} {T : D → Option Asn} {C : Sl → Rs Bool} {G : Sl → Rs D}
    (hN : X.N.Nodup) (hy : X.N[i]? = some y) (hyl : X.env.scope.names.lookup y = some .local) (hsw : swapsWith (.ListComp elt [⟨tg, iter, ifs, 0⟩] scope pos) (some (.Name y py)) spos.line X.env = pure true)
    (hi : PI X tg iter (tI X.K W I)) (ok : BlkOk X.N X.env.scope scope ow) (ht : TgP X.K g T) (hin : InS (ow.map (·.2)) T)
    (hg : ∀ (s : Shared) (H : Hp) (C : Addr) (cl : List (Str × Addr)) (fp : List Addr), PG (X.blk s H scope (compEnvC scope cl C X.env) fp) tg g) (hc : ∀ (s : Shared) (H : Hp) (C₁ : Addr) (cl : List (Str × Addr)) (fp : List Addr), PTs (X.blk s H scope (compEnvC scope cl C₁ X.env) fp) ifs (tT X.K W0 C))
    (he : ∀ (s : Shared) (H : Hp) (C : Addr) (cl : List (Str × Addr)) (fp : List Addr), PE (X.blk s H scope (compEnvC scope cl C X.env) fp) elt (tE X.K W0 G)) (hcm : X.calm = true := by rfl) (hs : ∀ x, foldedSetIterable iter X.env x = pure x := by intro _; rfl) :
    DS X W [] (sAsg [] (tgName i) (eLc I (ow.map (·.2)) T C G)) [] ownB (.Assign [.Name y py] (.ListComp elt [⟨tg, iter, ifs, 0⟩] scope pos) spos) := ⟨fun H0 => by
  refine ps_imp (ps_setLc (i := i) hcm hN hy hyl hsw hi ok hg hc (fun s H C cl fp => pe_fr (he s H C cl fp)) hs) fun E σ H hw => ?_
  obtain ⟨ρ, r, hw⟩ := hw
  refine lc_read ht hin ?_
  refine inH r (cs_mono (cs_bind hw) (fun d q v H' s r' rv => ?_) fun c q => q)
  refine asg_read (own := []) (tp_name i) (fun _ _ _ _ _ => by simp) r' ?_ q
  show Rp X.K (hide [] H') v d
  rw [hide_nil]; exact rv⟩
/-! a, b = e1, e2 with plain local names -/
def tg2 (i j : Nat) : D → Option Asn := tgTup (tgCons (tgName i) (tgCons (tgName j) tgNil))
def tg3 (i j k : Nat) : D → Option Asn := tgTup (tgCons (tgName i) (tgCons (tgName j) (tgCons (tgName k) tgNil)))
theorem s_par2 {i j : Nat} {x y : Str} {a b : Expr} {A : Sl → Rs (List D)} {px py pt : Pos} {kt k2 pt2} (hN : X.N.Nodup) (hi : X.N[i]? = some x) (hj : X.N[j]? = some y) (hij : i ≠ j) (hio : i ∉ own) (hjo : j ∉ own)
    (hx : X.env.scope.names.lookup x = some .local) (hy : X.env.scope.names.lookup y = some .local) (ha : PA X [a, b] (tA X.K W A))
    (hp : ∀ ta, PA X [a, b] ta → PS X (.Assign [.Tuple [.Name x px, .Name y py] kt pt] (.Tuple [a, b] k2 pt2) pos) (tPar i j ta)) :
    DS X W own (sAsg own (tg2 i j) (eTup A)) own ownB (.Assign [.Tuple [.Name x px, .Name y py] kt pt] (.Tuple [a, b] k2 pt2) pos) := ⟨fun H0 => by
  refine ps_imp (hp _ (pa_fr ha)) fun E σ H hw => ?_
  obtain ⟨ρ, r, hw⟩ := hw
  refine ⟨adr own σ, r.mu, _, r.r0h, cs_mono (cs_bind (cs_bind hw)) (fun ds h1 vs H1 s1 r1 hn => ?_) fun c q H' s => q σ H' (r.base.trans s)⟩
  by_cases hl : ds.length ≤ 1000000
  · rw [if_pos hl] at h1
    obtain ⟨as, e, h2⟩ := cs_of (cs_bind h1)
    rcases ds with _ | ⟨d1, _ | ⟨d2, _ | ⟨d3, r3⟩⟩⟩
    · cases e
    · cases e
    · cases e
      obtain ⟨v1, v2, rfl, q1, q2⟩ := rpall2 r1
      refine ⟨v1, v2, rfl, h2 _ _ ?_⟩
      have r2 := r.putG s1 hn
      have := r2.sets (as := [(i, d1), (j, d2)]) (vs := [v1, v2]) (fun q hq => by
        simp at hq
        rcases hq with rfl | rfl
        · exact hio
        · exact hjo) (by rw [hide_put hn]; exact .cons q1 (.cons q2 .nil))
      exact this
    · cases e
  · rw [if_neg hl] at h1; exact h1.elim⟩
theorem s_par3 {i j k : Nat} {x y z : Str} {a b c : Expr} {A : Sl → Rs (List D)} {px py pz pt : Pos} {kt k2 pt2} (hio : i ∉ own) (hjo : j ∉ own) (hko : k ∉ own) (ha : PA X [a, b, c] (tA X.K W A))
    (hp : ∀ ta, PA X [a, b, c] ta → PS X (.Assign [.Tuple [.Name x px, .Name y py, .Name z pz] kt pt] (.Tuple [a, b, c] k2 pt2) pos) (tPar3 i j k ta)) :
    DS X W own (sAsg own (tg3 i j k) (eTup A)) own ownB (.Assign [.Tuple [.Name x px, .Name y py, .Name z pz] kt pt] (.Tuple [a, b, c] k2 pt2) pos) := ⟨fun H0 => by
  refine ps_imp (hp _ (pa_fr ha)) fun E σ H hw => ?_
  obtain ⟨ρ, r, hw⟩ := hw
  refine ⟨adr own σ, r.mu, _, r.r0h, cs_mono (cs_bind (cs_bind hw)) (fun ds h1 vs H1 s1 r1 hn => ?_) fun c q H' s => q σ H' (r.base.trans s)⟩
  by_cases hl : ds.length ≤ 1000000
  · rw [if_pos hl] at h1
    obtain ⟨as, e, h2⟩ := cs_of (cs_bind h1)
    rcases ds with _ | ⟨d1, _ | ⟨d2, _ | ⟨d3, _ | ⟨d4, r4⟩⟩⟩⟩
    · cases e
    · cases e
    · cases e
    · cases e
      cases r1 with
      | @cons v1 _ _ _ q1 r1 =>
        obtain ⟨v2, v3, rfl, q2, q3⟩ := rpall2 r1
        refine ⟨v1, v2, v3, rfl, h2 _ _ ?_⟩
        have r2 := r.putG s1 hn
        have := r2.sets (as := [(i, d1), (j, d2), (k, d3)]) (vs := [v1, v2, v3]) (fun q hq => by
          simp at hq
          rcases hq with rfl | rfl | rfl
          · exact hio
          · exact hjo
          · exact hko) (by rw [hide_put hn]; exact .cons q1 (.cons q2 (.cons q3 .nil)))
        exact this
    · cases e
  · rw [if_neg hl] at h1; exact h1.elim⟩
end
end PB

namespace PB
open PySem PySem.Spec PyProof.Rows L2
/-! ### x, y = [], e and x, y, z = [], e, f: the first is filled later -/
def aFresh (A : Sl → Rs (List D)) : Sl → Rs (List D) := fun ρ => (A ρ).bind fun ds => .ok (.lst [] :: ds)
/-- the readings of the arguments [], e, ..: the list stands apart -/
theorem fresh_args {X : Cx} {W : Wsh} {es : List Expr} {lp : Pos} {A : Sl → Rs (List D)} (h : PA X es (tA X.K W A)) (hs : starEach (.List [] lp :: es) X.env = (false, eval (.List [] lp) X.env) :: starEach es X.env := by rfl) :
    PA X (.List [] lp :: es) (tCons (tLst tNil) (aFr (tA X.K W A))) := pa_cons (pe_lst pa_nil) (pa_fr h) hs
section
variable {X : Cx} {W : Wsh} {own ownB : List Nat} {pos : Pos}
def sNew2 (own : List Nat) (i j : Nat) (A : Sl → Rs (List D)) : Sl → Rs Out := fun ρ => (A (wipeD ρ own)).bind fun ds => match ds with
  | [d] => if i < ρ.length then .ok (.nx ((ρ.set i (some (.lst []))).set j (some d))) else .bad
  | _ => .bad
def sNew3 (own : List Nat) (i j k : Nat) (A : Sl → Rs (List D)) : Sl → Rs Out := fun ρ => (A (wipeD ρ own)).bind fun ds => match ds with
  | [d, d'] => if i < ρ.length then .ok (.nx (((ρ.set i (some (.lst []))).set j (some d)).set k (some d'))) else .bad
  | _ => .bad
/-- what stands behind the evaluation of [], e, .. -/
theorem fresh_read {K : PySem.W.Frag} {H0 H : Hp} {σ : L2.St} {ρ : Sl} {A : Sl → Rs (List D)} {Q : List V → Hp → Prop} (r : R K H0 own σ H ρ)
    (h : cs (A (wipeD ρ own)) (fun ds => ∀ p vs H1, Same (hide (adr own σ) H) H1 → (∀ a ∈ adr own σ, H1 a = none) → H1 p = none → p ∉ adr own σ → RpAll K H1 vs ds → Q (.ref p :: vs) (upd (put (adr own σ) H H1) p (.lst []))) (fun c => ∀ σ' H', Same H0 H' → W c σ' H')) :
    tCons (tLst tNil) (aFr (tA K W A)) σ H Q := by
  refine ⟨Nat.zero_le _, fun p hp => ?_⟩
  have np : p ∉ adr own σ := fun hm => r.ne p hm hp
  have eh : hide (p :: adr own σ) (upd H p (.lst [])) = hide (adr own σ) H := by
    funext b
    by_cases hb : b ∈ adr own σ
    · rw [hide_in (by simp [hb]), hide_in hb]
    · by_cases hbp : b = p
      · subst hbp; rw [hide_in (by simp), hide_out hb, hp]
      · rw [hide_out (by simp [hb, hbp]), hide_out hb, upd_ne hbp]
  refine ⟨p :: adr own σ, fun a ha => ?_, wipeD ρ own, by rw [eh]; exact r.r0h, ?_⟩
  · rcases List.mem_cons.mp ha with rfl | ha
    · exact .inl ⟨[], upd_same⟩
    · have hne : a ≠ p := fun e => np (e ▸ ha)
      rcases r.mu a ha with ⟨xs, e⟩ | ⟨xs, e⟩
      · exact .inl ⟨xs, by rw [upd_ne hne]; exact e⟩
      · exact .inr ⟨xs, by rw [upd_ne hne]; exact e⟩
  · rw [eh]
    refine cs_mono h (fun ds q vs H1 s1 r1 hn => ?_) fun c q H' s => q σ H' (r.base.trans s)
    have key := q p vs H1 s1 (fun a ha => hn a (by simp [ha])) (hn p (by simp)) np r1
    have e2 : put (p :: adr own σ) (upd H p (.lst [])) H1 = upd (put (adr own σ) H H1) p (.lst []) := by
      funext b
      by_cases hbp : b = p
      · subst hbp; rw [put_in (by simp), upd_same, upd_same]
      · by_cases hb : b ∈ adr own σ
        · rw [put_in (by simp [hb]), upd_ne hbp, upd_ne hbp, put_in hb]
        · rw [put_out (by simp [hb, hbp]), upd_ne hbp, put_out hb]
    rw [e2]
    exact key
theorem new_r {K : PySem.W.Frag} {H0 H H1 : Hp} {σ : L2.St} {ρ : Sl} {p : Addr} {i : Nat} (r : R K H0 own σ H ρ) (hi : i ∉ own) (hl : i < ρ.length) (s1 : Same (hide (adr own σ) H) H1) (hn : ∀ a ∈ adr own σ, H1 a = none) (hp : H1 p = none) (np : p ∉ adr own σ) :
    R K H0 (i :: own) (σ.set i (some (.ref p))) (upd (put (adr own σ) H H1) p (.lst [])) (ρ.set i (some (.lst []))) ∧ ∀ {v : V} {d : D}, Rp K H1 v d → Rp K (hide (adr (i :: own) (σ.set i (some (.ref p)))) (upd (put (adr own σ) H H1) p (.lst []))) v d := by
  have hls : i < σ.length := Nat.lt_of_lt_of_le hl r.len
  have r2 := r.putG s1 hn
  have hp2 : put (adr own σ) H H1 p = none := by rw [put_out np]; exact hp
  refine ⟨r2.acq hi hl hp2 (.inl ⟨[], [], rfl, rfl, .nil⟩), fun rv => rv.mono <| .of fun b o e => ?_⟩
  have e1 : adr1 (σ.set i (some (.ref p))) i = p := adr1_of (by rw [List.getElem?_set_self hls])
  have ea : adr (i :: own) (σ.set i (some (.ref p))) = p :: adr own σ := by
    show adr1 (σ.set i (some (.ref p))) i :: adr own (σ.set i (some (.ref p))) = _
    rw [e1, adr_set hi]
  rw [ea]
  have hb : b ∉ adr own σ := fun hm => by rw [hn b hm] at e; cases e
  have hbp : b ≠ p := fun z => by rw [z, hp] at e; cases e
  rw [hide_out (by simp [hb, hbp]), upd_ne hbp, put_out hb]
  exact e
theorem s_new2 {i j : Nat} {x y : Str} {b : Expr} {A : Sl → Rs (List D)} {px py pt lp : Pos} {kt k2 pt2} (hij : j ≠ i) (hio : i ∉ own) (hjo : j ∉ own) (ha : PA X [b] (tA X.K W A))
    (hp : ∀ ta, PA X [.List [] lp, b] ta → PS X (.Assign [.Tuple [.Name x px, .Name y py] kt pt] (.Tuple [.List [] lp, b] k2 pt2) pos) (tPar i j ta)) (hs : starEach [.List [] lp, b] X.env = (false, eval (.List [] lp) X.env) :: starEach [b] X.env := by rfl) :
    DS X W own (sNew2 own i j A) (i :: own) ownB (.Assign [.Tuple [.Name x px, .Name y py] kt pt] (.Tuple [.List [] lp, b] k2 pt2) pos) := ⟨fun H0 => by
  refine ps_imp (hp _ (fresh_args ha hs)) fun E σ H hw => ?_
  obtain ⟨ρ, r, hw⟩ := hw
  refine fresh_read r (cs_mono (cs_bind hw) (fun ds h1 p vs H1 s1 hn hp np r1 => ?_) fun c q => q)
  rcases ds with _ | ⟨d, _ | ⟨d2, ds⟩⟩
  · exact h1.elim
  · by_cases hl : i < ρ.length
    · have h2 : cs (if i < ρ.length then Rs.ok (Out.nx ((ρ.set i (some (.lst []))).set j (some d))) else .bad) _ _ := h1
      rw [if_pos hl] at h2
      obtain ⟨v, rfl, rv⟩ := rpall1 r1
      obtain ⟨r3, up⟩ := new_r r hio hl s1 hn hp np
      exact ⟨.ref p, v, rfl, h2 _ _ (r3.set (by simp [hij, hjo]) (up rv))⟩
    · have h2 : cs (if i < ρ.length then Rs.ok (Out.nx ((ρ.set i (some (.lst []))).set j (some d))) else .bad) _ _ := h1
      rw [if_neg hl] at h2; exact h2.elim
  · exact h1.elim⟩
theorem s_new3 {i j k : Nat} {x y z : Str} {b c : Expr} {A : Sl → Rs (List D)} {px py pz pt lp : Pos} {kt k2 pt2} (hij : j ≠ i) (hik : k ≠ i) (hio : i ∉ own) (hjo : j ∉ own) (hko : k ∉ own) (ha : PA X [b, c] (tA X.K W A))
    (hp : ∀ ta, PA X [.List [] lp, b, c] ta → PS X (.Assign [.Tuple [.Name x px, .Name y py, .Name z pz] kt pt] (.Tuple [.List [] lp, b, c] k2 pt2) pos) (tPar3 i j k ta)) (hs : starEach [.List [] lp, b, c] X.env = (false, eval (.List [] lp) X.env) :: starEach [b, c] X.env := by rfl) :
    DS X W own (sNew3 own i j k A) (i :: own) ownB (.Assign [.Tuple [.Name x px, .Name y py, .Name z pz] kt pt] (.Tuple [.List [] lp, b, c] k2 pt2) pos) := ⟨fun H0 => by
  refine ps_imp (hp _ (fresh_args ha hs)) fun E σ H hw => ?_
  obtain ⟨ρ, r, hw⟩ := hw
  refine fresh_read r (cs_mono (cs_bind hw) (fun ds h1 p vs H1 s1 hn hp np r1 => ?_) fun c q => q)
  rcases ds with _ | ⟨d, _ | ⟨d2, _ | ⟨d3, ds⟩⟩⟩
  · exact h1.elim
  · exact h1.elim
  · by_cases hl : i < ρ.length
    · have h2 : cs (if i < ρ.length then Rs.ok (Out.nx (((ρ.set i (some (.lst []))).set j (some d)).set k (some d2))) else .bad) _ _ := h1
      rw [if_pos hl] at h2
      obtain ⟨v, v', rfl, rv, rv'⟩ := rpall2 r1
      obtain ⟨r3, up⟩ := new_r r hio hl s1 hn hp np
      have r4 := r3.set (i := j) (by simp [hij, hjo]) (up rv)
      have hj' : j ∉ i :: own := by simp [hij, hjo]
      refine ⟨.ref p, v, v', rfl, h2 _ _ (r4.set (i := k) (by simp [hik, hko]) ?_)⟩
      rw [adr_set hj']
      exact up rv'
    · have h2 : cs (if i < ρ.length then Rs.ok (Out.nx (((ρ.set i (some (.lst []))).set j (some d)).set k (some d2))) else .bad) _ _ := h1
      rw [if_neg hl] at h2; exact h2.elim
  · exact h1.elim⟩
/-! raise -/
def sRaise (c : Nat) : Sl → Rs Out := fun _ => .ex c
theorem s_raise {ec : Nat → Addr} (c : Nat) {e : Expr} {own1 : List Nat} (tk : Takes X (wx ec W)) (hm : PMk X e (fun _ H Q => Q (.ref (ec c)) none H)) (hcm : X.calm = true := by rfl) : DS X W own (sRaise c) own1 ownB (.Raise (some e) none pos) := ⟨fun H0 => by
  refine ps_imp (ps_raise hcm tk hm) fun E σ H hw => ?_
  obtain ⟨ρ, r, hw⟩ := hw
  exact ⟨c, rfl, rfl, hw σ H (r.base.trans hide_same)⟩⟩
end
/-! ### a def -/
def initD (n : Nat) (ds : List D) : Sl := ds.map some ++ List.replicate (n - ds.length) none
def runF (np n : Nat) (S : Sl → Rs Out) (ds : List D) : Rs D := if ds.length = np then (S (initD n ds)).bind fun o => match o with
  | .nx _ => .ok .non
  | .rt d => .ok d
  | _ => .bad
  else .bad
theorem init_r {K : PySem.W.Frag} {H : Hp} {N : List Str} {vs : List V} {ds : List D} (ta : AllTab K H) (h : RpAll K H vs ds) : R K H [] (start N vs) H (initD N.length ds) := by
  have hl := h.length
  refine ⟨?_, fun i hi => (by cases hi), List.nodup_nil, ?_, fun i d _ e => ?_, by show AllTab K (hide [] H); rw [hide_nil]; exact ta⟩
  · unfold initD L2.start
    simp [hl]
  · show Same H (hide [] H)
    rw [hide_nil]; exact Same.refl H
  · show ∃ v, _ ∧ Rp K (hide [] H) v d
    rw [hide_nil]
    unfold initD at e
    by_cases hi : i < ds.length
    · rw [List.getElem?_append_left (by simpa using hi), List.getElem?_map] at e
      cases q : ds[i]? with
      | none => rw [q] at e; cases e
      | some d' =>
        rw [q] at e; cases e
        obtain ⟨v, e1, rv⟩ := h.get q
        refine ⟨v, ?_, rv⟩
        unfold L2.start
        rw [List.getElem?_append_left (by simp; omega), List.getElem?_map, e1]
        rfl
    · rw [List.getElem?_append_right (by simpa using hi)] at e
      rw [List.getElem?_replicate] at e
      split at e <;> cases e
section
variable {P : Program} {w : World} {K : PySem.W.Frag} {mg : Str → Option Value} {base : Heap} {ec : Nat → Addr}
theorem mk_fn {x : Str} {params : Arguments} {body : List Stmt} {scope : Scope} {N ps : List Str} {k : Nat} {S : Sl → Rs Out} {own1 : List Nat} {f : Addr} {fd : FuncData} (F : FunD K x x params body scope [] [] f fd) (sc : FnScope N ps scope)
    (hb : ∀ (cdv : Value) (A : Around) (outer : List Env) (s : Shared) (H : Hp) (E : XK) (W : Wsh), Room k (A.deeper (envOfC x scope s.heap.objs.size f cdv)) →
      Takes (cxOf (L2.CX P w) P w K mg base N x scope f cdv A outer s H E) (wx ec W) → PassesOwn (model P w) (A.deeper (envOfC x scope s.heap.objs.size f cdv)) (envOfC x scope s.heap.objs.size f cdv) (cxOf (L2.CX P w) P w K mg base N x scope f cdv A outer s H E).xe →
      DSs (cxOf (L2.CX P w) P w K mg base N x scope f cdv A outer s H E) W [] S own1 [] body) : FnOk P w K mg base (L2.CX P w) (k + 1) f fd ps (spD K ec (runF ps.length N.length S)) := by
  refine F.ok sc (fun vs H Q E h => ?_) (fun cdv A outer s H vs Q E hr h => ?_)
  · obtain ⟨_, ds, r, h⟩ := h
    rw [r.length]
    unfold runF at h
    by_cases hl : ds.length = ps.length
    · exact hl
    · rw [if_neg hl] at h; exact h.elim
  · obtain ⟨ta, ds, r, h⟩ := h
    unfold runF at h
    by_cases hl : ds.length = ps.length
    · rw [if_pos hl] at h
      refine ⟨_, (hb cdv A outer s H E (fun c _ H' => E (.ref (ec c)) none H') hr ((takes_of rfl rfl rfl rfl).imp ?_) (passes_of rfl)).ps H, _, init_r ta r, cs_mono (cs_bind h) (fun o h1 => ?_) fun c q σ' H' s => q H' s⟩
      · rintro c d σ H' ⟨n, rfl, rfl, z⟩
        exact z
      · cases o with
        | nx ρ => exact fun σ' H' r' => h1 .non H' (r'.base.trans hide_same) .non
        | rt d => exact h1
        | bk ρ => exact h1.elim
        | ct ρ => exact h1.elim
    · rw [if_neg hl] at h; exact h.elim
end
end PB

namespace PB
open PySem PySem.Spec PyProof.Rows L2
section
variable {X : Cx} {W : Wsh} {a b c : Expr} {F G G' : Sl → Rs D} {pos : Pos} {k : Nat}
theorem c_lt (ha : PE X a (tE X.K W F)) (hb : PE X b (tE X.K W G)) : PT X (.Compare a [.Lt] [b] pos) (tT X.K W (cE (eBin dLt F G))) := c_cmp op_lt (od_I0 fun _ _ _ => .bl _) ha hb (nomark _)
theorem c_le (ha : PE X a (tE X.K W F)) (hb : PE X b (tE X.K W G)) : PT X (.Compare a [.LtE] [b] pos) (tT X.K W (cE (eBin dLe F G))) := c_cmp op_le (od_I0 fun _ _ _ => .bl _) ha hb (nomark _)
theorem c_gt (ha : PE X a (tE X.K W F)) (hb : PE X b (tE X.K W G)) : PT X (.Compare a [.Gt] [b] pos) (tT X.K W (cE (eBin dGt F G))) := c_cmp op_gt (od_I0 fun _ _ _ => .bl _) ha hb (nomark _)
theorem c_ge (ha : PE X a (tE X.K W F)) (hb : PE X b (tE X.K W G)) : PT X (.Compare a [.GtE] [b] pos) (tT X.K W (cE (eBin dGe F G))) := c_cmp op_ge (od_I0 fun _ _ _ => .bl _) ha hb (nomark _)
theorem c_eq (hr : Room k X.A) (ha : PE X a (tE X.K W F)) (hb : PE X b (tE X.K W G)) : PT X (.Compare a [.Eq] [b] pos) (tT X.K W (cE (eBin dEq F G))) := c_cmp (op_eqD hr.units) od_eq ha hb (nomark _)
theorem c_ne (hr : Room k X.A) (ha : PE X a (tE X.K W F)) (hb : PE X b (tE X.K W G)) : PT X (.Compare a [.NotEq] [b] pos) (tT X.K W (cE (eBin dNe F G))) := c_cmp (op_neD hr.units) od_ne ha hb (nomark _)
theorem c_in (hr : Room k X.A) (ha : PE X a (tE X.K W F)) (hb : PE X b (tE X.K W G)) (hm : behindInMarks .In b = false := by rfl) : PT X (.Compare a [.In] [b] pos) (tT X.K W (cE (eBin dIn F G))) := c_cmp (OpR.or (op_inD (room65 hr)) op_in_seq) od_in ha hb hm
theorem c_notIn (hr : Room k X.A) (ha : PE X a (tE X.K W F)) (hb : PE X b (tE X.K W G)) (hm : behindInMarks .NotIn b = false := by rfl) : PT X (.Compare a [.NotIn] [b] pos) (tT X.K W (cE (eBin dNotIn F G))) := c_cmp (OpR.or (op_notInD (room65 hr)) op_notIn_seq) od_notIn ha hb hm
theorem c_is (ha : PE X a (tE X.K W F)) (hb : PE X b (tE X.K W G)) : PT X (.Compare a [.Is] [b] pos) (tT X.K W (cE (eBin dIsN F G))) := c_cmp (OpR.or op_isN op_isBl) od_isN ha hb (nomark _)
theorem c_isnot (ha : PE X a (tE X.K W F)) (hb : PE X b (tE X.K W G)) : PT X (.Compare a [.IsNot] [b] pos) (tT X.K W (cE (eBin dNotN F G))) := c_cmp (OpR.or op_notN op_notBl) od_notN ha hb (nomark _)
theorem t_chain {K : PySem.W.Frag} {r r' : R2} {g g' : D → D → Option D} (hg : OpD K r g) (hg' : OpD K r' g') {σ : L2.St} {H : Hp} {Q : VK} (h : tE K W (eChain g g' F G G') σ H Q) : tChain r r' (tE K W F) (tE K W G) (tE K W G') σ H Q := by
  obtain ⟨ρ, rr, h⟩ := h
  refine ⟨ρ, rr, cs_mono (cs_bind h) (fun dx h1 v1 H1 s1 r1 => ?_) fun c q => q⟩
  refine ⟨ρ, rr.mono s1, cs_mono (cs_bind h1) (fun dy h2 v2 H2 s2 r2 => ?_) fun c q H' s => q H' (s1.trans s)⟩
  obtain ⟨z, e, h3⟩ := cs_of (cs_bind h2)
  refine hg v1 v2 dx dy z H2 _ (r1.mono s2) r2 e fun v H3 s3 r3 => ?_
  cases z with
  | bl k =>
    refine ⟨k, rp_bl r3, ?_⟩
    cases k with
    | true =>
      refine iteT ⟨ρ, (rr.mono s1).mono (s2.trans s3), cs_mono (cs_bind h3) (fun dw h4 v4 H4 s4 r4 => ?_) fun c q H' s => q H' ((s1.trans (s2.trans s3)).trans s)⟩
      obtain ⟨d, e2, h5⟩ := cs_of h4
      exact hg' v2 v4 dy dw d H4 Q (r2.mono (s3.trans s4)) r4 e2 fun v H' s r => h5 v H' ((s1.trans (s2.trans s3)).trans (s4.trans s)) r
    | false => exact iteF (h3 _ _ (s1.trans (s2.trans s3)) (.bl _))
  | _ => exact h3.elim
theorem c_chain {op op' : CmpOp} {r r' : R2} {g g' : D → D → Option D} (ho : OpR X (compareOp op) r) (ho' : OpR X (compareOp op') r') (hg : OpD X.K r g) (hg' : OpD X.K r' g') (ha : PE X a (tE X.K W F)) (hb : PE X b (tE X.K W G)) (hc : PE X c (tE X.K W G'))
    (hm : lastMarks [op, op'] [b, c] = false := by with_unfolding_all rfl) : PT X (.Compare a [op, op'] [b, c] pos) (tT X.K W (cE (eChain g g' F G G'))) := by
  refine pt_imp (pt_chain ho ho' ha hb hc hm) fun σ H Q hw => ?_
  refine t_chain hg hg' ?_
  obtain ⟨ρ, rr, hw⟩ := hw
  refine ⟨ρ, rr, cs_mono (cs_bind hw) (fun d h1 v H1 s1 r1 => ?_) fun c q => q⟩
  obtain ⟨b, e, h2⟩ := cs_of h1
  cases d <;> simp only [dB] at e <;> try contradiction
  cases e
  exact ⟨_, rp_bl r1, h2 H1 s1⟩
theorem c_lele (ha : PE X a (tE X.K W F)) (hb : PE X b (tE X.K W G)) (hc : PE X c (tE X.K W G')) (hm : lastMarks [.LtE, .LtE] [b, c] = false := by with_unfolding_all rfl) : PT X (.Compare a [.LtE, .LtE] [b, c] pos) (tT X.K W (cE (eChain dLe dLe F G G'))) :=
  c_chain op_le op_le (od_I0 fun _ _ _ => .bl _) (od_I0 fun _ _ _ => .bl _) ha hb hc hm
theorem c_ltle (ha : PE X a (tE X.K W F)) (hb : PE X b (tE X.K W G)) (hc : PE X c (tE X.K W G')) (hm : lastMarks [.Lt, .LtE] [b, c] = false := by with_unfolding_all rfl) : PT X (.Compare a [.Lt, .LtE] [b, c] pos) (tT X.K W (cE (eChain dLt dLe F G G'))) :=
  c_chain op_lt op_le (od_I0 fun _ _ _ => .bl _) (od_I0 fun _ _ _ => .bl _) ha hb hc hm
theorem c_ltlt (ha : PE X a (tE X.K W F)) (hb : PE X b (tE X.K W G)) (hc : PE X c (tE X.K W G')) (hm : lastMarks [.Lt, .Lt] [b, c] = false := by with_unfolding_all rfl) : PT X (.Compare a [.Lt, .Lt] [b, c] pos) (tT X.K W (cE (eChain dLt dLt F G G'))) :=
  c_chain op_lt op_lt (od_I0 fun _ _ _ => .bl _) (od_I0 fun _ _ _ => .bl _) ha hb hc hm
theorem c_lelt (ha : PE X a (tE X.K W F)) (hb : PE X b (tE X.K W G)) (hc : PE X c (tE X.K W G')) (hm : lastMarks [.LtE, .Lt] [b, c] = false := by with_unfolding_all rfl) : PT X (.Compare a [.LtE, .Lt] [b, c] pos) (tT X.K W (cE (eChain dLe dLt F G G'))) :=
  c_chain op_le op_lt (od_I0 fun _ _ _ => .bl _) (od_I0 fun _ _ _ => .bl _) ha hb hc hm
theorem cw {C : Sl → Rs Bool} (h : PW X a (tT X.K W C)) : PT X a (tT X.K W C) := h.pt
end
/-! ### what the head tells, by names -/
structure Tx (fa : List He.Fa) (fn : List He.DefD) (K : PySem.W.Frag) (mg : Str → Option Value) : Prop where
  ex : ∃ h : Heap, K.In h ∧ h.Ns mainGlobals mg
  c : He.SaysD fa fn K
section
variable {fa : List He.Fa} {fn : List He.DefD} {K : PySem.W.Frag} {mg : Str → Option Value}
theorem tx_glo (T : Tx fa fn K mg) (i : Nat) {x : Str} (h : fa[i]? = some (.glo x)) : mg x = some (.ref (He.ga K x)) := by
  obtain ⟨hp, X, G⟩ := T.ex
  exact He.glo_ok X G (T.c.fact i h)
theorem tx_free (T : Tx fa fn K mg) (i : Nat) {x : Str} (h : fa[i]? = some (.free x)) : mg x = none := by
  obtain ⟨hp, X, G⟩ := T.ex
  exact He.free_ok X G (T.c.fact i h)
theorem tx_int (T : Tx fa fn K mg) (i : Nat) {x : Str} {n : Int} (h : fa[i]? = some (.int x n)) : ∃ t, mg x = some (.int n t) := by
  obtain ⟨hp, X, G⟩ := T.ex
  exact He.int_ok X G (T.c.fact i h)
theorem tx_str (T : Tx fa fn K mg) (i : Nat) {x n : Str} (h : fa[i]? = some (.str x n)) : ∃ t, mg x = some (.str n t) := by
  obtain ⟨hp, X, G⟩ := T.ex
  exact He.str_ok X G (T.c.fact i h)
theorem tx_mk (T : Tx fa fn K mg) (i j : Nat) {X : Cx} (eK : X.K = K) (eM : X.mg = mg) {x m : Str} {jj : Nat} {p p2 pos : Pos} (h : fa[i]? = some (.exc x)) (h2 : fa[j]? = some (.glo x)) (hg : Gl X x := by rfl) (hdb : (x == ("__debug__" : Str)) = false := by decide) :
    PMk X (.Call (.Name x p) [.Constant (.str m) jj p2] [] pos) (fun _ H Q => Q (.ref (He.ga K x)) none H) := by
  subst eK eM
  obtain ⟨a, b, c, d⟩ := He.exc_ok (T.c.fact i h)
  exact pmk_own PySem.F.excBase_ValueError a (tx_glo T j h2) b (raises_own c d) hg hdb
end
theorem law_fn {P : Program} {w : World} {K : PySem.W.Frag} {mg : Str → Option Value} {base : Heap} {k : Nat} {f : Addr} {fd : FuncData} {ps : List Str} {sp : Sp} (F : FnOk P w K mg base (L2.CX P w) k f fd ps sp) :
    FnOk P w K mg base CX0 k f fd ps (fun vs H Q _ => sp vs H Q fun _ _ _ => False) := by
  refine ⟨fun vs H Q E h => F.len _ _ _ _ h, fun A outer s H args us vs Q E hr e0 hb r h => codeAny_mono (F.run A outer s H args us vs Q _ hr e0 hb r h) fun r s' q => ?_⟩
  cases r with
  | ok fl => cases fl <;> exact q
  | error e =>
    obtain ⟨_, _, _, _, _, _, _, _, _, _, _, _, z⟩ := q
    exact z.elim
end PB

namespace PB
open PySem PySem.Spec PyProof.Rows L2

/-! ### a call of a def that stands in a list display -/
inductive FX (X : Cx) (ec : Nat → Addr) (k : Nat) : List Expr → List Addr → List (List D → Rs D) → Prop
  | nil : FX X ec k [] [] []
  | cons {j : Nat} {x : Str} {ps : List Str} {m : List D → Rs D} {es : List Expr} {fs : List Addr} {ms : List (List D → Rs D)} {p : Pos} : FOk X.prog X.w X.K X.mg X.base ec j x ps m → j ≤ k → Gl X x → (x == ("__debug__" : Str)) = false → FX X ec k es fs ms → FX X ec k (.Name x p :: es) (He.ga X.K x :: fs) (m :: ms)
section
variable {X : Cx} {ec : Nat → Addr} {k : Nat} {W : Wsh}
theorem FX.pa {es : List Expr} {fs : List Addr} {ms : List (List D → Rs D)} (h : FX X ec k es fs ms) : PA X es (fun σ H Q => Q (fs.map V.ref) H) := by
  induction h with
  | nil => exact pa_nil
  | cons o _ hg hd _ ih => exact pa_cons (pe_glob (v := .ref (He.ga X.K _)) hg o.mg_ rfl hd) ih rfl
theorem FX.at_ {es : List Expr} {fs : List Addr} {ms : List (List D → Rs D)} (h : FX X ec k es fs ms) : ∀ (i : Nat) (m : List D → Rs D), ms[i]? = some m → ∃ (f : Addr) (fd : FuncData) (ps : List Str) (j : Nat), fs[i]? = some f ∧ FnOk X.prog X.w X.K X.mg X.base (L2.CX X.prog X.w) j f fd ps (spD X.K ec m) ∧ Binds X.K fd ps [] ∧ j ≤ k ∧ PySem.W.keepIn X.K (.ref f) = true := by
  induction h with
  | nil => intro i m e; cases e
  | cons o hj _ _ _ ih =>
    intro i m e
    cases i with
    | zero =>
      cases e
      obtain ⟨fd, F, B⟩ := o.ex
      exact ⟨_, fd, _, _, rfl, F, B, hj, o.kp⟩
    | succ i => exact ih i m e
theorem FX.len {es : List Expr} {fs : List Addr} {ms : List (List D → Rs D)} (h : FX X ec k es fs ms) : fs.length = ms.length := by
  induction h with
  | nil => rfl
  | cons _ _ _ _ _ ih => simp [ih]
def eFix (ms : List (List D → Rs D)) (G : Sl → Rs D) (A : Sl → Rs (List D)) : Sl → Rs D := fun ρ => (G ρ).bind fun d => match d with
  | .int i => (match atI ms i with
    | some m => (A ρ).bind m
    | none => .bad)
  | _ => .bad
theorem e_callIx {es : List Expr} {fs : List Addr} {ms : List (List D → Rs D)} {ie e : Expr} {as : List Expr} {G : Sl → Rs D} {A : Sl → Rs (List D)} {lp sp pos : Pos} (O : FX X ec k es fs ms) (hr : Room k X.A) (tk : Takes X (wx ec W)) (hi : PE X ie (tE X.K W G)) (ha : PA X (e :: as) (tA X.K W A)) (hl : ms.length ≤ 1000 := by decide) (hs : PlainIx ie := by exact fun _ _ => rfl)
    (ht : eval (.Call (.Subscript (.List es lp) ie sp) (e :: as) [] pos) X.env = (do callWith pos (← eval (.Subscript (.List es lp) ie sp) X.env) [] (backTo pos (starEach (e :: as) X.env)) (backToKw pos (keywordEach [] X.env))) := by rfl)
    (he : starEach (e :: as) X.env = (false, eval e X.env) :: starEach as X.env := by rfl) (hpl : (backTo pos (starEach as X.env)).any (·.1) = false := by rfl) : PE X (.Call (.Subscript (.List es lp) ie sp) (e :: as) [] pos) (tE X.K W (eFix ms G A)) := by
  refine ⟨fun pins s σ H Q I h => ?_⟩
  obtain ⟨ρ, rr, h⟩ := h
  have hf := pe_ix (pos := sp) ix_list (pe_lst (pos := lp) O.pa) hi hs
  refine Call_ (thn (hf.run pins s σ H (fun v H2 => ∃ f fd ps j m, v = .ref f ∧ FnOk X.prog X.w X.K X.mg X.base (L2.CX X.prog X.w) j f fd ps (spD X.K ec m) ∧ Binds X.K fd ps [] ∧ j ≤ k ∧ PySem.W.keepIn X.K (.ref f) = true ∧ Same H H2 ∧ cs ((A ρ).bind m) (fun d => ∀ v H', Same H H' → Rp X.K H' v d → Q v H') (fun c => ∀ H', Same H H' → W c σ H')) I ?_) fun u s1 ⟨y, H1, I1, ry, f, fd, ps, j, m, ey, F, B, hj, hk, s12, q⟩ => ?_) ht
  · refine ⟨by rw [List.length_map, O.len]; exact lb_le (Nat.le_trans hl (by decide)), fun p hp => ?_⟩
    have s1 : Same H (upd H p (.lst (fs.map V.ref))) := same_new hp
    refine ⟨ρ, rr.mono s1, cs_mono (cs_bind h) (fun d h1 v H2 s2 r2 => ?_) fun c q H' s => q H' (s1.trans s)⟩
    cases d with
    | int i =>
      cases r2
      have h2 : cs (match atI ms i with | some m => (A ρ).bind m | none => .bad) _ _ := h1
      cases em : atI ms i with
      | none => rw [em] at h2; exact h2.elim
      | some m =>
        rw [em] at h2
        obtain ⟨n, hn, hm⟩ : ∃ n, ixN ms.length i = some n ∧ ms[n]? = some m := by
          unfold atI at em
          cases e1 : ixN ms.length i with
          | none => rw [e1] at em; cases em
          | some n => rw [e1] at em; exact ⟨n, rfl, em⟩
        obtain ⟨f, fd, ps, j, ef, F, B, hj, hk⟩ := O.at_ n m hm
        refine ⟨p, fs.map V.ref, i, .ref f, rfl, rfl, .of (s2 _ _ upd_same), ?_, f, fd, ps, j, m, rfl, F, B, hj, hk, s1.trans s2, h2⟩
        unfold atI
        rw [List.length_map, O.len, hn]
        show (fs.map V.ref)[n]? = some (.ref f)
        rw [List.getElem?_map, ef]
        rfl
    | _ => exact h1.elim
  · subst ey
    obtain rfl : u = Value.ref f := ry
    refine PySem.W.callWith_K (h₀ := X.base) I.ok.mod.kin hk (thn (ha.run pos pins s1 σ H1 (fun vs H2 => spD X.K ec m vs H2 Q (fun cls d H' => wx ec W cls d σ H')) I1 ?_) fun us s2 ⟨vs, H2, I2, r, q2⟩ => ⟨I2.kIn, ?_⟩) he hpl
    · refine ⟨ρ, rr.mono s12, cs_mono (cs_bind q) (fun ds h1 vs H2 s2 r2 => ?_) fun c q H' s => q H' (s12.trans s)⟩
      exact ⟨rr.1.2.mono (s12.trans s2), ds, r2, cs_mono h1 (fun d h2 v H' s r => h2 v H' ((s12.trans s2).trans s) r) fun c q H' s => ⟨c, rfl, rfl, q H' ((s12.trans s2).trans s)⟩⟩
    · exact run_fnS (E := fun σ cls d H' => wx ec W cls d σ H') F (hr.mono hj) B (passAt tk σ) I2 r q2
end

/-! ### try .. except X as n: return [isinstance(n, C), ..].index(True) -/
structure ExF (K : PySem.W.Frag) (ec : Nat → Addr) (cl : List Nat) : Prop where
  c : ∀ a ∈ cl, ExcC K (ec a)
  k : ∀ a ∈ cl, ∀ b ∈ cl, PySem.W.kitOne K (.ref (ec a)) (.ref (ec b)) = some (a == b)
  m : ∀ a ∈ cl, PySem.W.exmOne K (.ref (ec a)) (.ref (ec 0)) = some true
inductive IsL (X : Cx) (nm : Str) (ec : Nat → Addr) : List Expr → List Nat → Prop
  | nil : IsL X nm ec [] []
  | cons {C : Str} {c : Nat} {es : List Expr} {cl : List Nat} {p p2 p3 pos : Pos} : Gl X C → X.mg C = some (.ref (ec c)) → (C == ("__debug__" : Str)) = false → IsL X nm ec es cl → IsL X nm ec (.Call (.Name "isinstance" p) [.Name nm p2, .Name C p3] [] pos :: es) (c :: cl)
def sTryIx (S : Sl → Rs Out) (cl : List Nat) : Sl → Rs Out := fun ρ => match S ρ with
  | .ok o => .ok o
  | .ex c => (match cl.findIdx? (fun a => c == a) with
    | some j => .ok (.rt (.int (j : Nat)))
    | none => .bad)
  | .bad => .bad
section
variable {X : Cx} {ec : Nat → Addr} {nm : Str} {i : Nat}
theorem IsL.pa {es : List Expr} {cl : List Nat} (h : IsL X nm ec es cl) {a : Addr} {oe : Obj} {pn : List (Addr × Obj)} {c : Nat} (C : ExcC X.K (ec c)) (hz : Zc (.ref (ec c)) none oe) (hf : ∃ vs, oe.data = .fields vs) (kk : ∀ b ∈ cl, PySem.W.kitOne X.K (.ref (ec c)) (.ref (ec b)) = some (c == b))
    (hN : X.N[i]? = some nm) (hv : Vis X.env.scope nm) (hd : (nm == ("__debug__" : Str)) = false) (hcd : (nm == ("__classdict__" : Str)) = false) (hg : Gl X "isinstance") (hm : X.mg "isinstance" = none) :
    PA (X.suite a ((a, oe) :: pn)) es (fun σ H Q => σ[i]? = some (some (.ref a)) ∧ Q (cl.map fun b => V.bl (c == b)) H) := by
  induction h with
  | nil => exact ⟨fun pos pins s σ H Q I h => pa_nil.run pos pins s σ H Q I h.2⟩
  | @cons Cn b es cl p p2 p3 pos hgC hmC hdC _ ih =>
    have ih := ih fun b hb => kk b (by simp [hb])
    have hx : PE (X.suite a ((a, oe) :: pn)) (.Call (.Name "isinstance" p) [.Name nm p2, .Name Cn p3] [] pos) (fun σ H Q => σ[i]? = some (some (.ref a)) ∧ Q (.bl (c == b)) H) := by
      refine pe_imp (pe_callB (X := X.suite a ((a, oe) :: pn)) (call_isE C hz hf) hg hm (by decide +kernel) (pa_cons (pe_var (X := X.suite a ((a, oe) :: pn)) (i := i) hN hv hd hcd) (pa_cons (pe_glob (X := X.suite a ((a, oe) :: pn)) (v := .ref (ec b)) hgC hmC rfl hdC) pa_nil rfl) rfl) (he := rfl) (hpl := rfl)) fun σ H Q h => ?_
      exact ⟨.ref a, h.1, .ref (ec b), .ref (ec b), c == b, rfl, fun u r => by cases r; rfl, kk b (by simp), h.2⟩
    refine ⟨fun pos pins s σ H Q I h => (pa_cons hx ih rfl).run pos pins s σ H Q I ?_⟩
    exact ⟨h.1, h.1, h.2⟩
/-- what the suite wishes -/
def tsIx (ec : Nat → Addr) (cl : List Nat) (i : Nat) (a : Addr) (cls : Value) (d : Option Addr) : TS := fun D σ H => ∃ c j, c ∈ cl ∧ cls = .ref (ec c) ∧ d = none ∧ cl.findIdx? (fun b => c == b) = some j ∧ (∃ σ0 : L2.St, σ = σ0.set i (some (.ref a))) ∧ ∀ H', Same H H' → D.rt (.int (j : Nat)) H'
theorem try_read {K : PySem.W.Frag} {W : Wsh} {H0 : Hp} {S : Sl → Rs Out} {cl ownB : List Nat} {E : Ends} {σ : L2.St} {H : Hp} {i : Nat} {ec : Nat → Addr} (EX : ExF K ec cl) (hw : tS K W H0 [] (sTryIx S cl) [] ownB E σ H) : tS K (fun c σ H => wAs K (.ref (ec 0)) i (tsIx ec cl i) (fun _ _ _ _ => False) E (.ref (ec c)) none σ H) H0 [] S [] ownB E σ H := by
  obtain ⟨ρ, r, hw⟩ := hw
  refine ⟨ρ, r, ?_⟩
  unfold sTryIx at hw
  cases e : S ρ with
  | ok o =>
    rw [e] at hw
    cases o with
    | nx ρ' => exact hw
    | rt d => exact hw
    | bk ρ' => exact hw
    | ct ρ' => exact hw
  | bad => rw [e] at hw; exact hw.elim
  | ex c =>
    rw [e] at hw
    cases ej : cl.findIdx? (fun b => c == b) with
    | none =>
      simp only [ej] at hw
      exact hw.elim
    | some j =>
      simp only [ej] at hw
      have hcm : c ∈ cl := by
        obtain ⟨hjl, hj3, _⟩ := List.findIdx?_eq_some_iff_getElem.1 ej
        have : c = cl[j] := eq_of_beq hj3
        rw [this]; exact List.getElem_mem _
      intro σ' H' sm
      exact ⟨true, EX.m c hcm, fun _ a ha => ⟨c, j, hcm, rfl, rfl, ej, ⟨σ', rfl⟩, fun H2 s2 => hw _ _ (sm.trans s2) (.int _)⟩, fun q => Bool.noConfusion q⟩
theorem s_tryIx {W : Wsh} {S : Sl → Rs Out} {body : List Stmt} {x : Str} {els : List Expr} {cl ownB : List Nat} {np lp ap cp rp pt pos pos' : Pos} {jt : Nat} (i : Nat) (EX : ExF X.K ec cl) (L : IsL X nm ec els cl) (hm : X.mg "isinstance" = none) (hcx : X.mg x = some (.ref (ec 0)))
    (hb : ∀ (W' : Wsh) (pn : List (Addr × Obj)) (xe : Value → Shared → Prop), Takes (X.tr pn xe) (wx ec W') → DSs (X.tr pn xe) W' [] S [] ownB body)
    (hN : X.N[i]? = some nm := by rfl) (hnd : X.N.Nodup := by decide) (hln : X.env.kindOf nm = some .local := by rfl) (hgx : Gl X x := by rfl) (hdx : (x == ("__debug__" : Str)) = false := by decide)
    (hd : (nm == ("__debug__" : Str)) = false := by decide) (hcd : (nm == ("__classdict__" : Str)) = false := by decide) (hg : Gl X "isinstance" := by rfl)
    (hs : X.stack = X.env :: X.outer := by rfl) (hf : X.env.frame = some X.env.locals := by rfl) (hl : cl.length ≤ 1000 := by decide) (hline : (ap.endLine == cp.line) = true := by rfl)
    (hv : Vis X.env.scope nm := by first | exact Or.inl rfl | exact Or.inr (Or.inl rfl) | exact Or.inr (Or.inr rfl)) :
    DS X W [] (sTryIx S cl) [] ownB (.Try body [.ExceptHandler (some (.Name x np)) (some nm) [.Return (some (.Call (.Attribute (.List els lp) "index" ap) [.Constant (.bool true) jt pt] [] cp)) rp] pos'] [] [] pos) := ⟨fun H0 => by
  have hsu : ∀ (a : Addr) (oe : Obj) (cls : Value) (d : Option Addr) (pn : List (Addr × Obj)), Zc cls d oe → (∃ vs, oe.data = .fields vs) → PSs (X.suite a ((a, oe) :: pn)) [.Return (some (.Call (.Attribute (.List els lp) "index" ap) [.Constant (.bool true) jt pt] [] cp)) rp] (tsIx ec cl i a cls d) := by
    intro a oe cls d pn hz hfd
    refine ⟨fun pins s σ H D I h => ?_⟩
    obtain ⟨c, j, hcm, rfl, rfl, hj, ⟨σ0, rfl⟩, h⟩ := h
    have hlen := I.len
    have hii : i < X.N.length := by
      rcases Nat.lt_or_ge i X.N.length with q | q
      · exact q
      · rw [List.getElem?_eq_none q] at hN; cases hN
    have hget : (σ0.set i (some (V.ref a)))[i]? = some (some (V.ref a)) := by
      rw [List.getElem?_set_self]
      rw [List.length_set] at hlen
      rw [hlen]; exact hii
    have pa := L.pa (i := i) (a := a) (oe := oe) (pn := pn) (EX.c c hcm) hz hfd (EX.k c hcm) hN hv hd hcd hg hm
    refine (pss_one (ps_ret (pos := rp) (pe_bm (X := X.suite a ((a, oe) :: pn)) PySem.F.plainAttrs_list PySem.F.slot_list_index PySem.F.type_list_index mt_index (pe_lst (pos := lp) pa) (pa_cons pe_bl pa_nil rfl) (hbase := rfl) (hfew := rfl) (hline := hline) (hs := rfl) (hplain := rfl)))).run pins s _ H D I ?_
    refine ⟨hget, lb_le (by rw [List.length_map]; exact Nat.le_trans hl (by decide)), fun p hp => ⟨.inl ⟨rfl, _, .of upd_same⟩, ?_⟩⟩
    have hj2 := List.findIdx?_eq_some_iff_getElem.1 hj
    obtain ⟨hjl, hj3, hj4⟩ := hj2
    refine ⟨p, _, .bl true, j, .bl true, rfl, rfl, .of upd_same, rfl, ?_, ?_, rfl, ?_, h _ (same_new hp)⟩
    · rw [List.all_eq_true]
      intro y hy
      obtain ⟨b, _, rfl⟩ := List.mem_map.1 hy
      rfl
    · rw [List.getElem?_map, List.getElem?_eq_getElem hjl]
      simp only [Option.map_some, hj3]
    · intro m z hm2 hz2
      have q := hj4 m hm2
      rw [List.getElem?_map, List.getElem?_eq_getElem (by omega)] at hz2
      simp only [Option.map_some, Option.some.injEq] at hz2
      subst hz2
      have q2 : (c == cl[m]) = false := by
        cases e : (c == cl[m]) with
        | false => rfl
        | true => exact absurd e q
      rw [q2]
      rfl
  refine ps_imp (ps_try_as (X := X) (i := i) (c := .ref (ec 0)) (tb := fun W0 => tS X.K (fun c σ H => W0 (.ref (ec c)) none σ H) H0 [] S [] ownB) (ts := tsIx ec cl i) (Wout := fun _ _ _ _ => False) hs hf hnd hN hln ⟨hgx, hdx, .inl hcx⟩ takes0 (fun W1 pn xe tk _ => (hb (fun c σ H => W1 (.ref (ec c)) none σ H) pn xe (tk.imp fun cls d σ H ⟨c, e1, e2, w⟩ => by rw [e1, e2]; exact w)).ps H0) hsu) fun E σ H hw => ?_
  exact try_read EX hw⟩
end
/-! ### the facts of own exceptions, as a Bool -/
def excCB (K : PySem.W.Frag) (D : Addr) : Bool :=
  He.eqO (PySem.W.findIn K (.ref D) "__getattribute__") (some (some (.builtin "BaseException.__getattribute__"))) && (He.eqO (PySem.W.findIn K (.ref D) "__getattr__") (some none) && (decide (PySem.W.subIn K (.ref D) (.type "BaseException") = some true) && (PySem.W.hasDictIn K D &&
  (He.eqO (PySem.W.findIn K (.ref D) "__class__") (some (some (.builtin "object.__class__"))) && (He.eqO (PySem.W.specialIn K (.builtin "object.__class__") "__get__") (some (some (.builtin "getset_descriptor.__get__"))) && (decide (PySem.W.takesIn K (.builtin "object.__class__") = some true) && decide (PySem.W.mroIn K D (.type "object") = some true)))))))
theorem excCB_ok {K : PySem.W.Frag} {D : Addr} (h : excCB K D = true) : ExcC K D := by
  obtain ⟨h1, h⟩ := He.ba h
  obtain ⟨h2, h⟩ := He.ba h
  obtain ⟨h3, h⟩ := He.ba h
  obtain ⟨h4, h⟩ := He.ba h
  obtain ⟨h5, h⟩ := He.ba h
  obtain ⟨h6, h⟩ := He.ba h
  obtain ⟨h7, h8⟩ := He.ba h
  exact ⟨He.eqO_ok h1, He.eqO_ok h2, of_decide_eq_true h3, h4, He.eqO_ok h5, He.eqO_ok h6, of_decide_eq_true h7, of_decide_eq_true h8⟩
def exB (l : List Str) (K : PySem.W.Frag) : Bool := l.all fun x => excCB K (He.ga K x) && (decide (PySem.W.exmOne K (.ref (He.ga K x)) (.ref (He.ga K "PageError")) = some true) && l.all fun y => decide (PySem.W.kitOne K (.ref (He.ga K x)) (.ref (He.ga K y)) = some (x == y)))
theorem exf_of {l excN : List Str} {K : PySem.W.Frag} {cl : List Nat} (Z : exB l K = true) (h0 : excN.getD 0 "" = "PageError") (h1 : (cl.all fun a => l.contains (excN.getD a "")) = true) (h2 : (cl.all fun a => cl.all fun b => (excN.getD a "" == excN.getD b "") == (a == b)) = true) : ExF K (fun c => He.ga K (excN.getD c "")) cl := by
  have key : ∀ a ∈ cl, _ := fun a ha => He.ba (List.all_eq_true.1 Z (excN.getD a "") (List.contains_iff_mem.1 (List.all_eq_true.1 h1 a ha)))
  refine ⟨fun a ha => excCB_ok (key a ha).1, fun a ha b hb => ?_, fun a ha => ?_⟩
  · have q := of_decide_eq_true (List.all_eq_true.1 (He.ba (key a ha).2).2 (excN.getD b "") (List.contains_iff_mem.1 (List.all_eq_true.1 h1 b hb)))
    have e := eq_of_beq (List.all_eq_true.1 (List.all_eq_true.1 h2 a ha) b hb)
    rw [e] at q
    exact q
  · have q := of_decide_eq_true (He.ba (key a ha).2).1
    show PySem.W.exmOne K (.ref (He.ga K (excN.getD a ""))) (.ref (He.ga K (excN.getD 0 ""))) = some true
    rw [h0]
    exact q
end PB

namespace PB
open PySem PySem.Spec PyProof.Rows L2

/-! ### try .. except X as n: flags = [..]; flags = flags + [..]; return (flags + [..]).index(True) -/
section
variable {X : Cx} {ec : Nat → Addr} {nm fl : Str}
theorem s_tryFl {W : Wsh} {S : Sl → Rs Out} {body : List Stmt} {x : Str} {els1 els2 els3 : List Expr} {cl1 cl2 cl3 ownB : List Nat} {np l1 l2 l3 a1 a2 f1 f2 f3 f4 b2 b3 ap cp rp pt pos pos' : Pos} {jt : Nat} (i fi : Nat) (EX : ExF X.K ec (cl1 ++ (cl2 ++ cl3))) (L1 : IsL X nm ec els1 cl1) (L2' : IsL X nm ec els2 cl2) (L3 : IsL X nm ec els3 cl3) (hm : X.mg "isinstance" = none) (hcx : X.mg x = some (.ref (ec 0)))
    (hb : ∀ (W' : Wsh) (pn : List (Addr × Obj)) (xe : Value → Shared → Prop), Takes (X.tr pn xe) (wx ec W') → DSs (X.tr pn xe) W' [] S [] ownB body)
    (hnd : X.N.Nodup) (hne : fi ≠ i := by decide) (hN : X.N[i]? = some nm := by rfl) (hNf : X.N[fi]? = some fl := by rfl) (hln : X.env.kindOf nm = some .local := by rfl) (hlf : X.env.kindOf fl = some .local := by rfl) (hgx : Gl X x := by rfl) (hdx : (x == ("__debug__" : Str)) = false := by decide)
    (hd : (nm == ("__debug__" : Str)) = false := by decide) (hcd : (nm == ("__classdict__" : Str)) = false := by decide) (hdf : (fl == ("__debug__" : Str)) = false := by decide) (hcf : (fl == ("__classdict__" : Str)) = false := by decide) (hg : Gl X "isinstance" := by rfl)
    (hs : X.stack = X.env :: X.outer := by rfl) (hf : X.env.frame = some X.env.locals := by rfl) (hl : (cl1 ++ (cl2 ++ cl3)).length ≤ 1000 := by decide) (hline : (ap.endLine == cp.line) = true := by rfl)
    (hv : Vis X.env.scope nm := by first | exact Or.inl rfl | exact Or.inr (Or.inl rfl) | exact Or.inr (Or.inr rfl)) (hvf : Vis X.env.scope fl := by first | exact Or.inl rfl | exact Or.inr (Or.inl rfl) | exact Or.inr (Or.inr rfl))
    (hw1 : swapsWith (.List els1 l1) (some (.Name fl f1)) a1.line X.env = pure false := by rfl) (hw2 : swapsWith (.BinOp (.Name fl f3) .Add (.List els2 l2) b2) (some (.Name fl f2)) a2.line X.env = pure false := by rfl) :
    DS X W [] (sTryIx S (cl1 ++ (cl2 ++ cl3))) [] ownB (.Try body [.ExceptHandler (some (.Name x np)) (some nm) [.Assign [.Name fl f1] (.List els1 l1) a1, .Assign [.Name fl f2] (.BinOp (.Name fl f3) .Add (.List els2 l2) b2) a2, .Return (some (.Call (.Attribute (.BinOp (.Name fl f4) .Add (.List els3 l3) b3) "index" ap) [.Constant (.bool true) jt pt] [] cp)) rp] pos'] [] [] pos) := ⟨fun H0 => by
  have hsu : ∀ (a : Addr) (oe : Obj) (cls : Value) (d : Option Addr) (pn : List (Addr × Obj)), Zc cls d oe → (∃ vs, oe.data = .fields vs) → PSs (X.suite a ((a, oe) :: pn)) [.Assign [.Name fl f1] (.List els1 l1) a1, .Assign [.Name fl f2] (.BinOp (.Name fl f3) .Add (.List els2 l2) b2) a2, .Return (some (.Call (.Attribute (.BinOp (.Name fl f4) .Add (.List els3 l3) b3) "index" ap) [.Constant (.bool true) jt pt] [] cp)) rp] (tsIx ec (cl1 ++ (cl2 ++ cl3)) i a cls d) := by
    intro a oe cls d pn hz hfd
    refine ⟨fun pins s σ H D I h => ?_⟩
    obtain ⟨c, j, hcm, rfl, rfl, hj, ⟨σ0, rfl⟩, h⟩ := h
    have hlen := I.len
    rw [List.length_set] at hlen
    have hii : ∀ {k : Nat} {z : Str}, X.N[k]? = some z → k < σ0.length := by
      intro k z hk
      rw [hlen]
      rcases Nat.lt_or_ge k X.N.length with q | q
      · exact q
      · rw [List.getElem?_eq_none q] at hk; cases hk
    have get1 : (σ0.set i (some (V.ref a)))[i]? = some (some (V.ref a)) := List.getElem?_set_self (hii hN)
    have get2 : ∀ p, ((σ0.set i (some (V.ref a))).set fi (some (V.ref p)))[i]? = some (some (V.ref a)) := fun p => by
      rw [List.getElem?_set_ne hne]; exact get1
    have get3 : ∀ p, ((σ0.set i (some (V.ref a))).set fi (some (V.ref p)))[fi]? = some (some (V.ref p)) := fun p => List.getElem?_set_self (by rw [List.length_set]; exact hii hNf)
    have get4 : ∀ p q, (((σ0.set i (some (V.ref a))).set fi (some (V.ref p))).set fi (some (V.ref q)))[i]? = some (some (V.ref a)) := fun p q => by
      rw [List.getElem?_set_ne hne]; exact get2 p
    have get5 : ∀ p q, (((σ0.set i (some (V.ref a))).set fi (some (V.ref p))).set fi (some (V.ref q)))[fi]? = some (some (V.ref q)) := fun p q => List.getElem?_set_self (by rw [List.length_set, List.length_set]; exact hii hNf)
    have pa1 := L1.pa (i := i) (a := a) (oe := oe) (pn := pn) (EX.c c hcm) hz hfd (fun b hb => EX.k c hcm b (by simp [hb])) hN hv hd hcd hg hm
    have pa2 := L2'.pa (i := i) (a := a) (oe := oe) (pn := pn) (EX.c c hcm) hz hfd (fun b hb => EX.k c hcm b (by simp [hb])) hN hv hd hcd hg hm
    have pa3 := L3.pa (i := i) (a := a) (oe := oe) (pn := pn) (EX.c c hcm) hz hfd (fun b hb => EX.k c hcm b (by simp [hb])) hN hv hd hcd hg hm
    have pvf : ∀ pp, PE (X.suite a ((a, oe) :: pn)) (.Name fl pp) (tVar fi) := fun pp => pe_var (X := X.suite a ((a, oe) :: pn)) (pos := pp) hNf hvf hdf hcf
    have hl' : cl1.length + (cl2.length + cl3.length) ≤ 1000 := by simpa using hl
    have lb : ∀ n, n ≤ 1000 → n ≤ sizeLine := fun n hn => lb_le (Nat.le_trans hn (by decide))
    refine (pss_cons (ps_set (X := X.suite a ((a, oe) :: pn)) (i := fi) hnd hNf (.inl hlf) (pe_lst (pos := l1) pa1) hw1 (.inr hlf)) (pss_cons (ps_set (X := X.suite a ((a, oe) :: pn)) (i := fi) hnd hNf (.inl hlf) (pe_op (pos := b2) op_cat (pvf f3) (pe_lst (pos := l2) pa2)) hw2 (.inr hlf)) (pss_one (ps_ret (pos := rp) (pe_bm (X := X.suite a ((a, oe) :: pn)) PySem.F.plainAttrs_list PySem.F.slot_list_index PySem.F.type_list_index mt_index (pe_op (pos := b3) op_cat (pvf f4) (pe_lst (pos := l3) pa3)) (pa_cons pe_bl pa_nil rfl) (hbase := rfl) (hfew := rfl) (hline := hline) (hs := rfl) (hplain := rfl)))))).run pins s _ H D I ?_
    refine ⟨get1, lb _ (by rw [List.length_map]; omega), fun p1 hp1 => ?_⟩
    refine ⟨_, get3 p1, get2 p1, lb _ (by rw [List.length_map]; omega), fun p2 hp2 => ?_⟩
    refine ⟨p1, p2, _, _, rfl, rfl, same_new hp2 _ _ upd_same, upd_same, lb _ (by rw [List.length_map, List.length_map]; omega), fun p3 hp3 => ?_⟩
    refine ⟨_, get5 p1 p3, get4 p1 p3, lb _ (by rw [List.length_map]; omega), fun p4 hp4 => ?_⟩
    refine ⟨p3, p4, _, _, rfl, rfl, same_new hp4 _ _ upd_same, upd_same, lb _ (by rw [List.length_append, List.length_map, List.length_map, List.length_map]; omega), fun p5 hp5 => ⟨.inl ⟨rfl, _, .of upd_same⟩, ?_⟩⟩
    obtain ⟨hjl, hj3, hj4⟩ := List.findIdx?_eq_some_iff_getElem.1 hj
    have e : (List.map (fun b => V.bl (c == b)) cl1 ++ List.map (fun b => V.bl (c == b)) cl2 ++ List.map (fun b => V.bl (c == b)) cl3) = List.map (fun b => V.bl (c == b)) (cl1 ++ (cl2 ++ cl3)) := by simp
    rw [e]
    have sm := (((same_new hp1).trans (same_new hp2)).trans (same_new hp3)).trans ((same_new (o := .lst (List.map (fun b => V.bl (c == b)) cl3)) hp4).trans (same_new (o := .lst (List.map (fun b => V.bl (c == b)) (cl1 ++ (cl2 ++ cl3)))) hp5))
    refine ⟨p5, _, .bl true, j, .bl true, rfl, rfl, .of upd_same, rfl, ?_, ?_, rfl, ?_, h _ sm⟩
    · rw [List.all_eq_true]
      intro y hy
      obtain ⟨b, _, rfl⟩ := List.mem_map.1 hy
      rfl
    · rw [List.getElem?_map, List.getElem?_eq_getElem hjl]
      simp only [Option.map_some, hj3]
    · intro m z hm2 hz2
      have q := hj4 m hm2
      rw [List.getElem?_map, List.getElem?_eq_getElem (by omega)] at hz2
      simp only [Option.map_some, Option.some.injEq] at hz2
      subst hz2
      have q2 : (c == (cl1 ++ (cl2 ++ cl3))[m]) = false := by
        cases e : (c == (cl1 ++ (cl2 ++ cl3))[m]) with
        | false => rfl
        | true => exact absurd e q
      rw [q2]
      rfl
  refine ps_imp (ps_try_as (X := X) (i := i) (c := .ref (ec 0)) (tb := fun W0 => tS X.K (fun c σ H => W0 (.ref (ec c)) none σ H) H0 [] S [] ownB) (ts := tsIx ec (cl1 ++ (cl2 ++ cl3)) i) (Wout := fun _ _ _ _ => False) hs hf hnd hN hln ⟨hgx, hdx, .inl hcx⟩ takes0 (fun W1 pn xe tk _ => (hb (fun c σ H => W1 (.ref (ec c)) none σ H) pn xe (tk.imp fun cls d σ H ⟨c, e1, e2, w⟩ => by rw [e1, e2]; exact w)).ps H0) hsu) fun E σ H hw => ?_
  exact try_read EX hw⟩
end
end PB

namespace PB
open PySem PySem.Spec PyProof.Rows L2

/-! ### dicts with int keys -/
def valD (kds : List (Int × D)) (k : Int) : Option D := (kds.find? fun kv => decide (kv.1 = k)).map (·.2)
def putD (kds : List (Int × D)) (k : Int) (d : D) : List (Int × D) :=
  if (kds.any fun kv => decide (kv.1 = k)) = true then kds.map (fun kv => if kv.1 = k then (kv.1, d) else kv) else kds ++ [(k, d)]
section
variable {K : PySem.W.Frag} {H : Hp}
theorem RpKV.val {kvs : List (Key × V)} {kds : List (Int × D)} (h : RpKV K H kvs kds) (k : Int) : (valV kvs (.inl k) = none ∧ valD kds k = none) ∨ ∃ v d, valV kvs (.inl k) = some v ∧ valD kds k = some d ∧ Rp K H v d := by
  induction kvs generalizing kds with
  | nil => cases h; exact .inl ⟨rfl, rfl⟩
  | cons p kvs ih =>
    cases h with
    | @cons j v _ d ds hv ht =>
      by_cases e : j = k
      · subst e
        exact .inr ⟨v, d, by simp [valV], by simp [valD], hv⟩
      · have e1 : valV ((Sum.inl j, v) :: kvs) (.inl k) = valV kvs (.inl k) := by simp [valV, e]
        have e2 : valD ((j, d) :: ds) k = valD ds k := by simp [valD, e]
        rw [e1, e2]
        exact ih ht
theorem RpKV.any {kvs : List (Key × V)} {kds : List (Int × D)} (h : RpKV K H kvs kds) (k : Int) : (kvs.any fun kv => decide (kv.1 = .inl k)) = (kds.any fun kv => decide (kv.1 = k)) := by
  induction kvs generalizing kds with
  | nil => cases h; rfl
  | cons p kvs ih =>
    cases h with
    | @cons j v _ d ds hv ht => simp [ih ht]
theorem RpKV.len {kvs : List (Key × V)} {kds : List (Int × D)} (h : RpKV K H kvs kds) : kvs.length = kds.length := by
  induction kvs generalizing kds with
  | nil => cases h; rfl
  | cons p kvs ih =>
    cases h with
    | @cons j v _ d ds hv ht => simp [ih ht]
theorem RpKV.app {a b : List (Key × V)} {x y : List (Int × D)} (h : RpKV K H a x) (g : RpKV K H b y) : RpKV K H (a ++ b) (x ++ y) := by
  induction a generalizing x with
  | nil => cases h; exact g
  | cons p a ih =>
    cases h with
    | cons hv ht => exact .cons hv (ih ht)
theorem RpKV.repl {v : V} {d : D} (k : Int) (hv : Rp K H v d) : ∀ {kvs : List (Key × V)} {kds : List (Int × D)}, RpKV K H kvs kds → RpKV K H (kvs.map (fun kv => if kv.1 = .inl k then (kv.1, v) else kv)) (kds.map (fun kv => if kv.1 = k then (kv.1, d) else kv))
  | [], _, h => by cases h; exact .nil
  | p :: kvs, _, h => by
    cases h with
    | @cons j u _ e ds hu ht =>
      simp only [List.map_cons]
      by_cases c : j = k
      · subst c
        simp only [if_true]
        exact .cons hv (RpKV.repl j hv ht)
      · rw [if_neg (fun z => c (Sum.inl.inj z)), if_neg c]
        exact .cons hu (RpKV.repl k hv ht)
theorem RpKV.put {kvs : List (Key × V)} {kds : List (Int × D)} (h : RpKV K H kvs kds) {v : V} {d : D} (k : Int) (hv : Rp K H v d) : RpKV K H (putK kvs (.inl k) v) (putD kds k d) := by
  unfold putK putD
  rw [h.any k]
  split
  · exact RpKV.repl k hv h
  · exact h.app (.cons hv .nil)
theorem putD_len (kds : List (Int × D)) (k : Int) (d : D) : (putD kds k d).length ≤ kds.length + 1 := by
  unfold putD
  split <;> simp
end
def dGet : D → D → Option D
  | .dct kds, .int k => valD kds k
  | _, _ => none
def rDG : R2 := fun x y H Q => ∃ a v, x = .ref a ∧ DGet H a y (some v) ∧ Q v H
theorem od_dget {K : PySem.W.Frag} : OpD K rDG dGet := by
  intro x y dx dy d H Q rx ry e k
  cases dx <;> cases dy <;> simp only [dGet] at e <;> try contradiction
  rename_i kds j
  cases rx with
  | dct ha hk =>
    cases ry
    rcases hk.val j with ⟨_, e2⟩ | ⟨v, d', e1, e2, rv⟩
    · rw [e2] at e; cases e
    · rw [e2] at e; cases e
      refine ⟨_, v, rfl, ?_, k v H (Same.refl H) rv⟩
      rw [← e1]
      exact .inl ⟨_, .inl j, ha, rfl, rfl⟩
section
variable {X : Cx} {W : Wsh} {a b c : Expr} {F G J : Sl → Rs D} {pos apos cpos : Pos} {k : Nat}
theorem room1 (hr : Room k X.A) : X.A.units + 1 < cLine := by have := hr.un; omega
theorem e_dget (hr : Room k X.A) (ha : PE X a (tE X.K W F)) (hb : PE X b (tE X.K W G)) (hs : NoSl b := by exact fun _ _ => rfl) : PE X (.Subscript a b pos) (tE X.K W (eBin dGet F G)) :=
  pe_imp (pe_dget (room1 hr) ha hb hs) fun _ _ _ h => t_bin (r := rDG) od_dget h
def eGet1 (F G : Sl → Rs D) : Sl → Rs D := fun ρ => (F ρ).bind fun x => match x with
  | .dct kds => (G ρ).bind fun y => match y with
    | .int k => .ok ((valD kds k).getD .non)
    | _ => .bad
  | _ => .bad
def eGet2 (F G J : Sl → Rs D) : Sl → Rs D := fun ρ => (F ρ).bind fun x => match x with
  | .dct kds => (G ρ).bind fun y => (J ρ).bind fun z => match y with
    | .int k => .ok ((valD kds k).getD z)
    | _ => .bad
  | _ => .bad
theorem e_get1 (hr : Room k X.A) (ha : PE X a (tE X.K W F)) (hb : PE X b (tE X.K W G)) (m : M1 X a "get" apos b cpos := by exact ⟨rfl, rfl, rfl, rfl⟩) : PE X (.Call (.Attribute a "get" apos) [b] [] cpos) (tE X.K W (eGet1 F G)) :=
  pe_imp (pe_dget1 (room1 hr) ha hb m) fun σ H Q h => by
    obtain ⟨ρ, rr, h⟩ := h
    refine ⟨ρ, rr, cs_mono (cs_bind h) (fun dx h1 v1 H1 s1 r1 => ?_) fun c q => q⟩
    cases r1 with
    | @dct p kvs kds hp hk =>
      refine ⟨p, rfl, .inl ⟨kvs, hp⟩, ρ, rr.mono s1, cs_mono (cs_bind h1) (fun dy h2 v2 H2 s2 r2 => ?_) fun c q H' s => q H' (s1.trans s)⟩
      cases r2 with
      | int j =>
        have h3 : ∀ v H', Same H H' → Rp X.K H' v ((valD kds j).getD .non) → Q v H' := h2
        have hk2 := hk.mono s2
        have hg : DGet H2 p (.int j) (valV kvs (.inl j)) := .inl ⟨_, .inl j, rd_mono s2 hp, rfl, rfl⟩
        rcases hk2.val j with ⟨q1, q2⟩ | ⟨v, d', q1, q2, rv⟩
        · rw [q1] at hg
          rw [q2] at h3
          exact ⟨none, hg, h3 _ _ (s1.trans s2) .non⟩
        · rw [q1] at hg
          rw [q2] at h3
          exact ⟨some v, hg, h3 _ _ (s1.trans s2) rv⟩
      | _ => exact h2.elim
    | _ => exact h1.elim
theorem e_get2 (hr : Room k X.A) (ha : PE X a (tE X.K W F)) (hb : PE X b (tE X.K W G)) (hc : PE X c (tE X.K W J)) (m : M2 X a "get" apos b c cpos := by exact ⟨rfl, rfl, rfl, rfl⟩) : PE X (.Call (.Attribute a "get" apos) [b, c] [] cpos) (tE X.K W (eGet2 F G J)) :=
  pe_imp (pe_dget2 (room1 hr) ha hb hc m) fun σ H Q h => by
    obtain ⟨ρ, rr, h⟩ := h
    refine ⟨ρ, rr, cs_mono (cs_bind h) (fun dx h1 v1 H1 s1 r1 => ?_) fun c q => q⟩
    cases r1 with
    | @dct p kvs kds hp hk =>
      refine ⟨p, rfl, .inl ⟨kvs, hp⟩, ρ, rr.mono s1, cs_mono (cs_bind h1) (fun dy h2 v2 H2 s2 r2 => ?_) fun c q H' s => q H' (s1.trans s)⟩
      refine ⟨ρ, rr.mono (s1.trans s2), cs_mono (cs_bind h2) (fun dz h3 v3 H3 s3 r3 => ?_) fun c q H' s => q H' ((s1.trans s2).trans s)⟩
      cases r2 with
      | int j =>
        have h4 : ∀ v H', Same H H' → Rp X.K H' v ((valD kds j).getD dz) → Q v H' := h3
        have hk2 := hk.mono (s2.trans s3)
        have hg : DGet H3 p (.int j) (valV kvs (.inl j)) := .inl ⟨_, .inl j, rd_mono s3 (rd_mono s2 hp), rfl, rfl⟩
        rcases hk2.val j with ⟨q1, q2⟩ | ⟨v, d', q1, q2, rv⟩
        · rw [q1] at hg
          rw [q2] at h4
          exact ⟨none, hg, h4 _ _ ((s1.trans s2).trans s3) r3⟩
        · rw [q1] at hg
          rw [q2] at h4
          exact ⟨some v, hg, h4 _ _ ((s1.trans s2).trans s3) rv⟩
      | _ => exact h3.elim
    | _ => exact h1.elim
end
/-! ### filling a dict -/
section
variable {X : Cx} {W : Wsh} {own ownB : List Nat} {F G : Sl → Rs D} {e kx vx : Expr} {pos pos' dp : Pos} {k : Nat}
def sNewD0 (i : Nat) : Sl → Rs Out := fun ρ => if i < ρ.length then .ok (.nx (ρ.set i (some (.dct [])))) else .bad
theorem s_newD0 {i : Nat} {x : Str} (hN : X.N.Nodup) (hx : X.N[i]? = some x) (hl : Loc X.env.scope x) (hi : i ∉ own) (hs : swapsWith (.Dict [] [] dp) (some (.Name x pos')) pos.line X.env = pure false := by rfl)
    (hf : X.fn x = true ∨ X.env.scope.names.lookup x = some .local := by first | exact .inl rfl | exact .inr rfl | assumption) : DS X W own (sNewD0 i) (i :: own) ownB (.Assign [.Name x pos'] (.Dict [] [] dp) pos) := ⟨fun H0 => ps_imp (ps_set (i := i) hN hx hl pe_dnewK hs hf) fun E σ H hw => by
  obtain ⟨ρ, r, hw⟩ := hw
  unfold sNewD0 at hw
  by_cases hb : i < ρ.length
  · rw [if_pos hb] at hw
    exact fun p hp => hw _ _ (r.acq hi hb hp (.inr ⟨[], [], rfl, rfl, .nil⟩))
  · rw [if_neg hb] at hw; exact hw.elim⟩
/-- x[key] = value, the value no container, read with all in sight -/
def sPutS (i : Nat) (G F : Sl → Rs D) : Sl → Rs Out := fun ρ => (F ρ).bind fun d => match scl d with
  | true => (G ρ).bind fun y => (match ρ[i]?, y with
    | some (some (.dct kds)), .int k => if kds.length < 1000000 then .ok (.nx (ρ.set i (some (.dct (putD kds k d))))) else .bad
    | _, _ => .bad)
  | false => .bad
theorem s_putS {i : Nat} {x : Str} {px : Pos} (hr : Room k X.A) (hi : i ∈ own) (hv : PE X vx (tE X.K W F)) (hk : PE X kx (tE X.K W G)) (ho : PE X (.Name x px) (tVar i)) (hs : swapsWith vx (some (.Subscript (.Name x px) kx pos')) pos.line X.env = pure false := by rfl) :
    DS X W own (sPutS i G F) own ownB (.Assign [.Subscript (.Name x px) kx pos'] vx pos) := ⟨fun H0 => ps_imp (ps_dput (room1 hr) ho hk hv hs) fun E σ H hw => by
  obtain ⟨ρ, r, hw⟩ := hw
  refine inH r (cs_mono (cs_bind hw) (fun d q v H1 s1 r1 rv => ?_) fun c q => q)
  cases hd : scl d with
  | false => rw [hd] at q; exact q.elim
  | true =>
    rw [hd] at q
    obtain ⟨p, d0, e1, e2, ho1⟩ := r1.own_ i hi
    refine ⟨.ref p, e1, inH r1 (cs_mono (cs_bind q) (fun y q2 w H2 s2 r2 rw2 => ?_) fun c q => q)⟩
    obtain ⟨p', d0', e1', e2', ho2⟩ := r2.own_ i hi
    rw [e1] at e1'; cases e1'
    rw [e2] at e2'; cases e2'
    rw [e2] at q2
    rcases ho2 with ⟨xs, ds, ex, rfl, ra⟩ | ⟨kvs, kds, ex, rfl, ra⟩
    · exact q2.elim
    · cases rw2 with
      | int j =>
        have q3 : cs (if kds.length < 1000000 then Rs.ok (Out.nx (ρ.set i (some (.dct (putD kds j d))))) else .bad) _ _ := q2
        by_cases hl : kds.length < 1000000
        · rw [if_pos hl] at q3
          exact ⟨p, _, rfl, DPut.k (k := .inl j) ex (Nat.lt_of_lt_of_le (by rw [ra.len]; exact hl : kvs.length < 1000000) (by decide)), q3 _ _ (r2.fill hi e1 (.inr ⟨_, _, rfl, rfl, ra.put j (scl_rp rv hd)⟩))⟩
        · rw [if_neg hl] at q3; exact q3.elim
      | _ => exact q2.elim⟩
/-- x[key] = value, the value apart from what is filled -/
def sPutW (own : List Nat) (i : Nat) (G F : Sl → Rs D) : Sl → Rs Out := fun ρ => (F (wipeD ρ own)).bind fun d => (G ρ).bind fun y => (match ρ[i]?, y with
    | some (some (.dct kds)), .int k => if kds.length < 1000000 then .ok (.nx (ρ.set i (some (.dct (putD kds k d))))) else .bad
    | _, _ => .bad)
theorem s_putW {i : Nat} {x : Str} {px : Pos} (hr : Room k X.A) (hi : i ∈ own) (hv : PE X vx (tE X.K W F)) (hk : PE X kx (tE X.K W G)) (ho : PE X (.Name x px) (tVar i)) (hs : swapsWith vx (some (.Subscript (.Name x px) kx pos')) pos.line X.env = pure false := by rfl) :
    DS X W own (sPutW own i G F) own ownB (.Assign [.Subscript (.Name x px) kx pos'] vx pos) := ⟨fun H0 => ps_imp (ps_dput (room1 hr) ho hk (pe_fr hv) hs) fun E σ H hw => by
  obtain ⟨ρ, r, hw⟩ := hw
  refine inG r (cs_mono (cs_bind hw) (fun d q v H1 r1 ka sa rv => ?_) fun c q => q)
  obtain ⟨p, d0, e1, e2, ho1⟩ := r1.own_ i hi
  refine ⟨.ref p, e1, inH r1 (cs_mono (cs_bind q) (fun y q2 w H2 s2 r2 rw2 => ?_) fun c q => q)⟩
  obtain ⟨p', d0', e1', e2', ho2⟩ := r2.own_ i hi
  rw [e1] at e1'; cases e1'
  rw [e2] at e2'; cases e2'
  rw [e2] at q2
  rcases ho2 with ⟨xs, ds, ex, rfl, ra⟩ | ⟨kvs, kds, ex, rfl, ra⟩
  · exact q2.elim
  · cases rw2 with
    | int j =>
      have q3 : cs (if kds.length < 1000000 then Rs.ok (Out.nx (ρ.set i (some (.dct (putD kds j d))))) else .bad) _ _ := q2
      by_cases hl : kds.length < 1000000
      · rw [if_pos hl] at q3
        exact ⟨p, _, rfl, DPut.k (k := .inl j) ex (Nat.lt_of_lt_of_le (by rw [ra.len]; exact hl : kvs.length < 1000000) (by decide)), q3 _ _ (r2.fill hi e1 (.inr ⟨_, _, rfl, rfl, ra.put j (rv.mono (same_hideM s2 r1.mu.nx))⟩))⟩
      · rw [if_neg hl] at q3; exact q3.elim
    | _ => exact q2.elim⟩
/-- x = {key: value} -/
def sNewD1 (own : List Nat) (i : Nat) (G F : Sl → Rs D) : Sl → Rs Out := fun ρ => (G (wipeD ρ own)).bind fun y => (F (wipeD ρ own)).bind fun d => (match y with
  | .int k => if i < ρ.length then .ok (.nx (ρ.set i (some (.dct [(k, d)])))) else .bad
  | _ => .bad)
theorem disp_read {K : PySem.W.Frag} {H0 H : Hp} {σ : L2.St} {ρ : Sl} {i : Nat} {E : Ends} (r : R K H0 own σ H ρ) (hi : i ∉ own)
    (hw : cs (sNewD1 own i G F ρ) (oc K H0 (i :: own) ownB E) (fun c => ∀ σ' H', Same H0 H' → W c σ' H')) : tDisp [(tFr (tE K W G), tFr (tE K W F))] σ H (fun v H1 => gName i v σ H1 E.nx) := by
  intro p hp
  have np : p ∉ adr own σ := fun hm => r.ne p hm hp
  have eh : hide (p :: adr own σ) (upd H p (.dK [])) = hide (adr own σ) H := by
    funext b
    by_cases hb : b ∈ adr own σ
    · rw [hide_in (by simp [hb]), hide_in hb]
    · by_cases hbp : b = p
      · subst hbp; rw [hide_in (by simp), hide_out hb, hp]
      · rw [hide_out (by simp [hb, hbp]), hide_out hb, upd_ne hbp]
  have mu : Mu (p :: adr own σ) (upd H p (.dK [])) := by
    intro b hb
    rcases List.mem_cons.mp hb with rfl | hb
    · exact .inr ⟨[], upd_same⟩
    · rw [upd_ne (fun e : b = p => np (e ▸ hb))]
      exact r.mu b hb
  refine ⟨p :: adr own σ, mu, wipeD ρ own, by rw [eh]; exact r.r0h, ?_⟩
  rw [eh]
  refine cs_mono (cs_bind hw) (fun y h1 v1 H1 s1 r1 n1 => ?_) fun c q H' s => q σ H' (r.base.trans s)
  have mu2 : Mu (p :: adr own σ) (put (p :: adr own σ) (upd H p (.dK [])) H1) := by
    intro b hb
    rw [put_in hb]
    exact mu b hb
  refine ⟨p :: adr own σ, mu2, wipeD ρ own, by rw [hide_put n1]; exact r.r0h.mono s1, ?_⟩
  rw [hide_put n1]
  refine cs_mono (cs_bind h1) (fun d h2 v2 H2 s2 r2 n2 => ?_) fun c q H' s => q σ H' ((r.base.trans s1).trans s)
  cases r1 with
  | int j =>
    have h3 : cs (if i < ρ.length then Rs.ok (Out.nx (ρ.set i (some (.dct [(j, d)])))) else .bad) (oc K H0 (i :: own) ownB E) (fun c => ∀ σ' H', Same H0 H' → W c σ' H') := h2
    by_cases hl : i < ρ.length
    · rw [if_pos hl] at h3
      have ep : put (p :: adr own σ) (put (p :: adr own σ) (upd H p (.dK [])) H1) H2 p = some (.dK []) := by
        rw [put_in (by simp), put_in (by simp), upd_same]
      refine ⟨ep, [(.inl j, v2)], rfl, by simp, ?_⟩
      have n2' : ∀ a ∈ adr own σ, H2 a = none := fun a ha => n2 a (by simp [ha])
      have rr := r.putG (s1.trans s2) n2'
      have hn : put (adr own σ) H H2 p = none := by rw [put_out np]; exact n2 p (by simp)
      have ee : upd (put (p :: adr own σ) (put (p :: adr own σ) (upd H p (.dK [])) H1) H2) p (.dK (mergeK [] [(.inl j, v2)])) = upd (put (adr own σ) H H2) p (.dK [(.inl j, v2)]) := by
        funext b
        by_cases hbp : b = p
        · subst hbp; rw [upd_same, upd_same]; rfl
        · rw [upd_ne hbp, upd_ne hbp]
          by_cases hb : b ∈ adr own σ
          · rw [put_in (by simp [hb]), put_in (by simp [hb]), upd_ne hbp, put_in hb]
          · rw [put_out (by simp [hb, hbp]), put_out hb]
      rw [ee]
      refine h3 _ _ (rr.acq hi hl hn (.inr ⟨_, _, rfl, rfl, ?_⟩))
      rw [hide_put n2']
      exact .cons r2 .nil
    · rw [if_neg hl] at h3; exact h3.elim
  | _ => exact h2.elim
theorem s_newD1 {i : Nat} {x : Str} (hN : X.N.Nodup) (hx : X.N[i]? = some x) (hl : Loc X.env.scope x) (hi : i ∉ own) (hk : PE X kx (tE X.K W G)) (hv : PE X vx (tE X.K W F)) (hs : swapsWith (.Dict [some kx] [vx] dp) (some (.Name x pos')) pos.line X.env = pure false := by rfl)
    (hf : X.fn x = true ∨ X.env.scope.names.lookup x = some .local := by first | exact .inl rfl | exact .inr rfl | assumption) : DS X W own (sNewD1 own i G F) (i :: own) ownB (.Assign [.Name x pos'] (.Dict [some kx] [vx] dp) pos) := ⟨fun H0 => ps_imp (ps_set (i := i) hN hx hl (pe_disp (pps_cons (pe_fr hk) (pe_fr hv) pps_nil) rfl rfl (by simp) (by simp)) hs hf) fun E σ H hw => by
  obtain ⟨ρ, r, hw⟩ := hw
  exact disp_read r hi hw⟩
end
/-! ### xs[::-1] -/
def dRev : D → Option D
  | .lst xs => some (.lst xs.reverse)
  | _ => none
theorem RpAll.rev {K : PySem.W.Frag} {H : Hp} {vs : List V} {ds : List D} (h : RpAll K H vs ds) : RpAll K H vs.reverse ds.reverse := by
  induction vs generalizing ds with
  | nil => cases h; exact .nil
  | cons v vs ih =>
    cases h with
    | cons h t =>
      rw [List.reverse_cons, List.reverse_cons]
      exact (ih t).append (.cons h .nil)
theorem e_rev {X : Cx} {W : Wsh} {e : Expr} {F : Sl → Rs D} {k : Nat} {p1 p2 p3 pos : Pos} (he : PE X e (tE X.K W F)) : PE X (.Subscript e (.Slice none none (some (.UnaryOp .USub (.Constant (.int 1) k p1) p2)) p3) pos) (tE X.K W (eUn dRev F)) :=
  pe_imp (pe_revL he) fun σ H Q h => by
    obtain ⟨ρ, rr, h⟩ := h
    refine ⟨ρ, rr, cs_mono (cs_bind h) (fun dx h1 v1 H1 s1 r1 => ?_) fun c q => q⟩
    obtain ⟨d, e, h3⟩ := cs_of h1
    cases dx <;> simp only [dRev] at e <;> try contradiction
    cases e
    cases r1 with
    | lst ha hr => exact ⟨_, _, rfl, SqL.of ha, fun p hp => h3 _ _ (s1.trans (same_new hp)) (.lst upd_same ((hr.mono (same_new hp)).rev))⟩
end PB

namespace PB
open PySem PySem.Spec PyProof.Rows L2

/-! ### sum of a list or a tuple of ints -/
def gSumA : List D → Option D
  | [.lst xs] => (asInts xs).map fun ns => .int ns.sum
  | [.tup xs] => (asInts xs).map fun ns => .int ns.sum
  | _ => none
def rSumA (K : PySem.W.Frag) : List V → Hp → VK → Prop := fun vs H Q => ∃ (a : Addr) (ns : List Int), vs = [V.ref a] ∧ (SqL K H a (ns.map V.int) ∨ SqT K H a (ns.map V.int)) ∧ Q (.int ns.sum) H
section
variable {X : Cx} {W : Wsh} {a : Expr} {A : Sl → Rs (List D)} {p pos : Pos}
theorem cr_sumA (hc : X.calm = true) : CallR X (.builtin "sum") (rSumA X.K) := by
  intro pins s σ H vs us Q I r h
  obtain ⟨a, ns, rfl, hs | hs, q⟩ := h
  · obtain ⟨its, rv, hl, _⟩ := I.list hs
    rw [Vals.ref1 r]
    exact sum_raw (I.ok.hd hc) hl.isList rv.ints fun h' tk t' hk => ⟨.int _, H, I.kept hk, ⟨_, rfl⟩, q⟩
  · obtain ⟨its, rv, hl, _⟩ := I.tuple hs
    rw [Vals.ref1 r]
    have hi := rv.ints
    obtain ⟨xs, e⟩ := hi.allInts.items
    have hn : numsOf (intItems xs).toList = ns := by rw [← e]; exact hi.numsOf
    rw [nums_intItems] at hn
    rw [e] at hl
    refine PySem.W.ktm_sumG (I.ok.hd hc) hl fun h' tk t' hk => ?_
    rw [preSum_eq, List.take_of_length_le (by simp), hn]
    exact ⟨.int _, H, I.kept hk, ⟨_, rfl⟩, q⟩
theorem cd_sumA {K : PySem.W.Frag} : CallD K (rSumA K) gSumA := by
  intro vs ds d H Q rv e k
  match ds, e with
  | [.lst xs], e =>
    obtain ⟨v, rfl, r⟩ := rpall1 rv
    simp only [gSumA] at e
    cases q : asInts xs with
    | none => rw [q] at e; cases e
    | some ns =>
      rw [q] at e; cases e
      have z := asInts_eq q; subst z
      obtain ⟨p, ys, rfl, h1, a1⟩ := rp_lst r
      have z := rp_ints a1; subst z
      exact ⟨p, ns, rfl, .inl (SqL.of h1), k _ H (Same.refl H) (.int _)⟩
  | [.tup xs], e =>
    obtain ⟨v, rfl, r⟩ := rpall1 rv
    simp only [gSumA] at e
    cases q : asInts xs with
    | none => rw [q] at e; cases e
    | some ns =>
      rw [q] at e; cases e
      have z := asInts_eq q; subst z
      obtain ⟨p, ys, rfl, h1, a1⟩ := rp_tup r
      have z := rp_ints a1; subst z
      exact ⟨p, ns, rfl, .inr (SqT.of h1), k _ H (Same.refl H) (.int _)⟩
theorem e_sumA (hm : X.mg "sum" = none) (ha : PA X [a] (tA X.K W A)) (hc : X.calm = true := by rfl) (hg : Gl X "sum" := by rfl) (he : starEach [a] X.env = (false, eval a X.env) :: starEach [] X.env := by rfl) : PE X (.Call (.Name "sum" p) [a] [] pos) (tE X.K W (eCall gSumA A)) :=
  e_callB (cr_sumA hc) cd_sumA hm (by decide +kernel) ha hg (he := he)
end
end PB

namespace PB
open PySem PySem.Spec PyProof.Rows L2

/-! ### the order of tuples of ints -/
theorem lexLt_asym : ∀ x y : List Int, HT.lexLt x y = true → HT.lexLt y x = false
  | [], [], _ => rfl
  | [], _ :: _, _ => rfl
  | _ :: _, [], h => by cases h
  | a :: x, b :: y, h => by
    rw [HT.lexLt_cons] at h ⊢
    by_cases e : a = b
    · subst e
      rw [if_pos rfl] at h ⊢
      exact lexLt_asym x y h
    · rw [if_neg e] at h
      rw [if_neg (fun z => e z.symm)]
      have := of_decide_eq_true h
      exact decide_eq_false (by omega)
theorem lexLt_tr : ∀ x y z : List Int, HT.lexLt y x = false → HT.lexLt z y = false → HT.lexLt z x = false
  | [], _, [], _, _ => rfl
  | [], _, _ :: _, _, _ => rfl
  | _ :: _, [], _, h, _ => by cases h
  | _ :: _, _ :: _, [], _, h => by cases h
  | a :: x, b :: y, c :: z, h1, h2 => by
    rw [HT.lexLt_cons] at h1 h2 ⊢
    by_cases e1 : b = a
    · subst e1
      rw [if_pos rfl] at h1
      by_cases e2 : c = b
      · subst e2
        rw [if_pos rfl] at h2 ⊢
        exact lexLt_tr x y z h1 h2
      · rw [if_neg e2] at h2 ⊢
        exact h2
    · rw [if_neg e1] at h1
      have h1 := of_decide_eq_false h1
      by_cases e2 : c = b
      · subst e2
        rw [if_neg e1]
        exact decide_eq_false h1
      · rw [if_neg e2] at h2
        have h2 := of_decide_eq_false h2
        rw [if_neg (by omega)]
        exact decide_eq_false (by omega)
theorem lexLt_anti : ∀ x y : List Int, HT.lexLt x y = false → HT.lexLt y x = false → x = y
  | [], [], _, _ => rfl
  | [], _ :: _, h, _ => by cases h
  | _ :: _, [], _, h => by cases h
  | a :: x, b :: y, h1, h2 => by
    rw [HT.lexLt_cons] at h1 h2
    by_cases e : a = b
    · subst e
      rw [if_pos rfl] at h1 h2
      rw [lexLt_anti x y h1 h2]
    · rw [if_neg e] at h1
      rw [if_neg (fun z => e z.symm)] at h2
      have h1 := of_decide_eq_false h1
      have h2 := of_decide_eq_false h2
      omega
theorem lexLt_swo {α : Type} (k : α → List Int) : SrtO.Swo fun v u => HT.lexLt (k v) (k u) :=
  ⟨fun x y h => lexLt_asym _ _ h, fun x y z h1 h2 => lexLt_tr _ _ _ h1 h2⟩

/-! ### sorting by insertion -/
section
variable {α : Type} (lt : α → α → Bool)
def insB (x : α) : List α → List α
  | [] => [x]
  | y :: l => if lt y x = true then y :: insB x l else x :: y :: l
def srtB : List α → List α
  | [] => []
  | x :: l => insB lt x (srtB l)
theorem insB_perm (x : α) : ∀ l : List α, (insB lt x l).Perm (x :: l)
  | [] => .refl _
  | y :: l => by
    rw [insB]
    split
    · exact ((insB_perm x l).cons y).trans (.swap x y l)
    · exact .refl _
theorem srtB_perm : ∀ l : List α, (srtB lt l).Perm l
  | [] => .refl _
  | x :: l => (insB_perm lt x _).trans ((srtB_perm l).cons x)
variable {lt}
theorem insB_srtd (O : SrtO.Swo lt) (x : α) : ∀ l : List α, SrtO.Srtd lt l → SrtO.Srtd lt (insB lt x l)
  | [], _ => List.pairwise_singleton _ _
  | y :: l, h => by
    have h' := List.pairwise_cons.mp h
    rw [insB]
    split
    · rename_i c
      refine List.pairwise_cons.mpr ⟨fun z hz => ?_, insB_srtd O x l h'.2⟩
      rcases List.mem_cons.mp ((insB_perm lt x l).mem_iff.mp hz) with e | hz
      · rw [e]; exact O.asym _ _ c
      · exact h'.1 z hz
    · rename_i c
      have c : lt y x = false := by cases e : lt y x with
        | true => exact absurd e c
        | false => rfl
      refine List.pairwise_cons.mpr ⟨fun z hz => ?_, h⟩
      rcases List.mem_cons.mp hz with e | hz
      · rw [e]; exact c
      · exact O.tr x y z c (h'.1 z hz)
theorem srtB_srtd (O : SrtO.Swo lt) : ∀ l : List α, SrtO.Srtd lt (srtB lt l)
  | [] => List.Pairwise.nil
  | x :: l => insB_srtd O x _ (srtB_srtd O l)
theorem srtd_uniq (anti : ∀ x y, lt x y = false → lt y x = false → x = y) : ∀ {l m : List α}, l.Perm m → SrtO.Srtd lt l → SrtO.Srtd lt m → l = m
  | [], m, p, _, _ => (List.Perm.eq_nil p.symm).symm
  | x :: l, [], p, _, _ => absurd p.length_eq (by simp)
  | x :: l, y :: m, p, hl, hm => by
    have h1 := List.pairwise_cons.mp hl
    have h2 := List.pairwise_cons.mp hm
    have e : x = y := by
      rcases List.mem_cons.mp (p.mem_iff.mp (List.mem_cons_self (a := x) (l := l))) with e | hx
      · exact e
      · rcases List.mem_cons.mp (p.mem_iff.mpr (List.mem_cons_self (a := y) (l := m))) with e | hy
        · exact e.symm
        · exact anti x y (h2.1 x hx) (h1.1 y hy)
    subst e
    rw [srtd_uniq anti p.cons_inv h1.2 h2.2]
end
def srtI (l : List Int) : List Int := srtB (fun x y => decide (x < y)) l
def srtT (l : List (List Int)) : List (List Int) := srtB HT.lexLt l
theorem ltI_swo : SrtO.Swo fun x y : Int => decide (x < y) :=
  ⟨fun x y h => by have := of_decide_eq_true h; exact decide_eq_false (by omega), fun x y z h1 h2 => by have := of_decide_eq_false h1; have := of_decide_eq_false h2; exact decide_eq_false (by omega)⟩
theorem srtI_of {l m : List Int} (p : m.Perm l) (h : m.Pairwise (· ≤ ·)) : m = srtI l :=
  srtd_uniq (lt := fun x y => decide (x < y)) (fun x y h1 h2 => by have := of_decide_eq_false h1; have := of_decide_eq_false h2; omega) (p.trans (srtB_perm _ l).symm) (h.imp fun q => decide_eq_false (by omega)) (srtB_srtd ltI_swo l)
theorem srtT_of {l m : List (List Int)} (p : m.Perm l) (h : m.Pairwise fun x y => HT.lexLt y x = false) : m = srtT l :=
  srtd_uniq lexLt_anti (p.trans (srtB_perm _ l).symm) h (srtB_srtd (lexLt_swo _root_.id) l)

/-! ### the model's comparisons of tuples of ints in a sort -/
def TI (h : Heap) (v : Value) (ns : List Int) : Prop := ∃ a o us n, v = .ref a ∧ h.get? a = some o ∧ o.cls = .type "tuple" ∧ o.data = .seq us n ∧ IntsAre us.toList ns
theorem TI.keeps {h h' : Heap} {v : Value} {ns : List Int} (t : TI h v ns) (k : ∀ b o, h.get? b = some o → o.cls = .type "tuple" → h'.get? b = some o) : TI h' v ns := by
  obtain ⟨a, o, us, n, e, ho, hc, hd, hi⟩ := t
  exact ⟨a, o, us, n, e, k _ _ ho hc, hc, hd, hi⟩
section
variable {prog : Program} {w : World} {A : Around} {E : Value → Shared → Prop} {s : Shared} {Q : Bool → Shared → Prop}
theorem lexA {b : Bool} : ∀ {us vs : List Value} {ns ms : List Int} (i : Nat) {fin : Bool}, IntsAre us ns → IntsAre vs ms → fin = decide (ns.length < ms.length) → Q (HT.lexLt ns ms) s → PySem.W.KatLex prog w A b fin Q (us.zip vs) i s
  | [], [], _, _, i, fin, .nil, .nil, hf, h => by
    rw [List.zip_nil_left]
    refine PySem.W.kat_nil ?_
    rw [hf]; exact h
  | [], _ :: _, _, _, i, fin, .nil, .cons .., hf, h => by
    rw [List.zip_nil_left]
    refine PySem.W.kat_nil ?_
    rw [hf]
    simpa [HT.lexLt] using h
  | _ :: _, [], _, _, i, fin, .cons .., .nil, hf, h => by
    rw [List.zip_nil_right]
    refine PySem.W.kat_nil ?_
    rw [hf]
    simpa [HT.lexLt] using h
  | _ :: _, _ :: _, _, _, i, fin, .cons a t hu, .cons c u hv, hf, h => by
    rw [List.zip_cons_cons]
    rw [HT.lexLt_cons] at h
    refine PySem.W.kat_cons (SeqAt.EqAt.int_int a t c u prog w _ _ ?_)
    refine PySem.W.kat_go (fun e1 => ?_) fun e1 => ?_
    · have e : a = c := by simpa using e1
      rw [if_pos e] at h
      exact PySem.W.kat_yes (lexA (i + 1) hu hv (by rw [hf]; simp) h)
    · have e : ¬ a = c := by simpa using e1
      rw [if_neg e] at h
      exact PySem.W.kat_no (TS.oneLt_ints _ h)
theorem tup_cmp {vs : List Value} {k : Value → List Int} (hp : ∀ v ∈ vs, TI s.heap v (k v)) : SrtO.Cmp prog w A s (tuples' true) (fun p => p.1 ∈ vs) (SrtO.lt2 fun v u => HT.lexLt (k v) (k u)) := by
  intro p q hm hm'
  obtain ⟨a, o, us, n, e, ho, hc, hd, hi⟩ := hp _ hm
  obtain ⟨a', o', us', n', e', ho', hc', hd', hi'⟩ := hp _ hm'
  show wpAny (model prog w) A (keyLt' (tuples' true) p.1 q.1) (fun r s' => s' = s ∧ r = HT.lexLt (k p.1) (k q.1)) (fun _ _ => False) s
  generalize k p.1 = x at *
  generalize k q.1 = y at *
  rw [e, e']
  refine PySem.W.kat_lt ho hd ho' hd' (lexA 0 hi hi' ?_ ⟨rfl, rfl⟩)
  rw [← hi.length, ← hi'.length]
  simp
theorem firstsT {h : Heap} {k : Value → List Int} : ∀ {vs : List Value}, (∀ v ∈ vs, k v ≠ [] ∧ TI h v (k v)) → ∃ fs : List Value, PySem.W.KatTups h vs fs ∧ fs.length = vs.length ∧ ∀ f ∈ fs, ∃ x t, f = Value.int x t
  | [], _ => ⟨[], PySem.W.KatTups.nil, rfl, fun _ hm => by simp at hm⟩
  | v :: vs, hp => by
    obtain ⟨fs, h1, h2, h3⟩ := firstsT (vs := vs) fun u hu => hp u (List.mem_cons_of_mem _ hu)
    obtain ⟨ne, a, o, us, n, rfl, ho, hc, hd, hi⟩ := hp v List.mem_cons_self
    obtain ⟨us⟩ := us
    generalize k (Value.ref a) = ns at *
    cases hi with
    | nil => exact absurd rfl ne
    | @cons x t us ns hi =>
      refine ⟨Value.int x t :: fs, PySem.W.KatTups.cons ho hc hd (by simp) h1, by simp [h2], fun f hf => ?_⟩
      rcases List.mem_cons.mp hf with rfl | hf
      · exact ⟨x, t, rfl⟩
      · exact h3 f hf
theorem tups_sortable {a : Addr} {vs : List Value} {k : Value → List Int} (h0 : 0 < vs.length) (hp : ∀ v ∈ vs, k v ≠ [] ∧ TI s.heap v (k v)) (ha : ∀ o, s.heap.get? a = some o → o.cls ≠ .type "tuple") : SrtO.SortableO prog w A s a vs fun v u => HT.lexLt (k v) (k u) := by
  intro h' keep
  have hp' : ∀ v ∈ vs, k v ≠ [] ∧ TI h' v (k v) := fun v hm => ⟨(hp v hm).1, (hp v hm).2.keeps fun b o e c => keep b o (fun z => by subst z; exact ha o e c) e⟩
  obtain ⟨fs, h1, h2, h3⟩ := firstsT hp'
  refine ⟨tuples' true, fun Q E hq => ?_, tup_cmp fun v hv => (hp' v hv).2⟩
  refine PySem.W.kat_kind (T := .type "int") h1 (by omega) (fun f hm => ?_) (by rfl) ?_
  · obtain ⟨x, t, rfl⟩ := h3 f hm
    exact PySem.W.Looks.now
  · have e : (Value.type "int" != Value.type "tuple") = true := by first | decide +kernel | rfl | decide
    rw [e]
    exact hq
theorem sorted_tups {l : Addr} {vs : List Value} {k : Value → List Int} {Q : Value → Shared → Prop} (hl : s.heap.IsList l vs.toArray) (hz : vs.length ≤ sizeLine) (hp : ∀ v ∈ vs, k v ≠ [] ∧ TI s.heap v (k v))
    (h : ∀ (h' : Heap) (d : Addr) (out : List Value), out.Perm vs → out.Pairwise (fun v u => HT.lexLt (k u) (k v) = false) → (∀ b o, s.heap.get? b = some o → h'.get? b = some o) → s.heap.objs.size ≤ d → (∃ n, h'.get? d = some (seqObj "list" out.toArray n)) → Q (.ref d) { s with heap := h' }) :
    wpAny (model prog w) A (call (.builtin "sorted") [.ref l]) Q E s := by
  refine SrtO.sorted_ord (lexLt_swo k) hl hz (fun h2 h₁ a ha kk => ?_) fun out hs hb => ?_
  · refine tups_sortable (s := { s with heap := h₁ }) (by omega) (fun v hm => ⟨(hp v hm).1, (hp v hm).2.keeps fun b o e _ => (kk b o e).2⟩) fun o e => ?_
    have e' : some o = some (seqObj "list" vs.toArray 0) := e.symm.trans ha
    cases e'
    intro c
    exact absurd (Value.type.inj c) (by decide)
  · exact h _ _ out hb.perm hs (fun b o e => sortedAll_old e) (Nat.le_succ _) (sortedAll_at s.heap vs out.toArray)
end

/-! ### as a rule of the layer -/
def rSortTA (K : PySem.W.Frag) : List V → Hp → VK → Prop := fun vs H Q => ∃ (a : Addr) (xs : List V) (k : V → List Int), vs = [V.ref a] ∧ SqL K H a xs ∧ (∀ x ∈ xs, k x ≠ [] ∧ ∃ t, x = V.ref t ∧ SqT K H t ((k x).map V.int)) ∧
  ∀ ys p, ys.Perm xs → ys.Pairwise (fun x y => HT.lexLt (k y) (k x) = false) → H p = none → Q (.ref p) (upd H p (.lst ys))
section
variable {X : Cx} {W : Wsh} {a : Expr} {A : Sl → Rs (List D)} {p pos : Pos}
theorem cr_sortTA : CallR X (.builtin "sorted") (rSortTA X.K) := by
  intro pins s σ H vs us Q I r h
  obtain ⟨a, xs, k, rfl, hs, hx, q⟩ := h
  obtain ⟨its, rv, hl, hz⟩ := I.list hs
  rw [Vals.ref1 r]
  obtain ⟨e1, e2⟩ := refs_back rv fun x m => by
    obtain ⟨_, t, e, _⟩ := hx x m
    exact ⟨t, e⟩
  refine sorted_tups (k := fun u => k (backV u)) hl.isList (by rw [← rv.length]; exact hz) (fun v hv => ?_) fun h' d out h1 h2 kp hd hn => ?_
  · obtain ⟨t, rfl⟩ := e2 v hv
    have hm : V.ref t ∈ xs := by rw [e1]; exact List.mem_map.mpr ⟨_, hv, rfl⟩
    obtain ⟨ne, t', e, ht⟩ := hx _ hm
    cases e
    obtain ⟨its2, r2, ⟨o, ho, hc, n, hd⟩, _⟩ := I.tuple ht
    exact ⟨ne, t, o, its2.toArray, n, rfl, ho, hc, hd, r2.ints⟩
  · have h3 : ∀ u ∈ out, ∃ a, u = Value.ref a := fun u hu => e2 u (h1.mem_iff.mp hu)
    obtain ⟨n, hn⟩ := hn
    have hb : (out.map backV).Perm xs := by rw [e1]; exact h1.map backV
    refine ⟨.ref d, upd H d (.lst (out.map backV)), I.laid (t' := s.toks) kp hd ⟨?_, out, n, vals_back h3, hn⟩, rfl, q _ d hb (List.pairwise_map.mpr h2) (I.hok.fresh hd)⟩
    rw [hb.length_eq]
    exact hz
def asTups : List D → Option (List (List Int))
  | [] => some []
  | .tup xs :: r => (asInts xs).bind fun ns => if ns = [] then none else (asTups r).map (ns :: ·)
  | _ => none
def encT (ns : List Int) : D := .tup (ns.map .int)
theorem asTups_eq : ∀ {ds : List D} {ts : List (List Int)}, asTups ds = some ts → ds = ts.map encT ∧ ∀ t ∈ ts, t ≠ []
  | [], ts, h => by cases h; exact ⟨rfl, by simp⟩
  | d :: ds, ts, h => by
    cases d <;> simp only [asTups] at h <;> try contradiction
    rename_i xs
    cases q : asInts xs with
    | none => rw [q] at h; cases h
    | some ns =>
      rw [q] at h
      simp only [Option.bind_some] at h
      split at h
      · cases h
      · rename_i ne
        cases q2 : asTups ds with
        | none => rw [q2] at h; cases h
        | some ts' =>
          rw [q2] at h
          cases h
          obtain ⟨e1, e2⟩ := asTups_eq q2
          have e3 := asInts_eq q
          subst e1 e3
          exact ⟨rfl, fun t ht => by
            rcases List.mem_cons.mp ht with rfl | ht
            · exact ne
            · exact e2 t ht⟩
def gSorted : List D → Option D
  | [.lst xs] => match asInts xs with
    | some ns => some (.lst ((srtI ns).map .int))
    | none => (asTups xs).map fun ts => .lst ((srtT ts).map encT)
  | _ => none
def rSortAA (K : PySem.W.Frag) : List V → Hp → VK → Prop := fun vs H Q => rSortedI K vs H Q ∨ rSortTA K vs H Q
theorem cr_sortAA : CallR X (.builtin "sorted") (rSortAA X.K) := by
  intro pins s σ H vs us Q I r h
  rcases h with h | h
  · exact cr_sortedI pins s σ H vs us Q I r h
  · exact cr_sortTA pins s σ H vs us Q I r h
/-- the ints of a tuple -/
theorem rp_encT {K : PySem.W.Frag} {H : Hp} {x : V} {ns : List Int} (h : Rp K H x (encT ns)) : ∃ t, x = .ref t ∧ H t = some (.tup (ns.map V.int)) := by
  obtain ⟨p, ys, rfl, h1, a1⟩ := rp_tup h
  have z := rp_ints a1; subst z
  exact ⟨p, rfl, h1⟩
theorem rp_encT_eq {K : PySem.W.Frag} {H : Hp} {x : V} {ns ms : List Int} (h : Rp K H x (encT ns)) (g : Rp K H x (encT ms)) : ns = ms := by
  obtain ⟨t, rfl, h1⟩ := rp_encT h
  obtain ⟨t', e, h2⟩ := rp_encT g
  cases e
  rw [h1] at h2
  have e := HO.tup.inj (Option.some.inj h2)
  exact (List.map_inj_right (fun a b q => V.int.inj q)).mp e
noncomputable def keyT (K : PySem.W.Frag) (H : Hp) (x : V) : List Int := by
  classical
  exact if h : ∃ ns, Rp K H x (encT ns) then h.choose else []
theorem keyT_eq {K : PySem.W.Frag} {H : Hp} {x : V} {ns : List Int} (h : Rp K H x (encT ns)) : keyT K H x = ns := by
  have e : ∃ ns, Rp K H x (encT ns) := ⟨ns, h⟩
  unfold keyT
  rw [dif_pos e]
  exact rp_encT_eq e.choose_spec h
theorem keyT_map {K : PySem.W.Frag} {H : Hp} : ∀ {vs : List V} {ts : List (List Int)}, RpAll K H vs (ts.map encT) → vs.map (keyT K H) = ts ∧ ∀ v ∈ vs, keyT K H v ∈ ts ∧ Rp K H v (encT (keyT K H v))
  | _, [], h => by cases h; exact ⟨rfl, by simp⟩
  | _, t :: ts, h => by
    cases h with
    | cons a r =>
      obtain ⟨e1, e2⟩ := keyT_map r
      have e := keyT_eq a
      refine ⟨by rw [List.map_cons, e, e1], fun v hv => ?_⟩
      rcases List.mem_cons.mp hv with rfl | hv
      · rw [e]; exact ⟨by simp, a⟩
      · exact ⟨by simp [(e2 v hv).1], (e2 v hv).2⟩
theorem rpall_keyT {K : PySem.W.Frag} {H : Hp} : ∀ {vs : List V}, (∀ v ∈ vs, Rp K H v (encT (keyT K H v))) → RpAll K H vs ((vs.map (keyT K H)).map encT)
  | [], _ => .nil
  | v :: vs, h => .cons (h v (by simp)) (rpall_keyT fun u hu => h u (by simp [hu]))
theorem cd_sorted {K : PySem.W.Frag} : CallD K (rSortAA K) gSorted := by
  intro vs ds d H Q rv e k
  match ds, e with
  | [.lst xs], e =>
    obtain ⟨v, rfl, r⟩ := rpall1 rv
    obtain ⟨p, ys, rfl, h1, a1⟩ := rp_lst r
    simp only [gSorted] at e
    cases q : asInts xs with
    | some ns =>
      rw [q] at e; cases e
      have z := asInts_eq q; subst z
      have z := rp_ints a1; subst z
      refine .inl ⟨p, ns, rfl, SqL.of h1, fun ns' l hp hs hl => ?_⟩
      rw [srtI_of hp hs]
      refine k _ _ (same_new hl) (.lst upd_same ?_)
      have hh : ∀ ms : List Int, RpAll K (upd H l (.lst ((srtI ns).map V.int))) (ms.map V.int) (ms.map .int) := by
        intro ms
        induction ms with
        | nil => exact .nil
        | cons m ms ih => exact .cons (.int m) ih
      exact hh _
    | none =>
      rw [q] at e
      simp only at e
      cases q2 : asTups xs with
      | none => rw [q2] at e; cases e
      | some ts =>
        rw [q2] at e; cases e
        obtain ⟨z, ne⟩ := asTups_eq q2
        subst z
        obtain ⟨e1, e2⟩ := keyT_map a1
        refine .inr ⟨p, ys, keyT K H, rfl, SqL.of h1, fun x hx => ⟨ne _ (e2 x hx).1, ?_⟩, fun zs l hp hs hl => ?_⟩
        · obtain ⟨t, et, ht⟩ := rp_encT (e2 x hx).2
          exact ⟨t, et, SqT.of ht⟩
        · have e3 : zs.map (keyT K H) = srtT ts := srtT_of (by rw [← e1]; exact hp.map _) (List.pairwise_map.mpr hs)
          refine k _ _ (same_new hl) (.lst upd_same ?_)
          rw [← e3]
          exact (rpall_keyT fun v hv => (e2 v (hp.mem_iff.mp hv)).2).mono (same_new hl)
theorem e_sorted (hm : X.mg "sorted" = none) (ha : PA X [a] (tA X.K W A)) (hg : Gl X "sorted" := by rfl) (he : starEach [a] X.env = (false, eval a X.env) :: starEach [] X.env := by rfl) : PE X (.Call (.Name "sorted" p) [a] [] pos) (tE X.K W (eCall gSorted A)) :=
  e_callB cr_sortAA cd_sorted hm (by decide +kernel) ha hg (he := he)
end
end PB

namespace PB
open PySem PySem.Spec PyProof.Rows L2

/-! ### set(xs) of a list of ints, the set's walk known -/
abbrev eSet (w : World) : Obj := { cls := .type "set", dict := none, data := .set #[] 0 (.fresh 0 0 (!w.params.followText "set-order")) }
section
variable {P : Program} {w : World} {A : Around} {E : Value → Shared → Prop} {s : Shared}
theorem set_initL {l : Addr} {its : Array Value} (ns : List Int) (hh : A.handled = none) (hl : s.heap.IsList l its) (hit : IntsAre its.toList ns) (hb : ns.length + 1 < scanBound) {R : Value → Shared → Prop}
    (k : ∀ (h' : Heap) (tk c : Nat), SetR w h' s.heap.objs.size (fun j => decide (j ∈ ns)) c → (∀ b o, s.heap.get? b = some o → h'.get? b = some o) → R .none { s with heap := h', toks := tk }) :
    codeAny (model P w) A (.call (.builtin "set.__init__") ⟨[.ref s.heap.objs.size, .ref l], []⟩) (wants R E) { s with heap := s.heap.push (eSet w) } := by
  have hn : its.size = ns.length := by
    have q := IntsAre.length hit
    rwa [Array.length_toList] at q
  have gS : (s.heap.push (eSet w)).get? s.heap.objs.size = some (eSet w) := Heap.get?_push_size _ rfl
  have ty : Shared.TypeIs { s with heap := s.heap.push (eSet w) } (.ref s.heap.objs.size) "set" := ⟨_, gS, rfl⟩
  refine codeAny_call_builtin F.called_set.init.plain F.entry_set_init (check_set_init_1 ty ?_)
  obtain ⟨⟨c0, d0, x0, t0⟩, ho, hc, n0, hd⟩ := hl
  simp only at hc hd
  subst hc hd
  have lt := Heap.lt_size ho
  have ho2 : (s.heap.push (eSet w)).get? l = some ⟨.type "list", d0, .seq its n0, t0⟩ := Heap.get?_push_of_some _ ho
  have il : (s.heap.push (eSet w)).IsList l its := ⟨_, ho2, rfl, n0, rfl⟩
  have u1 := F.sub_list_set
  have u2 := F.sub_list_frozenset
  have u3 : (Value.type "list" == Value.type "dict") = false := by decide
  unfold Builtin.«set.__init__» noKeywords Builtin.Frozenset.updateFrom
  generalize hG : pyIter = G
  wp_walk
  subst hG
  refine wpAny_pyIter_list il ?_
  refine wpAny_bind (wpAny_runValue ?_)
  have h3 : A.in1.in1.handled = none := by simp [hh]
  have n1 : l ≠ (s.heap.push (eSet w)).objs.size := by rw [Heap.size_push]; exact Nat.ne_of_lt (Nat.lt_succ_of_lt lt)
  have n2 : s.heap.objs.size ∉ [(s.heap.push (eSet w)).objs.size, l] := by
    rw [Heap.size_push]
    simp only [List.mem_cons, List.not_mem_nil, or_false, not_or]
    exact ⟨Nat.ne_of_lt (Nat.lt_succ_self _), Nat.ne_of_gt lt⟩
  refine set_update_ints (A := _) ((Walks.list h3 _ l n1 its).toS) s.heap.objs.size n2 ns hn hb (fun i v hv => ?val) its.size 0 _ (by omega) (Nat.zero_le _) ⟨⟨_, Heap.get?_push_size _ rfl, rfl, rfl⟩, il.push _⟩ ⟨0, Nat.le_refl 0, setR_new_at (Heap.get?_push_of_some _ gS)⟩ fun s' c hm _ hS => ?fin
  case val =>
    have hi : i < ns.length := by rw [← hn]; exact (Array.getElem?_eq_some_iff.mp hv).1
    obtain ⟨t, e⟩ := IntsAre.int_at hit i v (by rw [Array.getElem?_toList]; exact hv)
    rw [List.getD_eq_getElem?_getD, List.getElem?_eq_getElem hi] at e
    exact ⟨_, t, List.getElem?_eq_getElem hi, e⟩
  case fin =>
    obtain ⟨h', g', d', tk', os'⟩ := s'
    have e1 : g' = s.gens := hm.gens
    have e2 : d' = s.drawn := hm.drawn
    have e3 : os' = s.os := hm.os
    subst e1 e2 e3
    show wpAny _ _ _ _ _ _
    refine wpAny_pure ?_
    show wpAny _ _ (ret Value.none) _ _ _
    refine wpAny_pure (k h' tk' c hS fun b o e => ?_)
    have q := Heap.lt_size e
    refine hm.heap b o ?_ (Heap.get?_push_of_some _ (Heap.get?_push_of_some _ e))
    rw [Heap.size_push]
    simp only [List.mem_cons, List.not_mem_nil, or_false, not_or]
    exact ⟨Nat.ne_of_lt q, Nat.ne_of_lt (Nat.lt_succ_of_lt q)⟩
theorem call_setL {l : Addr} {its : Array Value} (ns : List Int) (hh : A.handled = none) (hl : s.heap.IsList l its) (hit : IntsAre its.toList ns) (hb : ns.length + 1 < scanBound) {Q : Value → Shared → Prop}
    (k : ∀ (h' : Heap) (tk c : Nat), SetR w h' s.heap.objs.size (fun j => decide (j ∈ ns)) c → (∀ b o, s.heap.get? b = some o → h'.get? b = some o) → Q (.ref s.heap.objs.size) { s with heap := h', toks := tk }) :
    wpAny (model P w) A (call (.type "set") [.ref l]) Q E s := by
  obtain ⟨c, tl, q1⟩ := F.called_set.mro
  have q2 := F.called_set.made
  have q3 := F.called_set.sub
  have q4 := F.called_set.notType
  have q5 := F.called_set.canCreate
  have q6 := F.typeCall_set_1 (.ref l)
  refine wpAny_call (codeAny_of_tree ?_)
  show wpAny _ _ (callAny (.type "set") _) _ _ _
  refine wpAny_pure ⟨Code.quiet_builtin _ (by decide +kernel), codeAny_builtin F.entry_type_call ?_⟩
  rw [Around.under_plain (weight_type_call_type "set" [.ref l] []) rfl]
  repeat (any_goals (first | assumption | wp_step))
  refine codeAny_mono (code_set_led1 (.ref l) (E := E) (Q₁ := fun o1 s1 => o1 = .ref s.heap.objs.size ∧ s1 = { s with heap := s.heap.push (eSet w) }) ⟨rfl, rfl⟩) fun r s1 hr => ?_
  cases r with
  | error e => exact hr
  | ok f =>
    cases f with
    | ret o1 =>
      obtain ⟨rfl, rfl⟩ := hr
      have gS : (s.heap.push (eSet w)).get? s.heap.objs.size = some (eSet w) := Heap.get?_push_size _ rfl
      have ty : Shared.TypeIs { s with heap := s.heap.push (eSet w) } (.ref s.heap.objs.size) "set" := ⟨_, gS, rfl⟩
      have q7 := F.called_set.init.lookup
      have q8 := F.called_set.init.bind (.ref s.heap.objs.size)
      repeat (any_goals (first | assumption | wp_step))
      refine codeAny_mono (set_initL (A := A.in1) (P := P) (E := E) (R := fun v s2 => v = .none ∧ ∃ h' tk c, s2 = { s with heap := h', toks := tk } ∧ SetR w h' s.heap.objs.size (fun j => decide (j ∈ ns)) c ∧ ∀ b o, s.heap.get? b = some o → h'.get? b = some o) ns (by simpa using hh) hl hit hb fun h' tk c hS hk => ⟨rfl, h', tk, c, rfl, hS, hk⟩) fun r2 s2 hr2 => ?_
      cases r2 with
      | error e => exact hr2
      | ok f2 =>
        cases f2 with
        | ret v =>
          obtain ⟨rfl, h', tk, c, rfl, hS, hk⟩ := hr2
          repeat (any_goals (first | assumption | wp_step))
          exact k h' tk c hS hk
        | _ => exact hr2.elim
    | _ => exact hr.elim
end
/-! ### sorted(set(xs)) -/
def ddp : List Int → List Int
  | [] => []
  | x :: l => if x ∈ l then ddp l else x :: ddp l
theorem ddp_mem {k : Int} : ∀ l : List Int, k ∈ ddp l ↔ k ∈ l
  | [] => .rfl
  | x :: l => by
    rw [ddp]
    split
    · rename_i h
      rw [ddp_mem l, List.mem_cons]
      exact ⟨.inr, fun q => q.elim (fun e => e ▸ h) _root_.id⟩
    · rw [List.mem_cons, List.mem_cons, ddp_mem l]
theorem ddp_nodup : ∀ l : List Int, (ddp l).Nodup
  | [] => .nil
  | x :: l => by
    rw [ddp]
    split
    · exact ddp_nodup l
    · rename_i h
      exact List.nodup_cons.mpr ⟨fun q => h ((ddp_mem l).mp q), ddp_nodup l⟩
theorem nodup_perm {l m : List Int} (hl : l.Nodup) (hm : m.Nodup) (h : ∀ k, k ∈ l ↔ k ∈ m) : l.Perm m := (List.perm_ext_iff_of_nodup hl hm).mpr h
def rSetI (K : PySem.W.Frag) (w : World) : List V → Hp → VK → Prop := fun vs H Q => ∃ (l : Addr) (ns : List Int), vs = [V.ref l] ∧ SqL K H l (ns.map V.int) ∧ ns.length ≤ 1000 ∧ ∀ a, H a = none → Q (.ref a) (upd H a (SetO w a (fun j => decide (j ∈ ns)) (ddp ns).length))
section
variable {X : Cx} {W : Wsh} {a e : Expr} {F : Sl → Rs D} {A : Sl → Rs (List D)} {p p2 q pos : Pos}
theorem cr_setI (hc : X.calm = true) : CallR X (.type "set") (rSetI X.K X.w) := by
  intro pins s σ H vs us Q I r h
  obtain ⟨l, ns, rfl, hs, hb, q⟩ := h
  obtain ⟨its, rv, hl, _⟩ := I.list hs
  rw [Vals.ref1 r]
  refine call_setL ns (I.ok.hd hc) hl.isList (by simpa using rv.ints) (by unfold scanBound; omega) fun h' tk c hS hk => ?_
  have e : c = (ddp ns).length := by
    obtain ⟨o, es, ep, t, ho, hx, hd, g, nd, hm, hb, hf, hn, _⟩ := hS
    have p := nodup_perm nd (ddp_nodup ns) fun k => by
      rw [ddp_mem, ← hm k]; simp
    have := p.length_eq
    rw [List.length_map, Array.length_toList] at this
    omega
  rw [e] at hS
  exact ⟨.ref _, upd H s.heap.objs.size (SetO X.w s.heap.objs.size (fun j => decide (j ∈ ns)) (ddp ns).length), I.laid (t' := tk) hk (Nat.le_refl _) (setO_new hS), rfl, q _ (I.hok.fresh (Nat.le_refl _))⟩
def dSortSet : D → Option D
  | .lst xs => (asInts xs).bind fun ns => if ns.length ≤ 1000 ∧ (ddp ns).length < 64 then some (.lst ((srtI (ddp ns)).map .int)) else none
  | _ => none
theorem e_sortSet (hm : X.mg "sorted" = none) (hm2 : X.mg "set" = none) (he : PE X e (tE X.K W F)) (hc : X.calm = true := by rfl) (hg : Gl X "sorted" := by rfl) (hg2 : Gl X "set" := by rfl)
    (hs : starEach [e] X.env = (false, eval e X.env) :: starEach [] X.env := by rfl) (hs2 : starEach [.Call (.Name "set" p2) [e] [] q] X.env = (false, eval (.Call (.Name "set" p2) [e] [] q) X.env) :: starEach [] X.env := by rfl) :
    PE X (.Call (.Name "sorted" p) [.Call (.Name "set" p2) [e] [] q] [] pos) (tE X.K W (eUn dSortSet F)) :=
  pe_imp (pe_callB (cr_sortedSet hc) hg hm (by decide +kernel) (he := hs2) (pa_cons (pe_callTy (cr_setI hc) hg2 hm2 (by decide +kernel) (pa_cons he pa_nil hs) (he := hs)) pa_nil hs2)) fun σ H Q h => by
    obtain ⟨ρ, rr, h⟩ := h
    refine ⟨ρ, rr, cs_mono (cs_bind h) (fun dx h1 v1 H1 s1 r1 => ?_) fun c q => q⟩
    obtain ⟨d, e, h3⟩ := cs_of h1
    cases dx <;> simp only [dSortSet] at e <;> try contradiction
    rename_i xs
    cases q : asInts xs with
    | none => rw [q] at e; cases e
    | some ns =>
      rw [q] at e
      simp only [Option.bind_some] at e
      split at e
      · rename_i hh
        cases e
        have z := asInts_eq q; subst z
        obtain ⟨l, ys, rfl, g1, a1⟩ := rp_lst r1
        have z := rp_ints a1; subst z
        refine ⟨l, ns, rfl, SqL.of g1, hh.1, fun b hb => ?_⟩
        refine ⟨b, _, _, rfl, upd_same, hh.2, fun ms p2 hs hm hl hp => ?_⟩
        have e4 : ms = srtI (ddp ns) := srtI_of (nodup_perm (hs.imp fun q => by omega) (ddp_nodup ns) fun k => by rw [hm, ddp_mem]; simp) (hs.imp fun q => by omega)
        rw [e4]
        have hh : ∀ (ms : List Int) (H : Hp), RpAll X.K H (ms.map V.int) (ms.map .int) := by
          intro ms H
          induction ms with
          | nil => exact .nil
          | cons m ms ih => exact .cons (.int m) ih
        exact h3 _ _ (s1.trans ((same_new hb).trans (same_new hp))) (.lst upd_same (hh _ _))
      · cases e
end
end PB

namespace PB
open PySem PySem.Spec PyProof.Rows L2

/-! ### locking a dict: what is read stays -/
structure Sim (K : PySem.W.Frag) (H H' : Hp) : Prop where
  l : ∀ a xs, H a = some (.lst xs) → H' a = some (.lst xs)
  t : ∀ a xs, H a = some (.tup xs) → H' a = some (.tup xs)
  d : ∀ a kvs, Rd H a (.dK kvs) → Rd H' a (.dK kvs)
  s : ∀ a xs, SqL K H a xs → SqL K H' a xs
  x : ∀ a φ, H a = some (.ext φ) → H' a = some (.ext φ)
  b : ∀ P, TabP H P → TabP H' P
  i : ∀ a C dx fs, H a = some (.ins C dx fs) → H' a = some (.ins C dx fs)
  w : ∀ a x, H a = some (.own x) → H' a = some (.own x)
section
variable {K : PySem.W.Frag} {H H' H0 G : Hp} {p : Addr} {k0 : List (Key × V)} {od : Obj} {own : List Nat} {σ : L2.St} {ρ : Sl}
mutual
theorem Rp.sim (s : Sim K H H') : ∀ {v : V} {d : D}, Rp K H v d → Rp K H' v d
  | _, _, .non => .non
  | _, _, .bl b => .bl b
  | _, _, .int i => .int i
  | _, _, .str x => .str x
  | _, _, .lst h a => .lst (s.l _ _ h) (RpAll.sim s a)
  | _, _, .tup h a => .tup (s.t _ _ h) (RpAll.sim s a)
  | _, _, .dct h a => .dct (s.d _ _ h) (RpKV.sim s a)
  | _, _, .scr h => .scr (s.s _ _ h)
  | _, _, .clo h1 h2 h3 h4 => .clo (s.x _ _ h1) (s.x _ _ h2) h3 (RpCl.sim s h4)
  | _, _, .lam h1 h2 => .lam (s.x _ _ h1) (s.x _ _ h2)
  | _, _, .ins h1 h2 h3 => .ins (s.i _ _ _ _ h1) (s.w _ _ h2) (RpF.sim s h3)
  | _, _, .obj => .obj
theorem RpAll.sim (s : Sim K H H') : ∀ {v : List V} {d : List D}, RpAll K H v d → RpAll K H' v d
  | _, _, .nil => .nil
  | _, _, .cons h t => .cons (Rp.sim s h) (RpAll.sim s t)
theorem RpKV.sim (s : Sim K H H') : ∀ {v : List (Key × V)} {d : List (Int × D)}, RpKV K H v d → RpKV K H' v d
  | _, _, .nil => .nil
  | _, _, .cons h t => .cons (Rp.sim s h) (RpKV.sim s t)
theorem RpF.sim (s : Sim K H H') : ∀ {v : List (Str × V)} {d : List (Str × D)}, RpF K H v d → RpF K H' v d
  | _, _, .nil => .nil
  | _, _, .cons h t => .cons (Rp.sim s h) (RpF.sim s t)
theorem RpCl.sim (s : Sim K H H') : ∀ {v : List (Str × Addr)} {d : List D}, RpCl K H v d → RpCl K H' v d
  | _, _, .nil => .nil
  | _, _, .cons h1 h2 h3 h t => .cons (s.x _ _ h1) h2 h3 (Rp.sim s h) (RpCl.sim s t)
end
theorem rd_upd {a : Addr} {u o : HO} (n : a ≠ p) (h : Rd H a u) : Rd (upd H p o) a u := by
  rcases h with h | ⟨q, h⟩
  · exact .inl (by rw [upd_ne n]; exact h)
  · exact .inr ⟨q, by rw [upd_ne n]; exact h⟩
theorem tab_upd {o o' : HO} (h : H p = some o) (n : isX o = false) {P : Addr} (t : TabP H P) : TabP (upd H p o') P := by
  obtain ⟨ps, h1, h2, h3⟩ := t
  refine ⟨ps, by rw [upd_ne (fun z => by rw [z, h] at h1; cases h1; cases n)]; exact h1, h2, fun pos cv hc => ?_⟩
  obtain ⟨c, e1, e2⟩ := h3 pos cv hc
  exact ⟨c, e1, by rw [upd_ne (fun z => by rw [z, h] at e2; cases e2; cases n)]; exact e2⟩
theorem sim_lock (h : H p = some (.dK k0)) : Sim K H (upd H p (.frz od (.dK k0))) where
  l := fun a xs e => by rw [upd_ne (fun z => by rw [z, h] at e; cases e)]; exact e
  t := fun a xs e => by rw [upd_ne (fun z => by rw [z, h] at e; cases e)]; exact e
  x := fun a φ e => by rw [upd_ne (fun z => by rw [z, h] at e; cases e)]; exact e
  b := fun P t => tab_upd h rfl t
  i := fun a C dx fs e => by rw [upd_ne (fun z => by rw [z, h] at e; cases e)]; exact e
  w := fun a x e => by rw [upd_ne (fun z => by rw [z, h] at e; cases e)]; exact e
  d := fun a kvs e => by
    by_cases z : a = p
    · subst z
      rcases e with e | ⟨o, e⟩
      · rw [h] at e; cases e; exact .inr ⟨_, upd_same⟩
      · rw [h] at e; cases e
    · exact rd_upd z e
  s := fun a xs e => by
    rcases e with e | e
    · refine .inl (rd_upd (fun z => ?_) e)
      subst z
      rcases e with e | ⟨o, e⟩ <;> (rw [h] at e; cases e)
    · exact .inr e
theorem sim_unlock (h : H p = some (.frz od (.dK k0))) : Sim K H (upd H p (.dK k0)) where
  l := fun a xs e => by rw [upd_ne (fun z => by rw [z, h] at e; cases e)]; exact e
  t := fun a xs e => by rw [upd_ne (fun z => by rw [z, h] at e; cases e)]; exact e
  x := fun a φ e => by rw [upd_ne (fun z => by rw [z, h] at e; cases e)]; exact e
  b := fun P t => tab_upd h rfl t
  i := fun a C dx fs e => by rw [upd_ne (fun z => by rw [z, h] at e; cases e)]; exact e
  w := fun a x e => by rw [upd_ne (fun z => by rw [z, h] at e; cases e)]; exact e
  d := fun a kvs e => by
    by_cases z : a = p
    · subst z
      rcases e with e | ⟨o, e⟩
      · rw [h] at e; cases e
      · rw [h] at e; cases e; exact .inl upd_same
    · exact rd_upd z e
  s := fun a xs e => by
    rcases e with e | e
    · refine .inl (rd_upd (fun z => ?_) e)
      subst z
      rcases e with e | ⟨o, e⟩ <;> (rw [h] at e; cases e)
    · exact .inr e
theorem same_unlock (q : Same (upd G p (.frz od (.dK k0))) H) (hG : G p = some (.dK k0)) : Same G (upd H p (.dK k0)) := by
  have e := q p _ upd_same
  refine ⟨fun a o z n => ?_, fun P t => tab_upd e rfl (q.t P (tab_upd hG rfl t))⟩
  by_cases zz : a = p
  · subst zz; rw [hG] at z; cases z; exact upd_same
  · rw [upd_ne zz]
    exact q.o a o (by rw [upd_ne zz]; exact z) n
theorem hide_upd {as : List Addr} {o : HO} (n : p ∉ as) : hide as (upd H p o) = upd (hide as H) p o := by
  funext b
  by_cases hb : b ∈ as
  · rw [hide_in hb, upd_ne (fun e : b = p => n (e ▸ hb)), hide_in hb]
  · by_cases e : b = p
    · subst e; rw [hide_out hb, upd_same, upd_same]
    · rw [hide_out hb, upd_ne e, upd_ne e, hide_out hb]
theorem OwnRp.sim {o : Option HO} {d : D} (s : Sim K H H') (h : OwnRp K H o d) : OwnRp K H' o d := by
  rcases h with ⟨xs, ds, e, rfl, c⟩ | ⟨xs, ds, e, rfl, c⟩
  · exact .inl ⟨xs, ds, e, rfl, c.sim s⟩
  · exact .inr ⟨xs, ds, e, rfl, c.sim s⟩
theorem R.swap {o : HO} (r : R K H0 own σ H ρ) (n : p ∉ adr own σ) (s : Sim K (hide (adr own σ) H) (upd (hide (adr own σ) H) p o)) (b : Same G (upd (hide (adr own σ) H) p o)) : R K G own σ (upd H p o) ρ := by
  refine ⟨r.len, fun i hi => ?_, r.nd, by rw [hide_upd n]; exact b, fun i d hi e => ?_, by rw [hide_upd n]; exact fun x hx e => s.b _ (r.tabs x hx e)⟩
  · obtain ⟨q, d, e1, e2, h⟩ := r.own_ i hi
    have np : q ≠ p := fun e => n (by rw [← e, ← adr1_of e1]; exact List.mem_map.mpr ⟨i, hi, rfl⟩)
    refine ⟨q, d, e1, e2, ?_⟩
    rw [hide_upd n, upd_ne np]
    exact h.sim s
  · obtain ⟨v, e1, h⟩ := r.slot i d hi e
    exact ⟨v, e1, by rw [hide_upd n]; exact h.sim s⟩
theorem R.lock (r : R K H0 own σ H ρ) (h : hide (adr own σ) H p = some (.dK k0)) : R K (upd (hide (adr own σ) H) p (.frz od (.dK k0))) own σ (upd H p (.frz od (.dK k0))) ρ := by
  have n : p ∉ adr own σ := fun q => by rw [hide_in q] at h; cases h
  exact r.swap n (sim_lock h) (Same.refl _)
theorem R.unlock (r : R K (upd G p (.frz od (.dK k0))) own σ H ρ) (h : G p = some (.dK k0)) : H p = some (.frz od (.dK k0)) ∧ R K G own σ (upd H p (.dK k0)) ρ := by
  have e := r.base p _ upd_same
  have n : p ∉ adr own σ := fun q => by rw [hide_in q] at e; cases e
  have e' := e
  rw [hide_out n] at e'
  exact ⟨e', r.swap n (sim_unlock e) (same_unlock r.base h)⟩
theorem cs_noEx {α β : Type} {r : Rs α} {f : α → Rs β} {P : β → Prop} {q : Nat → Prop} (h : cs (noEx (r.bind f)) P q) : cs r (fun a => cs (noEx (f a)) P q) (fun _ => False) := by
  cases r with
  | ok a => exact h
  | ex c => exact h.elim
  | bad => exact h.elim
theorem cs_noEx0 {α : Type} {r : Rs α} {P : α → Prop} {q q' : Nat → Prop} (h : cs (noEx r) P q) : cs (noEx r) P q' := by
  cases r with
  | ok a => exact h
  | ex c => exact h.elim
  | bad => exact h.elim
end
/-! ### for k in d -/
def dkeys (kds : List (Int × D)) : List D := kds.map fun kv => .int kv.1
theorem RpKV.at {K : PySem.W.Frag} {H : Hp} : ∀ {kvs : List (Key × V)} {kds : List (Int × D)} {i : Nat} {k : Key} {v : V}, RpKV K H kvs kds → kvs[i]? = some (k, v) → ∃ j d, kds[i]? = some (j, d) ∧ k = .inl j ∧ Rp K H v d
  | _, _, _, _, _, .nil, e => by simp at e
  | _, _, 0, _, _, .cons h _, e => by simp at e; obtain ⟨rfl, rfl⟩ := e; exact ⟨_, _, rfl, rfl, h⟩
  | _, _, i + 1, k, v, .cons _ t, e => by
    obtain ⟨j, d, h1, h2⟩ := RpKV.at (i := i) (k := k) (v := v) t (by simpa using e)
    exact ⟨j, d, by simpa using h1, h2⟩
theorem wk_k {K : PySem.W.Frag} {H1 : Hp} {a : Addr} {od : Obj} {kvs : List (Key × V)} {kds : List (Int × D)} (h : H1 a = some (.frz od (.dK kvs))) (r : RpKV K H1 kvs kds) : WkD K (Itk a od kvs) H1 (dkeys kds) where
  go := fun i H s hi => ⟨s _ _ h, by rw [dkeys, List.length_map] at hi; rw [r.len]; exact hi⟩
  stop := fun H s => ⟨s _ _ h, by rw [dkeys, List.length_map, r.len]; exact Nat.le_refl _⟩
  yld := fun i H x H' d s e y => by
    obtain ⟨e1, k, v, e2, rfl⟩ := y
    obtain ⟨j, d', q1, rfl, _⟩ := r.at e2
    rw [dkeys, List.getElem?_map, q1] at e
    cases e
    exact .inl ⟨e1, .int _⟩
section
variable {X : Cx} {W : Wsh} {own ownB : List Nat} {S : Sl → Rs Out} {sts : List Stmt} {tg e : Expr} {g : TG} {T : D → Option Asn} {pos : Pos}
/-- the loop over the keys of a locked dict, its base the heap in which it is locked -/
theorem forK_core {te : TE} {G H : Hp} {σ : L2.St} {ρ : Sl} {E : Ends} {a : Addr} {od : Obj} {kvs : List (Key × V)} {kds : List (Int × D)} (ht : TgP X.K g T) (ap : Apart own T) (hG : G a = some (.frz od (.dK kvs))) (hk : RpKV X.K G kvs kds) (r : R X.K G own σ H ρ)
    (hv : ∀ Q : VK, (∀ H1, Same H H1 → (∀ b ∈ adr own σ, H1 b = H b) → Same (hide (adr own σ) H) (hide (adr own σ) H1) → Q (.ref a) H1) → te σ H Q) (hc : cs (noEx (forL T S (dkeys kds) ρ)) (oc X.K G own ownB E) (fun _ => False)) :
    tFor (iKeys te) g (fun E σ H => ∃ H0, tS X.K W H0 own S own own E σ H) E σ H := by
  refine hv _ fun H1 s1 k1 s2 => ?_
  have r1 : R X.K G own σ H1 ρ := r.growG s2 k1
  have hd1 : H1 a = some (.frz od (.dK kvs)) := hide_same _ _ (r1.base _ _ hG)
  refine ⟨a, od, rfl, .inl ⟨kvs, hd1, ?_⟩⟩
  have wk := wk_k hG hk
  generalize dkeys kds = ds at *
  refine ⟨fun i m σ' H' => m = ds.length - i ∧ i ≤ ds.length ∧ ∃ ρ', R X.K G own σ' H' ρ' ∧ cs (noEx (forL T S (ds.drop i) ρ')) (oc X.K G own ownB E) (fun _ => False), ⟨ds.length, by simp, Nat.zero_le _, ρ, r1, by simpa using hc⟩, ?_⟩
  rintro i m σ' H' ⟨rfl, hile, ρ', r', hc⟩
  have s1' : Same G H' := r'.base.trans hide_same
  by_cases hlt : i < ds.length
  · have hdi : ds[i]? = some ds[i] := List.getElem?_eq_getElem hlt
    have hdrop : ds.drop i = ds[i] :: ds.drop (i + 1) := by rw [List.drop_eq_getElem_cons hlt]
    rw [hdrop] at hc
    have hc1 : cs (noEx ((Rs.of (T ds[i])).bind fun as => (S (setD ρ' as)).bind fun o => match o with
      | .nx ρ' => forL T S (ds.drop (i + 1)) ρ'
      | .ct ρ' => forL T S (ds.drop (i + 1)) ρ'
      | .bk ρ' => .ok (.nx ρ')
      | .rt v => .ok (.rt v))) (oc X.K G own ownB E) (fun _ => False) := hc
    obtain ⟨as, eT, hc2⟩ := cs_of (cs_noEx hc1)
    have hc3 := cs_noEx hc2
    refine .inr ⟨wk.go i H' s1' hlt, fun σ2 H2 => ∃ ρ2, R X.K G own σ2 H2 ρ2 ∧ cs (noEx (forL T S (ds.drop (i + 1)) ρ2)) (oc X.K G own ownB E) (fun _ => False), fun σ2 H2 hN => ?_, fun x H3 y => ?_⟩
    · exact ⟨ds.length - (i + 1), by omega, rfl, hlt, hN⟩
    · obtain ⟨s3, s3h, rx, hk⟩ := (wk.yld i H' x H3 _ s1' hdi y).hid r'.base r'.ne
      have r3 : R X.K G own σ' H3 ρ' := r'.growG s3h hk
      refine ht x ds[i] _ H3 σ' as _ hide_same rx eT fun vs rvs => ?_
      refine ⟨G, _, r3.sets (ap _ as eT) rvs, cs_mono hc3 (fun o h2 => ?_) fun c q => q.elim⟩
      cases o with
      | nx ρ2 => exact fun σ2 H2 r2 => ⟨ρ2, r2, h2⟩
      | ct ρ2 => exact fun σ2 H2 r2 => ⟨ρ2, r2, h2⟩
      | bk ρ2 => exact fun σ2 H2 r2 => h2 σ2 H2 r2
      | rt d => exact fun v H2 s rv => h2 v H2 s rv
  · have e : i = ds.length := by omega
    subst e
    rw [List.drop_length] at hc
    exact .inl ⟨wk.stop H' s1', hc σ' H' r'⟩
theorem ps_or {st : Stmt} {t t' : TS} (h : PS X st t) (h' : PS X st t') : PS X st (fun E σ H => t E σ H ∨ t' E σ H) := ⟨fun pins s σ H E I hw => by
  rcases hw with hw | hw
  · exact h.run pins s σ H E I hw
  · exact h'.run pins s σ H E I hw⟩
theorem oc_lock {K : PySem.W.Frag} {G H0 : Hp} {p : Addr} {k0 : List (Key × V)} {od : Obj} {E : Ends} {own ownB : List Nat} (hG : G p = some (.dK k0)) (s : Same H0 G) {o : Out} (h : oc K H0 own ownB E o) :
    oc K (upd G p (.frz od (.dK k0))) own ownB ⟨fun σ' H' => H' p = some (.frz od (.dK k0)) ∧ E.nx σ' (upd H' p (.dK k0)), fun v H' => H' p = some (.frz od (.dK k0)) ∧ E.rt v (upd H' p (.dK k0)), fun σ' H' => H' p = some (.frz od (.dK k0)) ∧ E.bk σ' (upd H' p (.dK k0)), fun σ' H' => H' p = some (.frz od (.dK k0)) ∧ E.ct σ' (upd H' p (.dK k0))⟩ o := by
  cases o with
  | nx ρ => exact fun σ H r => ⟨(r.unlock hG).1, h σ _ ((r.unlock hG).2.unbase s)⟩
  | bk ρ => exact fun σ H r => ⟨(r.unlock hG).1, h σ _ ((r.unlock hG).2.unbase s)⟩
  | ct ρ => exact fun σ H r => ⟨(r.unlock hG).1, h σ _ ((r.unlock hG).2.unbase s)⟩
  | rt d =>
    intro v H q rv
    have e := q p _ upd_same
    exact ⟨e, h v _ (s.trans (same_unlock q hG)) (rv.sim (sim_unlock e))⟩
/-- for k in x: the keys of a dict that a name holds -/
def sForK (i : Nat) (T : D → Option Asn) (S : Sl → Rs Out) : Sl → Rs Out := fun ρ => match ρ[i]? with
  | some (some (.dct kds)) => noEx (forL T S (dkeys kds) ρ)
  | _ => .bad
theorem s_forK {i : Nat} (hp : PassesOwn (model X.prog X.w) X.A X.env X.xe) (hi : i ∉ own) (hv : PE X e (tVar i)) (hg : PG X tg g) (ht : TgP X.K g T) (ap : Apart own T) (hb : DSs X W own S own own sts) (hcm : X.calm = true := by rfl)
    (hs : ∀ x, foldedSetIterable e X.env x = pure x := by intro _; rfl) : DS X W own (sForK i T S) own ownB (.For tg e sts [] pos) := by
  refine ⟨fun H0 => ?_⟩
  have hb' : PSs X sts (fun E σ H => ∃ H0, tS X.K W H0 own S own own E σ H) := ⟨fun pins s σ H E I hw => by
    obtain ⟨H0, hw⟩ := hw
    exact (hb.ps H0).run pins s σ H E I hw⟩
  have pf := ps_for hp hcm (pi_keys hv) hg hb' hs (pos := pos)
  refine ps_imp (ps_or (ps_lock pf) pf) fun E σ H hw => ?_
  obtain ⟨ρ, r, hw⟩ := hw
  unfold sForK at hw
  cases hρ : ρ[i]? with
  | none => rw [hρ] at hw; exact hw.elim
  | some x =>
    rw [hρ] at hw
    cases x with
    | none => exact hw.elim
    | some d =>
      cases d with
      | dct kds =>
        have hw : cs (noEx (forL T S (dkeys kds) ρ)) (oc X.K H0 own ownB E) _ := hw
        obtain ⟨v, e1, rv⟩ := r.slot i _ hi hρ
        cases rv with
        | @dct a kvs _ ha hk =>
          rcases ha with ha | ⟨od, ha⟩
          · left
            refine ⟨a, .dK kvs, hide_same _ _ ha, trivial, fun od => ?_⟩
            have r2 := r.lock (od := od) ha
            refine forK_core (ownB := ownB) ht ap upd_same (hk.sim (sim_lock ha)) r2 (fun Q hQ => ⟨_, e1, hQ _ (Same.refl _) (fun _ _ => rfl) (Same.refl _)⟩) (cs_mono (cs_noEx0 hw) (fun o h => oc_lock ha r.base h) fun c q => q)
          · right
            refine forK_core (ownB := ownB) ht ap ha hk r.rebase (fun Q hQ => ⟨_, e1, hQ _ (Same.refl _) (fun _ _ => rfl) (Same.refl _)⟩) (cs_mono (cs_noEx0 hw) (fun o h => ?_) fun c q => q)
            cases o with
            | nx ρ => exact fun σ H q => h σ H (q.unbase r.base)
            | bk ρ => exact fun σ H q => h σ H (q.unbase r.base)
            | ct ρ => exact fun σ H q => h σ H (q.unbase r.base)
            | rt d => exact fun v H q rv => h v H (r.base.trans q) rv
      | _ => exact hw.elim
end
/-! ### {} and {k: v} as values -/
section
variable {X : Cx} {W : Wsh} {F G : Sl → Rs D} {kx vx : Expr} {dp : Pos}
def eDct0 : Sl → Rs D := fun _ => .ok (.dct [])
theorem e_newD0 : PE X (.Dict [] [] dp) (tE X.K W eDct0) := pe_imp pe_dnewK fun σ H Q h p hp => by
  obtain ⟨ρ, rr, h⟩ := h
  exact h _ _ (same_new hp) (.dct (.inl upd_same) .nil)
def eDct1 (G F : Sl → Rs D) : Sl → Rs D := fun ρ => (G ρ).bind fun y => (F ρ).bind fun d => match y with
  | .int k => .ok (.dct [(k, d)])
  | _ => .bad
theorem hide_one {H : Hp} {p : Addr} {o : HO} (hp : H p = none) : hide [p] (upd H p o) = H := by
  funext b
  by_cases e : b = p
  · subst e; rw [hide_in (by simp), hp]
  · rw [hide_out (by simp [e]), upd_ne e]
theorem e_newD1 (hk : PE X kx (tE X.K W G)) (hv : PE X vx (tE X.K W F)) : PE X (.Dict [some kx] [vx] dp) (tE X.K W (eDct1 G F)) := pe_imp (pe_disp (pps_cons (pe_fr hk) (pe_fr hv) pps_nil) rfl rfl (by simp) (by simp)) fun σ H Q h p hp => by
  obtain ⟨ρ, rr, h⟩ := h
  have mu : ∀ H', Mu [p] (upd H' p (.dK [])) := fun H' b hb => by
    obtain rfl := List.mem_singleton.mp hb
    exact .inr ⟨[], upd_same⟩
  refine ⟨[p], mu H, ρ, by rw [hide_one hp]; exact rr, ?_⟩
  rw [hide_one hp]
  refine cs_mono (cs_bind h) (fun y h1 v1 H1 s1 r1 n1 => ?_) fun c q => q
  have n1 : H1 p = none := n1 p (by simp)
  have e1 : put [p] (upd H p (.dK [])) H1 = upd H1 p (.dK []) := by
    funext b
    by_cases e : b = p
    · subst e; rw [put_in (by simp), upd_same, upd_same]
    · rw [put_out (by simp [e]), upd_ne e]
  rw [e1]
  refine ⟨[p], mu H1, ρ, by rw [hide_one n1]; exact rr.mono s1, ?_⟩
  rw [hide_one n1]
  refine cs_mono (cs_bind h1) (fun d h2 v2 H2 s2 r2 n2 => ?_) fun c q H' s => q H' (s1.trans s)
  have n2 : H2 p = none := n2 p (by simp)
  have e2 : put [p] (upd H1 p (.dK [])) H2 = upd H2 p (.dK []) := by
    funext b
    by_cases e : b = p
    · subst e; rw [put_in (by simp), upd_same, upd_same]
    · rw [put_out (by simp [e]), upd_ne e]
  rw [e2]
  cases r1 with
  | int j =>
    have h3 : ∀ v H', Same H H' → Rp X.K H' v (.dct [(j, d)]) → Q v H' := h2
    refine ⟨upd_same, [(.inl j, v2)], rfl, by simp, ?_⟩
    have e3 : upd (upd H2 p (.dK [])) p (.dK (mergeK [] [(.inl j, v2)])) = upd H2 p (.dK [(.inl j, v2)]) := by
      funext b
      by_cases e : b = p
      · subst e; rw [upd_same, upd_same]; rfl
      · rw [upd_ne e, upd_ne e, upd_ne e]
    rw [e3]
    exact h3 _ _ ((s1.trans s2).trans (same_new n2)) (.dct (.inl upd_same) (.cons (r2.mono (same_new n2)) .nil))
  | _ => exact h2.elim
end
end PB

namespace PB
open PySem PySem.Spec PyProof.Rows L2

/-! ### a < b of ints or of tuples of ints; a << b -/
def dLtA : D → D → Option D
  | .int i, .int j => some (.bl (decide (i < j)))
  | .tup xs, .tup ys => (asInts xs).bind fun ns => (asInts ys).bind fun ms => some (.bl (HT.lexLt ns ms))
  | _, _ => none
def rLtA (K : PySem.W.Frag) : R2 := fun x y H Q => rI0 (fun i j => .bl (decide (i < j))) x y H Q ∨ rLtT K x y H Q
theorem op_ltA {X : Cx} {k : Nat} (hr : Room k X.A) : OpR X (compareOp .Lt) (rLtA X.K) := OpR.or op_lt (op_ltT (by have := hr.units; omega))
theorem od_ltA {K : PySem.W.Frag} : OpD K (rLtA K) dLtA := by
  intro x y dx dy d H Q rx ry e k
  cases dx <;> cases dy <;> simp only [dLtA] at e <;> try contradiction
  · cases e
    exact .inl ⟨_, _, rp_int rx, rp_int ry, k _ H (Same.refl H) (.bl _)⟩
  · rename_i xs ys
    cases q1 : asInts xs with
    | none => rw [q1] at e; cases e
    | some ns =>
      cases q2 : asInts ys with
      | none => rw [q1, q2] at e; cases e
      | some ms =>
        rw [q1, q2] at e
        cases e
        have z := asInts_eq q1; subst z
        have z := asInts_eq q2; subst z
        obtain ⟨p, us, rfl, h1, a1⟩ := rp_tup rx
        have z := rp_ints a1; subst z
        obtain ⟨p', us', rfl, h1', a1'⟩ := rp_tup ry
        have z := rp_ints a1'; subst z
        exact .inr ⟨p, p', ns, ms, rfl, rfl, SqT.of h1, SqT.of h1', k _ H (Same.refl H) (.bl _)⟩
section
variable {X : Cx} {W : Wsh} {a b o e : Expr} {F G : Sl → Rs D} {A : Sl → Rs (List D)} {pos p apos cpos : Pos} {k : Nat}
theorem e_ltA (hr : Room k X.A) (ha : PE X a (tE X.K W F)) (hb : PE X b (tE X.K W G)) : PE X (.Compare a [.Lt] [b] pos) (tE X.K W (eBin dLtA F G)) := e_cmp (op_ltA hr) od_ltA ha hb (nomark _)
theorem c_ltA (hr : Room k X.A) (ha : PE X a (tE X.K W F)) (hb : PE X b (tE X.K W G)) : PT X (.Compare a [.Lt] [b] pos) (tT X.K W (cE (eBin dLtA F G))) := c_cmp (op_ltA hr) od_ltA ha hb (nomark _)
def dShl : D → D → Option D
  | .int i, .int j => if 0 ≤ j ∧ j ≤ 1000 ∧ i.natAbs < 2 ^ 64 then some (.int (i * 2 ^ j.toNat)) else none
  | _, _ => none
theorem od_shl {K : PySem.W.Frag} : OpD K (rI CPow fun i j => .int (i * 2 ^ j.toNat)) dShl := by
  intro x y dx dy d H Q rx ry e k
  cases dx <;> cases dy <;> simp only [dShl] at e <;> try contradiction
  rename_i i j
  split at e
  · rename_i hc
    cases e
    exact ⟨i, j, rp_int rx, rp_int ry, ⟨hc.1, by omega, hc.2.2⟩, k _ H (Same.refl H) (.int _)⟩
  · cases e
theorem e_shl (ha : PE X a (tE X.K W F)) (hb : PE X b (tE X.K W G)) : PE X (.BinOp a .LShift b pos) (tE X.K W (eBin dShl F G)) := e_op op_shl od_shl ha hb

/-! ### min of a list of ints or of tuples of ints -/
def minT (t : List Int) (ts : List (List Int)) : List Int := ts.foldl (fun a y => if HT.lexLt y a = true then y else a) t
def gMinA : List D → Option D
  | [.lst xs] => match asInts xs with
    | some ns => if ns = [] then none else some (.int (minL ns))
    | none => match asTups xs with
      | some (t :: ts) => some (encT (minT t ts))
      | _ => none
  | _ => none
theorem toPys_eq : ∀ xs : List D, toPys xs = xs.map toPy
  | [] => rfl
  | x :: xs => by simp [toPys, toPys_eq xs]
def tpI (ns : List Int) : PyData := .tuple (ns.map .int)
theorem toPy_encT (ns : List Int) : toPy (encT ns) = tpI ns := by
  simp [encT, toPy, toPys_eq, tpI]
theorem alike_ints : ∀ xs ys : List Int, PySem.W.alikeAll (xs.map .int) (ys.map .int) = true
  | [], _ => by simp [PySem.W.alikeAll]
  | _ :: _, [] => by simp [PySem.W.alikeAll]
  | x :: xs, y :: ys => by simp [PySem.W.alikeAll, PySem.W.alike, alike_ints xs ys]
theorem lt_tpI : ∀ xs ys : List Int, PySem.W.dataLt (tpI xs) (tpI ys) = HT.lexLt xs ys
  | [], [] => by rw [tpI, PySem.W.dataLt_tuple]; exact PyProof.Rows.lex_irrefl _
  | [], y :: ys => by
    have := PySem.W.dataLt_ints [] (y :: ys)
    rw [tpI, tpI, PySem.W.dataLt_tuple]
    exact this.trans (by simp [HT.lexLt])
  | x :: xs, [] => by
    have := PySem.W.dataLt_ints (x :: xs) []
    rw [tpI, tpI, PySem.W.dataLt_tuple]
    exact this.trans (by simp [HT.lexLt])
  | x :: xs, y :: ys => by
    have ih := lt_tpI xs ys
    rw [tpI, tpI, PySem.W.dataLt_tuple] at ih ⊢
    rw [List.map_cons, List.map_cons, PySem.W.dataLt_cons (by simp [PySem.W.alike]), ih, PySem.W.dataLt_int, HT.lexLt_cons]
    simp [PyData.eqv]
theorem minD_tpI (t : List Int) : ∀ ts : List (List Int), PySem.W.minD (tpI t) (ts.map tpI) = tpI (minT t ts) := by
  intro ts
  unfold PySem.W.minD minT
  induction ts generalizing t with
  | nil => rfl
  | cons u ts ih =>
    rw [List.map_cons, List.foldl_cons, List.foldl_cons, lt_tpI]
    split
    · exact ih u
    · exact ih t
theorem tpI_inj {a b : List Int} (h : tpI a = tpI b) : a = b := by
  have := PyData.tuple.inj h
  exact (List.map_inj_right (fun x y q => PyData.int.inj q)).mp this
theorem tpI_depth (ns : List Int) : (tpI ns).depth ≤ 1 := by
  have : ∀ ns : List Int, PyData.depthAll (ns.map PyData.int) = 0 := by
    intro ns
    induction ns with
    | nil => simp [PyData.depthAll]
    | cons n ns ih => simp [PyData.depthAll, PyData.depth, ih]
  simp [tpI, PyData.depth, this]
theorem tpIs_depth : ∀ ts : List (List Int), PyData.depthAll (ts.map tpI) ≤ 1
  | [] => by simp [PyData.depthAll]
  | t :: ts => by
    have h1 := tpI_depth t
    have h2 := tpIs_depth ts
    simp [PyData.depthAll]
    omega
def rMinT (K : PySem.W.Frag) : List V → Hp → VK → Prop := fun vs H Q => ∃ (a : Addr) (xs : List V) (t : List Int) (ts : List (List Int)), vs = [V.ref a] ∧ SqL K H a xs ∧ DpAll K H xs ((t :: ts).map tpI) ∧ ∀ (i : Nat) (x : V), xs[i]? = some x → (t :: ts)[i]? = some (minT t ts) → Q x H
theorem cr_minT (hc : X.calm = true) (hr : Room k X.A) : CallR X (.builtin "min") (rMinT X.K) := by
  intro pins s σ H vs us Q I r h
  obtain ⟨a, xs, t, ts, rfl, hs, hd, q⟩ := h
  obtain ⟨its, rv, hl, _⟩ := I.list hs
  rw [Vals.ref1 r]
  obtain ⟨as, hrd⟩ := Dp.readsAll I _ xs its hd rv
  rw [List.map_cons] at hrd
  have hu : X.A.units + 1 + PyData.depthAll (tpI t :: ts.map tpI) < cLine := by
    have h1 := tpIs_depth (t :: ts)
    rw [List.map_cons] at h1
    have := room65 hr
    omega
  refine PySem.W.min_list_data (I.ok.hd hc) hl.isList (by simpa using hrd) ⟨fun x hx y hy => ?_, fun x hx => ?_⟩ hu fun i v h' tk bs hv hR hk => ?_
  · rw [← List.map_cons (f := tpI)] at hx hy
    obtain ⟨x', _, rfl⟩ := List.mem_map.1 hx
    obtain ⟨y', _, rfl⟩ := List.mem_map.1 hy
    simp [tpI, PySem.W.alike, alike_ints]
  · rw [← List.map_cons (f := tpI)] at hx
    obtain ⟨x', _, rfl⟩ := List.mem_map.1 hx
    simp [tpI]
  · have hv' : its[i]? = some v := by simpa using hv
    rw [minD_tpI] at hR
    -- the value that stands there
    obtain ⟨x, hx, rx⟩ : ∃ x, xs[i]? = some x ∧ RelV x v := by
      have key : ∀ {xs : List V} {its : List Value} {i : Nat} {v : Value}, Vals xs its → its[i]? = some v → ∃ x, xs[i]? = some x ∧ RelV x v := by
        intro xs its
        induction xs generalizing its with
        | nil => intro i v r e; cases r; simp at e
        | cons x xs ih =>
          intro i v r e
          cases r with
          | cons r t =>
            cases i with
            | zero => simp at e; subst e; exact ⟨x, rfl, r⟩
            | succ i => exact ih t (by simpa using e)
      exact key rv hv'
    have dx : ∃ ns, (t :: ts)[i]? = some ns ∧ Dp X.K H x (tpI ns) := by
      have key : ∀ {xs : List V} {us : List (List Int)} {i : Nat} {x : V}, DpAll X.K H xs (us.map tpI) → xs[i]? = some x → ∃ ns, us[i]? = some ns ∧ Dp X.K H x (tpI ns) := by
        intro xs
        induction xs with
        | nil => intro us i x _ e; simp at e
        | cons y xs ih =>
          intro us i x hd e
          cases us with
          | nil => cases hd
          | cons u us =>
            rw [List.map_cons] at hd
            cases hd with
            | cons h1 h2 =>
              cases i with
              | zero => simp at e; subst e; exact ⟨u, rfl, h1⟩
              | succ i =>
                obtain ⟨ns, hm, hh⟩ := ih h2 (by simpa using e)
                exact ⟨ns, by simpa using hm, hh⟩
      exact key hd hx
    obtain ⟨ns, hn, dn⟩ := dx
    obtain ⟨bs', hR'⟩ := Dp.reads I _ x v dn rx
    have e : tpI ns = tpI (minT t ts) := PySem.W.alike_unique _ _ v _ _ (by simp [tpI, PySem.W.alike, alike_ints]) (PySem.W.reads_keeps hk hR') hR
    rw [tpI_inj e] at hn
    exact ⟨x, H, I.kept hk, rx, q i x hx hn⟩
def rMinAA (K : PySem.W.Frag) : List V → Hp → VK → Prop := fun vs H Q => rMin K vs H Q ∨ rMinT K vs H Q
theorem cr_minAA (hc : X.calm = true) (hr : Room k X.A) : CallR X (.builtin "min") (rMinAA X.K) := by
  intro pins s σ H vs us Q I r h
  rcases h with h | h
  · exact cr_min hc pins s σ H vs us Q I r h
  · exact cr_minT hc hr pins s σ H vs us Q I r h
theorem dp_encT {K : PySem.W.Frag} {H : Hp} {x : V} {ns : List Int} (h : Rp K H x (encT ns)) : Dp K H x (tpI ns) := by
  have := rp_dp 8 h (by
    show (ns.map D.int).all (pl 7) = true
    rw [List.all_eq_true]
    intro y hy
    obtain ⟨z, _, rfl⟩ := List.mem_map.1 hy
    rfl)
  rwa [toPy_encT] at this
theorem dps_encT {K : PySem.W.Frag} {H : Hp} : ∀ {xs : List V} {ts : List (List Int)}, RpAll K H xs (ts.map encT) → DpAll K H xs (ts.map tpI)
  | _, [], h => by cases h; exact .nil
  | _, t :: ts, h => by
    rw [List.map_cons] at h
    cases h with
    | cons a r => exact .cons (dp_encT a) (dps_encT r)
theorem minT_mem (t : List Int) (ts : List (List Int)) : minT t ts ∈ t :: ts := by
  unfold minT
  induction ts generalizing t with
  | nil => simp
  | cons u ts ih =>
    rw [List.foldl_cons]
    split
    · have := ih u; simp at this ⊢; rcases this with h | h <;> simp [h]
    · have := ih t; simp at this ⊢; rcases this with h | h <;> simp [h]
theorem cd_minA {K : PySem.W.Frag} : CallD K (rMinAA K) gMinA := by
  intro vs ds d H Q rv e k
  match ds, e with
  | [.lst xs], e =>
    obtain ⟨v, rfl, r⟩ := rpall1 rv
    obtain ⟨p, ys, rfl, h1, a1⟩ := rp_lst r
    simp only [gMinA] at e
    cases q : asInts xs with
    | some ns =>
      rw [q] at e
      simp only at e
      split at e
      · cases e
      · rename_i hne
        cases e
        have z := asInts_eq q; subst z
        have z := rp_ints a1; subst z
        refine .inl ⟨p, ns, rfl, SqL.of h1, List.length_pos_iff.mpr hne, fun m hm hle => ?_⟩
        have : m = minL ns := by
          have h1 := minL_le hm
          have h2 := hle _ (minL_mem hne)
          omega
        rw [this]
        exact k _ H (Same.refl H) (.int _)
    | none =>
      rw [q] at e
      simp only at e
      cases q2 : asTups xs with
      | none => rw [q2] at e; cases e
      | some us =>
        rw [q2] at e
        cases us with
        | nil => cases e
        | cons t ts =>
          cases e
          obtain ⟨z, _⟩ := asTups_eq q2
          subst z
          refine .inr ⟨p, ys, t, ts, rfl, SqL.of h1, dps_encT a1, fun i x hx hm => k x H (Same.refl H) ?_⟩
          obtain ⟨d, hd, rx⟩ := a1.get' hx
          rw [List.getElem?_map, hm] at hd
          cases hd
          exact rx
theorem e_minA (hm : X.mg "min" = none) (hr : Room k X.A) (ha : PA X [a] (tA X.K W A)) (hc : X.calm = true := by rfl) (hg : Gl X "min" := by rfl) (he : starEach [a] X.env = (false, eval a X.env) :: starEach [] X.env := by rfl) : PE X (.Call (.Name "min" p) [a] [] pos) (tE X.K W (eCall gMinA A)) :=
  e_callB (cr_minAA hc hr) cd_minA hm (by decide +kernel) ha hg (he := he)
/-! ### methods of a list with one argument: xs.index(k), xs.count(k) -/
def eLm (g : List D → D → Option D) (F G : Sl → Rs D) : Sl → Rs D := fun ρ => (F ρ).bind fun x => match x with
  | .lst ds => (G ρ).bind fun y => Rs.of (g ds y)
  | _ => .bad
def LmD (K : PySem.W.Frag) (r : V → List V → Hp → VK → Prop) (g : List D → D → Option D) : Prop := ∀ (p : Addr) (xs : List V) (ds : List D) (y : D) (v : V) (d : D) (H : Hp) (Q : VK), H p = some (.lst xs) → RpAll K H xs ds → Rp K H v y → g ds y = some d → (∀ u H', Same H H' → Rp K H' u d → Q u H') → r (.ref p) [v] H Q
theorem e_lm {r : V → List V → Hp → VK → Prop} {g : List D → D → Option D} {m : Str} (hg : LmD X.K r g) (ho : PE X o (tE X.K W F)) (ha : PE X a (tE X.K W G)) (hb : ∀ t t', PE X o t → PA X [a] t' → PE X (.Call (.Attribute o m apos) [a] [] cpos) (tBM X.K "list" r t t')) (hs : starEach [a] X.env = (false, eval a X.env) :: starEach [] X.env := by rfl) : PE X (.Call (.Attribute o m apos) [a] [] cpos) (tE X.K W (eLm g F G)) :=
  pe_imp (hb _ _ ho (pa_cons ha pa_nil hs)) fun σ H Q h => by
    obtain ⟨ρ, rr, h⟩ := h
    refine ⟨ρ, rr, cs_mono (cs_bind h) (fun dx h1 v1 H1 s1 r1 => ?_) fun c q => q⟩
    cases r1 with
    | @lst p xs ds hp hk =>
      refine ⟨.inl ⟨rfl, _, .of hp⟩, ρ, rr.mono s1, cs_mono (cs_bind h1) (fun dy h2 v2 H2 s2 r2 => ?_) fun c q H' s => q H' (s1.trans s)⟩
      obtain ⟨d, e, h3⟩ := cs_of h2
      exact hg p xs ds dy v2 d H2 Q (s2 _ _ hp) (hk.mono s2) r2 e fun u H' s ru => h3 u H' ((s1.trans s2).trans s) ru
    | _ => exact h1.elim
def dIndex (xs : List D) : D → Option D
  | .int k => (asInts xs).bind fun ns => (ns.findIdx? fun n => n == k).map fun j => .int (j : Nat)
  | _ => none
def dCount (xs : List D) : D → Option D
  | .int k => (asInts xs).map fun ns => .int (ns.count k : Nat)
  | _ => none
theorem flat_ints (ns : List Int) : (ns.map V.int).all flatV = true := by
  rw [List.all_eq_true]
  intro y hy
  obtain ⟨z, _, rfl⟩ := List.mem_map.1 hy
  rfl
theorem lm_index {K : PySem.W.Frag} : LmD K (rIndex K) dIndex := by
  intro p xs ds y v d H Q hp hk rv e k
  cases rv <;> simp only [dIndex] at e <;> try contradiction
  rename_i j
  cases q : asInts ds with
  | none => rw [q] at e; cases e
  | some ns =>
    rw [q] at e
    simp only [Option.bind_some] at e
    cases q2 : ns.findIdx? fun n => n == j with
    | none => rw [q2] at e; cases e
    | some m =>
      rw [q2] at e
      cases e
      have z := asInts_eq q; subst z
      have z := rp_ints hk; subst z
      obtain ⟨g1, g2, g3⟩ := List.findIdx?_eq_some_iff_getElem.1 q2
      refine ⟨p, ns.map V.int, .int j, m, .int (ns[m]), rfl, rfl, .of hp, rfl, flat_ints ns, ?_, ?_, ?_, k _ _ (Same.refl _) (.int _)⟩
      · rw [List.getElem?_map, List.getElem?_eq_getElem g1]; rfl
      · exact g2
      · intro i z hi hz
        rw [List.getElem?_map, List.getElem?_eq_getElem (by omega)] at hz
        cases hz
        have := g3 i hi
        simpa [eqV] using this
theorem lm_count {K : PySem.W.Frag} : LmD K (rCntI K) dCount := by
  intro p xs ds y v d H Q hp hk rv e k
  cases rv <;> simp only [dCount] at e <;> try contradiction
  rename_i j
  cases q : asInts ds with
  | none => rw [q] at e; cases e
  | some ns =>
    rw [q] at e
    cases e
    have z := asInts_eq q; subst z
    have z := rp_ints hk; subst z
    exact ⟨p, ns, j, rfl, rfl, .of hp, k _ _ (Same.refl _) (.int _)⟩
end
end PB

namespace PB
open PySem PySem.Spec PyProof.Rows L2

/-! ### data without lists and dicts: never what is being filled -/
mutual
def pur : D → Bool
  | .non => true | .bl _ => true | .int _ => true | .str _ => true
  | .tup xs => purs xs
  | _ => false
def purs : List D → Bool
  | [] => true
  | x :: xs => pur x && purs xs
end
section
variable {K : PySem.W.Frag} {H : Hp} {as : List Addr}
mutual
theorem Rp.pu (m : Mu as H) : ∀ {v : V} {d : D}, Rp K H v d → pur d = true → Rp K (hide as H) v d
  | _, _, .non, _ => .non
  | _, _, .bl b, _ => .bl b
  | _, _, .int i, _ => .int i
  | _, _, .str x, _ => .str x
  | _, _, .lst h a, p => by cases p
  | _, _, .tup h a, p => by
    simp only [pur] at p
    refine .tup ?_ (RpAll.pu m a p)
    rw [hide_out]
    · exact h
    · intro hm
      rcases m _ hm with ⟨xs, e⟩ | ⟨xs, e⟩ <;> (rw [h] at e; cases e)
  | _, _, .dct h a, p => by cases p
  | _, _, .scr h, p => by cases p
theorem RpAll.pu (m : Mu as H) : ∀ {v : List V} {d : List D}, RpAll K H v d → purs d = true → RpAll K (hide as H) v d
  | _, _, .nil, _ => .nil
  | _, _, .cons h t, p => by
    simp only [purs, Bool.and_eq_true] at p
    exact .cons (Rp.pu m h p.1) (RpAll.pu m t p.2)
end
end
section
variable {X : Cx} {W : Wsh} {own ownB : List Nat} {F G : Sl → Rs D} {e kx vx : Expr} {pos pos' : Pos} {k : Nat}
def sAppP (i : Nat) (A : Sl → Rs (List D)) : Sl → Rs Out := fun ρ => match ρ[i]? with
  | some (some (.lst ds)) => (A ρ).bind fun es => match es with
    | [d] => if pur d = true ∧ ds.length < 1000000 then .ok (.nx (ρ.set i (some (.lst (ds ++ [d]))))) else .bad
    | _ => .bad
  | _ => .bad
theorem s_appP {i : Nat} {a f : Expr} {A : Sl → Rs (List D)} {cpos : Pos} (hi : i ∈ own) (h : PA X [a] (tA X.K W A)) (hm : ∀ t, PA X [a] t → PE X (.Call f [a] [] cpos) (tBM X.K "list" rAppend (tVar i) t))
    (hs : swapsWith (.Call f [a] [] cpos) none pos.line X.env = pure false := by rfl) : DS X W own (sAppP i A) own ownB (.Expr (.Call f [a] [] cpos) pos) := ⟨fun H0 => by
  refine ps_imp (ps_expr (hm _ h) hs) fun E σ H hw => ?_
  obtain ⟨ρ, r, hw⟩ := hw
  obtain ⟨p, d0, e1, e2, ho⟩ := r.own_ i hi
  unfold sAppP at hw
  rw [e2] at hw
  rcases ho with ⟨xs, ds, ex, rfl, ra⟩ | ⟨xs, ds, ex, rfl, ra⟩
  · refine ⟨.ref p, e1, .inl ⟨rfl, xs, SqL.of ex⟩, _, r.r0, cs_mono (cs_bind hw) (fun es h1 vs H1 s1 r1 => ?_) fun c q H' s => q σ H' ((r.base.trans hide_same).trans s)⟩
    have r2 := r.grow s1
    rcases es with _ | ⟨d, _ | ⟨d2, es⟩⟩
    · exact h1.elim
    · obtain ⟨v, rfl, rv⟩ := rpall1 r1
      by_cases hlt : pur d = true ∧ ds.length < 1000000
      · have h2 : cs (if pur d = true ∧ ds.length < 1000000 then Rs.ok (Out.nx (ρ.set i (some (.lst (ds ++ [d]))))) else .bad) _ _ := h1
        rw [if_pos hlt] at h2
        exact ⟨p, xs, v, rfl, rfl, s1 _ _ ex, Nat.lt_of_lt_of_le (by rw [ra.length]; exact hlt.2 : xs.length < 1000000) (by decide), h2 _ _ (r2.fill hi e1 (.inl ⟨_, _, rfl, rfl, (ra.mono (same_hideM s1 r.mu.nx)).append (.cons (rv.pu r2.mu hlt.1) .nil)⟩))⟩
      · have h2 : cs (if pur d = true ∧ ds.length < 1000000 then Rs.ok (Out.nx (ρ.set i (some (.lst (ds ++ [d]))))) else .bad) _ _ := h1
        rw [if_neg hlt] at h2; exact h2.elim
    · exact h1.elim
  · exact hw.elim⟩
/-- x[key] = value, the value without lists and dicts, read with all in sight -/
def sPutP (i : Nat) (G F : Sl → Rs D) : Sl → Rs Out := fun ρ => (F ρ).bind fun d => match pur d with
  | true => (G ρ).bind fun y => (match ρ[i]?, y with
    | some (some (.dct kds)), .int k => if kds.length < 1000000 then .ok (.nx (ρ.set i (some (.dct (putD kds k d))))) else .bad
    | _, _ => .bad)
  | false => .bad
theorem s_putP {i : Nat} {x : Str} {px : Pos} (hr : Room k X.A) (hi : i ∈ own) (hv : PE X vx (tE X.K W F)) (hk : PE X kx (tE X.K W G)) (ho : PE X (.Name x px) (tVar i)) (hs : swapsWith vx (some (.Subscript (.Name x px) kx pos')) pos.line X.env = pure false := by rfl) :
    DS X W own (sPutP i G F) own ownB (.Assign [.Subscript (.Name x px) kx pos'] vx pos) := ⟨fun H0 => ps_imp (ps_dput (room1 hr) ho hk hv hs) fun E σ H hw => by
  obtain ⟨ρ, r, hw⟩ := hw
  refine inH r (cs_mono (cs_bind hw) (fun d q v H1 s1 r1 rv => ?_) fun c q => q)
  cases hd : pur d with
  | false => rw [hd] at q; exact q.elim
  | true =>
    rw [hd] at q
    obtain ⟨p, d0, e1, e2, ho1⟩ := r1.own_ i hi
    refine ⟨.ref p, e1, inH r1 (cs_mono (cs_bind q) (fun y q2 w H2 s2 r2 rw2 => ?_) fun c q => q)⟩
    obtain ⟨p', d0', e1', e2', ho2⟩ := r2.own_ i hi
    rw [e1] at e1'; cases e1'
    rw [e2] at e2'; cases e2'
    rw [e2] at q2
    rcases ho2 with ⟨xs, ds, ex, rfl, ra⟩ | ⟨kvs, kds, ex, rfl, ra⟩
    · exact q2.elim
    · cases rw2 with
      | int j =>
        have q3 : cs (if kds.length < 1000000 then Rs.ok (Out.nx (ρ.set i (some (.dct (putD kds j d))))) else .bad) _ _ := q2
        by_cases hl : kds.length < 1000000
        · rw [if_pos hl] at q3
          exact ⟨p, _, rfl, DPut.k (k := .inl j) ex (Nat.lt_of_lt_of_le (by rw [ra.len]; exact hl : kvs.length < 1000000) (by decide)), q3 _ _ (r2.fill hi e1 (.inr ⟨_, _, rfl, rfl, ra.put j ((rv.mono s2).pu r2.mu hd)⟩))⟩
        · rw [if_neg hl] at q3; exact q3.elim
      | _ => exact q2.elim⟩
/-- a plain assignment of a value without lists and dicts, read with all in sight -/
def sAsgP (T : D → Option Asn) (F : Sl → Rs D) : Sl → Rs Out := fun ρ => (F ρ).bind fun d => match pur d with
  | true => (Rs.of (T d)).bind fun as => .ok (.nx (setD ρ as))
  | false => .bad
theorem s_asgP {tg : Expr} {g : TG} {T : D → Option Asn} (h : PE X e (tE X.K W F)) (hg : PG X tg g) (ht : TgP X.K g T) (ap : Apart own T) (hs : swapsWithSole [tg] e pos.line X.env = pure false := by rfl) (hw : swappedStores [tg] e X.env = pure none := by rfl)
    (h1 : (assignEach [tg] X.env).map (·.2) = [assign tg X.env] := by rfl) : DS X W own (sAsgP T F) own ownB (.Assign [tg] e pos) := ⟨fun H0 => ps_imp (ps_asg h hg hs hw h1) fun E σ H hw => by
  obtain ⟨ρ, r, hw⟩ := hw
  refine inH r (cs_mono (cs_bind hw) (fun d q v H1 s1 r1 rv => ?_) fun c q => q)
  cases hd : pur d with
  | false => rw [hd] at q; exact q.elim
  | true =>
    rw [hd] at q
    exact asg_read ht ap r1 (rv.pu r1.mu hd) q⟩
end
end PB

namespace PB
open PySem PySem.Spec PyProof.Rows L2
section
variable {X : Cx} {W : Wsh} {own ownB : List Nat} {pos : Pos}
/-- one more object beside what is known -/
theorem R.more {K : PySem.W.Frag} {H0 H : Hp} {σ : L2.St} {ρ : Sl} {own : List Nat} {p : Addr} {o} (r : R K H0 own σ H ρ) (hp : H p = none) : R K H0 own σ (upd H p o) ρ := by
  have np : p ∉ adr own σ := fun hm => r.ne p hm hp
  refine r.growG (.of fun b u e => ?_) fun a ha => upd_ne (fun e => np (e ▸ ha))
  by_cases hb : b ∈ adr own σ
  · rw [hide_in hb] at e; cases e
  · rw [hide_out hb] at e ⊢
    have : b ≠ p := fun z => by rw [z, hp] at e; cases e
    rw [upd_ne this]
    exact e
/-- x, y = [], e where the names are read in comprehensions: the pair is made first -/
theorem s_new2G {i j : Nat} {x y : Str} {b : Expr} {A : Sl → Rs (List D)} {px py pt lp : Pos} {kt k2 pt2} (hij : j ≠ i) (hio : i ∉ own) (hjo : j ∉ own) (ha : PA X [b] (tA X.K W A))
    (hg : PG X (.Tuple [.Name x px, .Name y py] kt pt) (gTup X.K 2 (gCons (gName i) (gCons (gName j) gNil)))) (hsw : swapsWithSole [.Tuple [.Name x px, .Name y py] kt pt] (.Tuple [.List [] lp, b] k2 pt2) pos.line X.env = pure false := by rfl) (hw : swappedStores [.Tuple [.Name x px, .Name y py] kt pt] (.Tuple [.List [] lp, b] k2 pt2) X.env = pure none := by rfl)
    (h1 : (assignEach [.Tuple [.Name x px, .Name y py] kt pt] X.env).map (·.2) = [assign (.Tuple [.Name x px, .Name y py] kt pt) X.env] := by rfl)
    (hs : starEach [.List [] lp, b] X.env = (false, eval (.List [] lp) X.env) :: starEach [b] X.env := by rfl) :
    DS X W own (sNew2 own i j A) (i :: own) ownB (.Assign [.Tuple [.Name x px, .Name y py] kt pt] (.Tuple [.List [] lp, b] k2 pt2) pos) := ⟨fun H0 => by
  refine ps_imp (ps_asg (pe_tup (fresh_args ha hs)) hg hsw hw h1) fun E σ H hw => ?_
  obtain ⟨ρ, r, hw⟩ := hw
  unfold tAsg tTup
  refine fresh_read r (cs_mono (cs_bind hw) (fun ds h1 p vs H1 s1 hn hp np r1 => ?_) fun c q => q)
  rcases ds with _ | ⟨d, _ | ⟨d2, ds⟩⟩
  · exact h1.elim
  · by_cases hl : i < ρ.length
    · have h2 : cs (if i < ρ.length then Rs.ok (Out.nx ((ρ.set i (some (.lst []))).set j (some d))) else .bad) _ _ := h1
      rw [if_pos hl] at h2
      obtain ⟨v, rfl, rv⟩ := rpall1 r1
      obtain ⟨r3, up⟩ := new_r r hio hl s1 hn hp np
      refine ⟨by show 2 ≤ sizeLine; decide, fun q hq => ?_⟩
      refine ⟨q, [.ref p, v], rfl, .inl (.inl upd_same), rfl, ?_⟩
      have r4 := (r3.set (i := j) (by simp [hij, hjo]) (up rv)).more (o := .tup [.ref p, v]) hq
      exact ⟨.ref p, [v], rfl, v, [], rfl, rfl, h2 _ _ r4⟩
    · have h2 : cs (if i < ρ.length then Rs.ok (Out.nx ((ρ.set i (some (.lst []))).set j (some d))) else .bad) _ _ := h1
      rw [if_neg hl] at h2; exact h2.elim
  · exact h1.elim⟩
/-- a statement x = e behind a frame -/
theorem ps_fr {st : Stmt} {te : TE} {i : Nat} (h : PS X st (tAsg te (gName i))) : PS X st (tAsg (tFr te) (gName i)) := by
  refine ⟨fun pins s σ H D I hw => ?_⟩
  obtain ⟨as, m, hw⟩ := hw
  obtain ⟨np, _, hn, I1⟩ := hidden I m
  refine thn (h.run (pins ++ np) s σ (hide as H) ⟨fun σ1 H1 => (∀ a ∈ as, H1 a = none) → D.nx σ1 (put as H H1), fun _ _ => False, fun _ _ => False, fun _ _ => False⟩ I1 hw) fun f s1 q => ?_
  cases f with
  | next =>
    obtain ⟨σ1, H1, J, q⟩ := q
    obtain ⟨a, b⟩ := unhidden I m hn J
    exact ⟨σ1, _, b, q a⟩
  | brk => obtain ⟨_, _, _, q⟩ := q; exact q.elim
  | cont => obtain ⟨_, _, _, q⟩ := q; exact q.elim
  | ret u => obtain ⟨_, _, _, _, _, q⟩ := q; exact q.elim
theorem s_setLcO {i : Nat} {y : Str} {py : Pos} {elt tg iter : Expr} {ifs : List Expr} {scope : Scope} {ow : List (Str × Nat)} {spos : Pos} {I : Sl → Rs (List D)} {g : TG} {T : D → Option Asn} {C : Sl → Rs Bool} {G : Sl → Rs D}
    (hio : i ∉ own) (hN : X.N.Nodup) (hy : X.N[i]? = some y) (hyl : X.env.scope.names.lookup y = some .local) (hsw : swapsWith (.ListComp elt [⟨tg, iter, ifs, 0⟩] scope pos) (some (.Name y py)) spos.line X.env = pure true)
    (hi : PI X tg iter (tI X.K W I)) (ok : BlkOk X.N X.env.scope scope ow) (ht : TgP X.K g T) (hin : InS (ow.map (·.2)) T)
    (hg : ∀ (s : Shared) (H : Hp) (C : Addr) (cl : List (Str × Addr)) (fp : List Addr), PG (X.blk s H scope (compEnvC scope cl C X.env) fp) tg g) (hc : ∀ (s : Shared) (H : Hp) (C₁ : Addr) (cl : List (Str × Addr)) (fp : List Addr), PTs (X.blk s H scope (compEnvC scope cl C₁ X.env) fp) ifs (tT X.K W0 C))
    (he : ∀ (s : Shared) (H : Hp) (C : Addr) (cl : List (Str × Addr)) (fp : List Addr), PE (X.blk s H scope (compEnvC scope cl C X.env) fp) elt (tE X.K W0 G)) (hcm : X.calm = true := by rfl) (hs : ∀ x, foldedSetIterable iter X.env x = pure x := by intro _; rfl) :
    DS X W own (sAsg own (tgName i) (eLc I (ow.map (·.2)) T C G)) own ownB (.Assign [.Name y py] (.ListComp elt [⟨tg, iter, ifs, 0⟩] scope pos) spos) := ⟨fun H0 => by
  refine ps_imp (ps_fr (ps_setLc (i := i) hcm hN hy hyl hsw hi ok hg hc (fun s H C cl fp => pe_fr (he s H C cl fp)) hs)) fun E σ H hw => ?_
  obtain ⟨ρ, r, hw⟩ := hw
  have q : tFr (tE X.K W (eLc I (ow.map (·.2)) T C G)) σ H (fun x H1 => gName i x σ H1 E.nx) :=
    inG r (cs_mono (cs_bind hw) (fun d q v H' r' _ _ rv => asg_read (own := own) (tp_name i) (ap_of (vs := [i]) (is_name (by simp)) (by simpa using hio)) r' rv q) fun c q => q)
  obtain ⟨as, m, q⟩ := q
  exact ⟨as, m, lc_read ht hin q⟩⟩
end
end PB

namespace PB
open PySem PySem.Spec PyProof.Rows L2
/-! ### sorted(set(xs)) of ints or of pairs of small ints -/
def ddT : List (List Int) → List (List Int)
  | [] => []
  | x :: l => if x ∈ l then ddT l else x :: ddT l
theorem ddT_mem {k : List Int} : ∀ l : List (List Int), k ∈ ddT l ↔ k ∈ l
  | [] => .rfl
  | x :: l => by
    rw [ddT]
    split
    · rename_i h
      rw [ddT_mem l, List.mem_cons]
      exact ⟨.inr, fun q => q.elim (fun e => e ▸ h) _root_.id⟩
    · rw [List.mem_cons, List.mem_cons, ddT_mem l]
theorem ddT_nodup : ∀ l : List (List Int), (ddT l).Nodup
  | [] => .nil
  | x :: l => by
    rw [ddT]
    split
    · exact ddT_nodup l
    · rename_i h
      exact List.nodup_cons.mpr ⟨fun q => h ((ddT_mem l).mp q), ddT_nodup l⟩
def okP (t : List Int) : Bool := decide (t.length = 2) && t.all fun x => decide (0 ≤ x) && decide (x < 64)
theorem okP_ok {t : List Int} (h : okP t = true) : t.length = 2 ∧ TS.Bd 64 t := by
  rw [okP, Bool.and_eq_true, decide_eq_true_iff, List.all_eq_true] at h
  refine ⟨h.1, fun m hm => ?_⟩
  have := h.2 m hm
  simpa using this
theorem okP_le {a b : List Int} (ha : okP a = true) (hb : okP b = true) (h : TS.code 64 a ≤ TS.code 64 b) : HT.lexLt b a = false := by
  obtain ⟨l1, b1⟩ := okP_ok ha
  obtain ⟨l2, b2⟩ := okP_ok hb
  match a, b, l1, l2 with
  | [x, y], [x', y'], _, _ =>
    have c1 := b1 x (by simp)
    have c2 := b1 y (by simp)
    have c3 := b2 x' (by simp)
    have c4 := b2 y' (by simp)
    rw [code_pair, code_pair] at h
    rw [HT.lexLt_cons]
    by_cases e : x' = x
    · rw [if_pos e, HT.lexLt_cons]
      by_cases e2 : y' = y
      · rw [if_pos e2]; rfl
      · rw [if_neg e2]; exact decide_eq_false (by omega)
    · rw [if_neg e]; exact decide_eq_false (by omega)
section
variable {X : Cx} {W : Wsh} {a e : Expr} {F : Sl → Rs D} {A : Sl → Rs (List D)} {p p2 q pos : Pos} {k : Nat}
def rSetAny (K : PySem.W.Frag) (P : Program) (w : World) : List V → Hp → VK → Prop := fun vs H Q => rSetI K w vs H Q ∨ rSetOfT K P w vs H Q
theorem cr_setAny (hc : X.calm = true) (hr : Room k X.A) : CallR X (.type "set") (rSetAny X.K X.prog X.w) := by
  intro pins s σ H vs us Q I r h
  rcases h with h | h
  · exact cr_setI hc pins s σ H vs us Q I r h
  · exact cr_setOfT hc hr.units pins s σ H vs us Q I r h
def rSortSetAny (K : PySem.W.Frag) (P : Program) (w : World) : List V → Hp → VK → Prop := fun vs H Q => rSortedSet w vs H Q ∨ rSortedT K P w vs H Q
theorem cr_sortSetAny (hc : X.calm = true) : CallR X (.builtin "sorted") (rSortSetAny X.K X.prog X.w) := by
  intro pins s σ H vs us Q I r h
  rcases h with h | h
  · exact cr_sortedSet hc pins s σ H vs us Q I r h
  · exact cr_sortedT hc pins s σ H vs us Q I r h
def dSortSetA : D → Option D
  | .lst xs => match asInts xs with
    | some ns => if ns.length ≤ 1000 ∧ (ddp ns).length < 64 then some (.lst ((srtI (ddp ns)).map .int)) else none
    | none => (asTups xs).bind fun ts => if ts.length < 64 ∧ ts.all okP = true then some (.lst ((srtT (ddT ts)).map encT)) else none
  | _ => none
def adV : V → Addr
  | .ref a => a
  | _ => 0
theorem e_sortSetA (hm : X.mg "sorted" = none) (hm2 : X.mg "set" = none) (hr : Room k X.A) (he : PE X e (tE X.K W F)) (hc : X.calm = true := by rfl) (hg : Gl X "sorted" := by rfl) (hg2 : Gl X "set" := by rfl)
    (hs : starEach [e] X.env = (false, eval e X.env) :: starEach [] X.env := by rfl) (hs2 : starEach [.Call (.Name "set" p2) [e] [] q] X.env = (false, eval (.Call (.Name "set" p2) [e] [] q) X.env) :: starEach [] X.env := by rfl) :
    PE X (.Call (.Name "sorted" p) [.Call (.Name "set" p2) [e] [] q] [] pos) (tE X.K W (eUn dSortSetA F)) :=
  pe_imp (pe_callB (cr_sortSetAny hc) hg hm (by decide +kernel) (he := hs2) (pa_cons (pe_callTy (cr_setAny hc hr) hg2 hm2 (by decide +kernel) (pa_cons he pa_nil hs) (he := hs)) pa_nil hs2)) fun σ H Q h => by
    obtain ⟨ρ, rr, h⟩ := h
    refine ⟨ρ, rr, cs_mono (cs_bind h) (fun d h1 v H1 s1 r1 => ?_) fun c q => q⟩
    obtain ⟨d2, e, h3⟩ := cs_of h1
    have h3 : ∀ v H', Same H H' → Rp X.K H' v d2 → Q v H' := h3
    cases d with
    | lst xs =>
      obtain ⟨l, ys, rfl, hl, al⟩ := rp_lst r1
      simp only [dSortSetA] at e
      cases q1 : asInts xs with
      | some ns =>
        rw [q1] at e
        simp only at e
        split at e
        · rename_i hb
          cases e
          have z := asInts_eq q1; subst z
          have z := rp_ints al; subst z
          refine .inl ⟨l, ns, rfl, SqL.of hl, hb.1, fun b hb2 => .inl ⟨b, _, _, rfl, upd_same, hb.2, fun ms p2 hs hm hlm hp => ?_⟩⟩
          have e4 : ms = srtI (ddp ns) := srtI_of (nodup_perm (hs.imp fun q => by omega) (ddp_nodup ns) fun k => by rw [hm, ddp_mem]; simp) (hs.imp fun q => by omega)
          rw [e4]
          have hh : ∀ (ms : List Int) (H : Hp), RpAll X.K H (ms.map V.int) (ms.map .int) := by
            intro ms H
            induction ms with
            | nil => exact .nil
            | cons m ms ih => exact .cons (.int m) ih
          exact h3 _ _ (s1.trans ((same_new hb2).trans (same_new hp))) (.lst upd_same (hh _ _))
        · cases e
      | none =>
        rw [q1] at e
        simp only at e
        cases q2 : asTups xs with
        | none => rw [q2] at e; cases e
        | some ts =>
          rw [q2] at e
          simp only [Option.bind_some] at e
          split at e
          · rename_i hb
            cases e
            obtain ⟨z, ne⟩ := asTups_eq q2
            subst z
            obtain ⟨e1, e2⟩ := keyT_map al
            have fact : ∀ v ∈ ys, v = .ref (adV v) ∧ H1 (adV v) = some (.tup ((keyT X.K H1 v).map V.int)) := fun v hv => by
              obtain ⟨t, rfl, ht⟩ := rp_encT (e2 v hv).2
              exact ⟨rfl, ht⟩
            have eys : ((ys.map fun v => (adV v, keyT X.K H1 v)).map fun p : Addr × List Int => V.ref p.1) = ys := by
              rw [List.map_map]
              refine (List.map_congr_left fun v hv => ?_).trans (List.map_id _)
              exact (fact v hv).1.symm
            have kp : ∀ p ∈ ys.map fun v => (adV v, keyT X.K H1 v), H1 p.1 = some (.tup (p.2.map V.int)) ∧ Rp X.K H1 (.ref p.1) (encT p.2) ∧ p.2 ∈ ts := fun p hp => by
              obtain ⟨v, hv, rfl⟩ := List.mem_map.1 hp
              refine ⟨(fact v hv).2, ?_, (e2 v hv).1⟩
              have := (e2 v hv).2
              rw [(fact v hv).1] at this
              simpa using (show Rp X.K H1 (.ref (adV v)) (encT (keyT X.K H1 v)) by rw [← (fact v hv).1]; exact (e2 v hv).2)
            have okt : ∀ t ∈ ts, okP t = true := fun t ht => List.all_eq_true.1 hb.2 t ht
            have ly : ys.length = ts.length := by rw [← e1, List.length_map]
            refine .inr ⟨l, ys.map (fun v => (adV v, keyT X.K H1 v)), rfl, by rw [eys]; exact SqL.of hl, fun p hp => SqT.of (kp p hp).1, by rw [List.length_map, ly]; exact hb.1, fun b L hb2 hL1 hL2 => .inr ⟨b, L, 2, 64, rfl, upd_same, fun p hp => SqT.of ?_, by decide, fun p hp => okP_ok (okt _ (kp p (hL1 p hp)).2.2), fun L' p2 pm nd lt pw hp2 => ?_⟩⟩
            · have := (kp p (hL1 p hp)).1
              rw [upd_ne fun z => by rw [z, hb2] at this; cases this]
              exact this
            · have inK : ∀ p ∈ L', p ∈ ys.map fun v => (adV v, keyT X.K H1 v) := fun p hp => hL1 p (pm.mem_iff.1 hp)
              have e3 : L'.map (·.2) = srtT (ddT ts) := by
                refine srtT_of ((List.perm_ext_iff_of_nodup nd (ddT_nodup ts)).mpr fun t => ?_) (List.pairwise_map.mpr (pw.imp_of_mem fun {x y} hx hy hc => okP_le (okt _ (kp x (inK x hx)).2.2) (okt _ (kp y (inK y hy)).2.2) hc))
                rw [ddT_mem]
                constructor
                · intro ht
                  obtain ⟨p, hp, rfl⟩ := List.mem_map.1 ht
                  exact (kp p (inK p hp)).2.2
                · intro ht
                  rw [← e1] at ht
                  obtain ⟨v, hv, rfl⟩ := List.mem_map.1 ht
                  have h5 := hL2 (adV v, keyT X.K H1 v) (List.mem_map.2 ⟨v, hv, rfl⟩)
                  exact ((pm.map (·.2)).mem_iff).2 h5
              have sm := (same_new (o := SetTO X.prog X.w b L) hb2).trans (same_new (o := HO.lst (L'.map fun q => V.ref q.1)) hp2)
              rw [← e3] at h3
              refine h3 _ _ (s1.trans sm) (.lst upd_same ?_)
              have hh : ∀ M : List (Addr × List Int), (∀ p ∈ M, Rp X.K H1 (.ref p.1) (encT p.2)) → RpAll X.K H1 (M.map fun q => V.ref q.1) ((M.map (·.2)).map encT) := by
                intro M
                induction M with
                | nil => intro _; exact .nil
                | cons m M ih => intro h; exact .cons (h m (by simp)) (ih fun p hp => h p (by simp [hp]))
              exact (hh L' fun p hp => (kp p (inK p hp)).2.1).mono sm
          · cases e
    | _ => cases e
end
end PB

namespace PB
open PySem PySem.Spec PyProof.Rows L2

/-! ### d.update(dict(pairs)) -/
def rDUpd : V → List V → Hp → VK → Prop := fun x vs H Q => ∃ a b kvs more, x = .ref a ∧ vs = [.ref b] ∧ a ≠ b ∧ H a = some (.dK kvs) ∧ H b = some (.dK more) ∧ kvs.length + more.length ≤ sizeLine ∧ Q .non (upd H a (.dK (mergeK kvs more)))
theorem mtd_update {X : Cx} : MtR X "dict.update" rDUpd := by
  intro pins s σ H x vs v us Q I rx rv h
  obtain ⟨a, b, kvs, more, rfl, rfl, hne, ha, hb, hz, q⟩ := h
  obtain rfl : v = Value.ref a := rx
  obtain ⟨u, rfl, ru⟩ := rv.one
  obtain rfl : u = Value.ref b := ru
  obtain ⟨z, hd, ws, rel, dd⟩ := dk_of I.hok ha
  obtain ⟨z2, hd2, ws2, rel2, dd2⟩ := dk_of I.hok hb
  refine call_meetsIn PySem.F.slot_dict_update dd.typeIs PySem.F.entry_dict_update (PySem.F.args_dict_update_2 _ _) (meets_dict_update (mixKind X.prog X.w) a b hne hd2)
    ⟨ws, ws2, dd, dd2, (by rw [← rel.length, ← rel2.length]; exact hz), fun h' dd' _ hs => ?_⟩
  have he : ∃ q, h'.get? a = some q := let ⟨q, _, _, hq, _⟩ := dd'; ⟨q, hq⟩
  have hl : (mergeK kvs more).length ≤ sizeLine := Nat.le_trans (length_mergeK more kvs) hz
  exact ⟨.non, _, d_write (t' := s.toks) I (by rw [ha]; exact True.intro) hs he (dk_new hl hd (KV.merge rel2 rel) dd'), rfl, q⟩
/-- pairs (int, no container) -/
def asPr : D → Option (Int × D)
  | .tup [.int k, d] => match scl d with
    | true => some (k, d)
    | false => none
  | _ => none
def asPrs : List D → Option (List (Int × D))
  | [] => some []
  | x :: xs => (asPr x).bind fun p => (asPrs xs).map fun ps => p :: ps
def mergeD (kds more : List (Int × D)) : List (Int × D) := more.foldl (fun acc kv => putD acc kv.1 kv.2) kds
section
variable {K : PySem.W.Frag} {H : Hp}
theorem asPr_rp {v : V} {x : D} {p : Int × D} (h : Rp K H v x) (e : asPr x = some p) : ∃ a u, v = .ref a ∧ H a = some (.tup [.int p.1, u]) ∧ scl p.2 = true ∧ Rp K H u p.2 := by
  unfold asPr at e
  split at e
  · rename_i k d
    split at e
    · rename_i hs
      cases e
      cases h with
      | tup ha hx =>
        cases hx with
        | cons h1 t =>
          cases h1
          cases t with
          | cons h2 t => cases t; exact ⟨_, _, rfl, ha, hs, h2⟩
    · cases e
  · cases e
theorem asPrs_rp : ∀ {xs : List V} {ds : List D} {ps : List (Int × D)}, RpAll K H xs ds → asPrs ds = some ps → ∃ (as : List Addr) (kvs : List (Key × V)), xs = as.map V.ref ∧ Paired (fun p kv => SqT K H p [kV kv.1, kv.2]) as kvs ∧ kvs.length = ps.length ∧ ∀ G, RpKV K G kvs ps
  | _, _, ps, .nil, e => by cases e; exact ⟨[], [], rfl, .nil, rfl, fun _ => .nil⟩
  | _, _, ps, .cons h t, e => by
    rename_i ds
    rw [asPrs] at e
    cases e1 : asPr _ with
    | none => rw [e1] at e; cases e
    | some p =>
      rw [e1] at e
      cases e2 : asPrs ds with
      | none => rw [e2] at e; cases e
      | some qs =>
        rw [e2] at e
        cases e
        obtain ⟨a, u, rfl, ha, hs, hu⟩ := asPr_rp h e1
        obtain ⟨as, kvs, rfl, pr, hl, hk⟩ := asPrs_rp t e2
        exact ⟨a :: as, (.inl p.1, u) :: kvs, rfl, .cons (SqT.of ha) pr, by simp [hl], fun G => .cons (scl_rp hu hs) (hk G)⟩
theorem RpKV.merge : ∀ {more : List (Key × V)} {ps : List (Int × D)} {kvs : List (Key × V)} {kds : List (Int × D)}, RpKV K H more ps → RpKV K H kvs kds → RpKV K H (mergeK kvs more) (mergeD kds ps)
  | _, _, _, _, .nil, h => h
  | _, _, _, _, .cons hv t, h => by
    rename_i k v vs d ds
    have q := RpKV.merge t (h.put k hv)
    exact q
end
/-! ### statements that keep all names -/
def oc0 (K : PySem.W.Frag) (H0 : Hp) (own : List Nat) (E : Ends) (σ : L2.St) : Out → Prop
  | .nx ρ => ∀ H', R K H0 own σ H' ρ → E.nx σ H'
  | _ => False
def tS0 (K : PySem.W.Frag) (H0 : Hp) (own : List Nat) (S : Sl → Rs Out) : TS := fun E σ H => ∃ ρ, R K H0 own σ H ρ ∧ cs (S ρ) (oc0 K H0 own E σ) (fun _ => False)
structure DS0 (X : Cx) (own : List Nat) (S : Sl → Rs Out) (sts : List Stmt) : Prop where
  ps : ∀ H0, PSs X sts (tS0 X.K H0 own S)
  nx : ∀ ρ o, S ρ = .ok o → ∃ ρ', o = .nx ρ'
section
variable {X : Cx} {W : Wsh} {own : List Nat} {S : Sl → Rs Out} {sts : List Stmt} {F : Sl → Rs D} {pos : Pos}
theorem s0_if {c : Expr} {C : Sl → Rs Bool} (hc : PT X c (tT X.K W C)) (h : DS0 X own S sts) : DS0 X own (sIf C S sNil) [.If c sts [] pos] := ⟨fun H0 => pss_imp (pss_one (ps_if hc (h.ps H0) pss_nil)) fun E σ H hw => by
  obtain ⟨ρ, r, hw⟩ := hw
  refine inT (W := W) r (cs_mono (cs_bind hw) (fun b q H' s r' => ?_) fun c q => q.elim)
  cases b with
  | true => exact iteT ⟨ρ, r', q⟩
  | false =>
    refine iteF ?_
    have q : ∀ H', R X.K H0 own σ H' ρ → E.nx σ H' := q
    exact q _ r', fun ρ o e => by
  unfold sIf at e
  cases hC : C ρ with
  | ok b =>
    rw [hC] at e
    cases b with
    | true => exact h.nx ρ o e
    | false => cases e; exact ⟨_, rfl⟩
  | ex c => rw [hC] at e; cases e
  | bad => rw [hC] at e; cases e⟩
def sUpd (j : Nat) (F : Sl → Rs D) : Sl → Rs Out := fun ρ => (F ρ).bind fun d => match d with
  | .lst ds => match asPrs ds, ρ[j]? with
    | some ps, some (some (.dct kds)) => if kds.length + ps.length < 1000000 then .ok (.nx (ρ.set j (some (.dct (mergeD kds (mergeD [] ps)))))) else .bad
    | _, _ => .bad
  | _ => .bad
theorem mergeD_len : ∀ (ps kds : List (Int × D)), (mergeD kds ps).length ≤ kds.length + ps.length
  | [], _ => Nat.le_refl _
  | p :: ps, kds => by
    have h1 := mergeD_len ps (putD kds p.1 p.2)
    have h2 := putD_len kds p.1 p.2
    show (mergeD (putD kds p.1 p.2) ps).length ≤ _
    simp only [List.length_cons]
    omega
theorem s0_upd {j : Nat} {a f : Expr} {cpos q : Pos} {p2 : Pos} (hj : j ∈ own) (hd : X.mg "dict" = none) (ha : PE X a (tE X.K W F)) (hm : ∀ t, PA X [.Call (.Name "dict" p2) [a] [] q] t → PE X (.Call f [.Call (.Name "dict" p2) [a] [] q] [] cpos) (tBM X.K "dict" rDUpd (tVar j) t))
    (hc : X.calm = true := by rfl) (hg : Gl X "dict" := by rfl) (hs1 : starEach [a] X.env = (false, eval a X.env) :: starEach [] X.env := by rfl)
    (hs2 : starEach [.Call (.Name "dict" p2) [a] [] q] X.env = (false, eval (.Call (.Name "dict" p2) [a] [] q) X.env) :: starEach [] X.env := by rfl)
    (hs : swapsWith (.Call f [.Call (.Name "dict" p2) [a] [] q] [] cpos) none pos.line X.env = pure false := by rfl) : DS0 X own (sUpd j F) [.Expr (.Call f [.Call (.Name "dict" p2) [a] [] q] [] cpos) pos] := ⟨fun H0 => by
  refine pss_imp (pss_one (ps_expr (hm _ (pa_cons (pe_callTy (call_dictP hc) hg hd (by decide +kernel) (pa_cons ha pa_nil hs1) (he := hs1)) pa_nil hs2)) hs)) fun E σ H hw => ?_
  obtain ⟨ρ, r, hw⟩ := hw
  obtain ⟨p, d0, e1, e2, ho⟩ := r.own_ j hj
  unfold sUpd at hw
  rw [e2] at hw
  rcases ho with ⟨xs, ds, ex, rfl, ra⟩ | ⟨kvs, kds, ex, rfl, ra⟩
  · exfalso
    cases hF : F ρ with
    | ok d =>
      rw [hF] at hw
      cases d with
      | lst ds' =>
        have hw : cs (match asPrs ds', some (some (D.lst ds)) with
          | some ps, some (some (.dct kds)) => if kds.length + ps.length < 1000000 then .ok (.nx (ρ.set j (some (.dct (mergeD kds (mergeD [] ps)))))) else .bad
          | _, _ => Rs.bad) (oc0 X.K H0 own E σ) (fun _ => False) := hw
        cases hq : asPrs ds' with
        | none => rw [hq] at hw; exact hw
        | some _ => rw [hq] at hw; exact hw
      | _ => exact hw.elim
    | ex c => rw [hF] at hw; exact hw.elim
    | bad => rw [hF] at hw; exact hw.elim
  · refine ⟨.ref p, e1, ?ty, inH (W := W) r (cs_mono (cs_bind hw) (fun d q v H1 s1 r1 rv => ?_) fun c q => q.elim)⟩
    case ty => exact .inr (.inr (.inl ⟨rfl, .inl ⟨kvs, ex⟩⟩))
    cases rv with
    | @lst l xs ds hl rx =>
      have q : cs (match asPrs ds, some (some (D.dct kds)) with
          | some ps, some (some (.dct kds)) => if kds.length + ps.length < 1000000 then .ok (.nx (ρ.set j (some (.dct (mergeD kds (mergeD [] ps)))))) else .bad
          | _, _ => Rs.bad) (oc0 X.K H0 own E σ) (fun _ => False) := q
      cases e3 : asPrs ds with
      | none => rw [e3] at q; exact q.elim
      | some ps =>
        rw [e3] at q
        have q : cs (if kds.length + ps.length < 1000000 then .ok (.nx (ρ.set j (some (.dct (mergeD kds (mergeD [] ps)))))) else Rs.bad) (oc0 X.K H0 own E σ) (fun _ => False) := q
        by_cases hlt : kds.length + ps.length < 1000000
        · rw [if_pos hlt] at q
          obtain ⟨as, ks, rfl, pr, hlen, hk⟩ := asPrs_rp rx e3
          refine ⟨l, as, ks, rfl, SqL.of hl, pr, fun b hb => ?_⟩
          obtain ⟨p', d0', e1', e2', ho2⟩ := r1.own_ j hj
          rw [e1] at e1'; cases e1'
          rw [e2] at e2'; cases e2'
          rcases ho2 with ⟨xs, ds, ex2, hh, ra2⟩ | ⟨kvs2, kds2, ex2, hh, ra2⟩
          · cases hh
          · cases hh
            have npb : p ≠ b := fun e => by rw [e, hb] at ex2; cases ex2
            have r2 := r1.more (o := .dK (mergeK [] ks)) hb
            have ml := length_mergeK ks []
            refine ⟨p, b, kvs2, mergeK [] ks, rfl, rfl, npb, by rw [upd_ne npb]; exact ex2, upd_same, ?_, ?_⟩
            · have := ra2.len
              simp only [List.length_nil] at ml
              refine Nat.le_trans (m := 1000000) (by omega) (by decide)
            · have q : ∀ H', R X.K H0 own σ H' (ρ.set j (some (.dct (mergeD kds (mergeD [] ps))))) → E.nx σ H' := q
              refine q _ (r2.fill hj e1 (.inr ⟨_, _, rfl, rfl, ?_⟩))
              obtain ⟨p', d0', e1', e2', ho3⟩ := r2.own_ j hj
              rw [e1] at e1'; cases e1'
              rw [e2] at e2'; cases e2'
              rcases ho3 with ⟨xs, ds, ex3, hh, ra3⟩ | ⟨kvs3, kds3, ex3, hh, ra3⟩
              · cases hh
              · cases hh
                rw [upd_ne npb, ex2] at ex3
                cases ex3
                exact ((hk _).merge .nil).merge ra3
        · rw [if_neg hlt] at q; exact q.elim
    | _ => exact q.elim, fun ρ o e => by
  unfold sUpd at e
  cases hF : F ρ with
  | ok d =>
    rw [hF] at e
    have e : (match d with
      | .lst ds => (match asPrs ds, ρ[j]? with
        | some ps, some (some (.dct kds)) => if kds.length + ps.length < 1000000 then Rs.ok (Out.nx (ρ.set j (some (D.dct (mergeD kds (mergeD [] ps)))))) else Rs.bad
        | _, _ => Rs.bad)
      | _ => Rs.bad) = .ok o := e
    split at e
    · split at e
      · split at e
        · cases e; exact ⟨_, rfl⟩
        · cases e
      · cases e
    · cases e
  | ex c => rw [hF] at e; cases e
  | bad => rw [hF] at e; cases e⟩
end
/-! ### data without dicts -/
mutual
def ndc : D → Bool
  | .non => true | .bl _ => true | .int _ => true | .str _ => true | .scr _ => true
  | .tup xs => ndcs xs
  | .lst xs => ndcs xs
  | .dct _ => false
  | .clo _ _ => false
  | .lam _ _ _ => false
  | .ins _ fs => ndcf fs
  | .obj _ => true
def ndcs : List D → Bool
  | [] => true
  | x :: xs => ndc x && ndcs xs
def ndcf : List (Str × D) → Bool
  | [] => true
  | (_, x) :: xs => ndc x && ndcf xs
end
structure Sim3 (K : PySem.W.Frag) (H H' : Hp) : Prop where
  l : ∀ a xs, H a = some (.lst xs) → H' a = some (.lst xs)
  t : ∀ a xs, H a = some (.tup xs) → H' a = some (.tup xs)
  s : ∀ a xs, SqL K H a xs → SqL K H' a xs
  i : ∀ a C dx fs, H a = some (.ins C dx fs) → H' a = some (.ins C dx fs)
  w : ∀ a x, H a = some (.own x) → H' a = some (.own x)
section
variable {K : PySem.W.Frag} {H H' : Hp}
mutual
theorem Rp.sim3 (s : Sim3 K H H') : ∀ {v : V} {d : D}, Rp K H v d → ndc d = true → Rp K H' v d
  | _, _, .non, _ => .non
  | _, _, .bl b, _ => .bl b
  | _, _, .int i, _ => .int i
  | _, _, .str x, _ => .str x
  | _, _, .lst h a, p => .lst (s.l _ _ h) (RpAll.sim3 s a (by simpa only [ndc] using p))
  | _, _, .tup h a, p => .tup (s.t _ _ h) (RpAll.sim3 s a (by simpa only [ndc] using p))
  | _, _, .dct h a, p => by simp only [ndc] at p; cases p
  | _, _, .scr h, _ => .scr (s.s _ _ h)
  | _, _, .lam _ _, p => by simp only [ndc] at p; cases p
  | _, _, .ins h1 h2 h3, p => .ins (s.i _ _ _ _ h1) (s.w _ _ h2) (RpF.sim3 s h3 (by simpa only [ndc] using p))
  | _, _, .obj, _ => .obj
  | _, _, .clo _ _ _ _, p => by simp only [ndc] at p; cases p
theorem RpAll.sim3 (s : Sim3 K H H') : ∀ {v : List V} {d : List D}, RpAll K H v d → ndcs d = true → RpAll K H' v d
  | _, _, .nil, _ => .nil
  | _, _, .cons h t, p => by
    simp only [ndcs, Bool.and_eq_true] at p
    exact .cons (Rp.sim3 s h p.1) (RpAll.sim3 s t p.2)
theorem RpF.sim3 (s : Sim3 K H H') : ∀ {v : List (Str × V)} {d : List (Str × D)}, RpF K H v d → ndcf d = true → RpF K H' v d
  | _, _, .nil, _ => .nil
  | _, _, .cons h t, p => by
    simp only [ndcf, Bool.and_eq_true] at p
    exact .cons (Rp.sim3 s h p.1) (RpF.sim3 s t p.2)
end
theorem RpKV.sim3 (s : Sim3 K H H') : ∀ {v : List (Key × V)} {d : List (Int × D)}, RpKV K H v d → (d.all fun kv => ndc kv.2) = true → RpKV K H' v d
  | _, _, .nil, _ => .nil
  | _, _, .cons h t, p => by
    rw [List.all_cons, Bool.and_eq_true] at p
    exact .cons (h.sim3 s p.1) (RpKV.sim3 s t p.2)
end
def ndo : Option D → Bool
  | none => true
  | some d => ndc d
def chk (i j : Nat) (ρ : Sl) : Bool := decide (i < ρ.length) && ((ρ.set i none).set j none).all ndo && match ρ[j]? with
  | some (some (.dct kds)) => kds.all fun kv => ndc kv.2
  | _ => false
theorem chk_slot {i j k : Nat} {ρ : Sl} {d : D} (h : chk i j ρ = true) (hi : k ≠ i) (hj : k ≠ j) (e : ρ[k]? = some (some d)) : ndc d = true := by
  unfold chk at h
  rw [Bool.and_eq_true, Bool.and_eq_true] at h
  have h2 := List.all_eq_true.mp h.1.2 (some d) (List.mem_of_getElem? (i := k) (by rw [List.getElem?_set_ne (Ne.symm hj), List.getElem?_set_ne (Ne.symm hi)]; exact e))
  exact h2
theorem R.reown {K : PySem.W.Frag} {H0 H H' : Hp} {i j : Nat} {σ σ' : L2.St} {ρ ρ' : Sl} {p q : Addr} {od : Obj} {kvs : List (Key × V)} {kds : List (Int × D)} (r : R K H0 [j, i] σ H ρ) (hij : i ≠ j) (e1 : σ[i]? = some (some (.ref p))) (ej : σ[j]? = some (some (.ref q)))
    (ra : RpKV K (hide [q, p] H) kvs kds) (r' : R K (hide [q] (upd H p (.frz od (.dK kvs)))) [j] σ' H' ρ') (e1' : σ'[i]? = some (some (.ref p))) (hc : chk i j ρ' = true) :
    H' p = some (.frz od (.dK kvs)) ∧ R K H0 [j, i] σ' (upd H' p (.dK kvs)) (ρ'.set i (some (.dct kds))) := by
  have ea : adr [j, i] σ = [q, p] := by show [adr1 σ j, adr1 σ i] = _; rw [adr1_of e1, adr1_of ej]
  have nd := r.nd
  rw [ea] at nd
  have np : p ≠ q := by
    intro e
    rw [e] at nd
    simp at nd
  obtain ⟨q', d', f1, f2, ho⟩ := r'.own_ j (by simp)
  have ea' : adr [j] σ' = [q'] := by show [adr1 σ' j] = _; rw [adr1_of f1]
  have ea2 : adr [j, i] σ' = [q', p] := by show [adr1 σ' j, adr1 σ' i] = _; rw [adr1_of f1, adr1_of e1']
  have b := r'.base
  rw [ea'] at b ho
  have eG : hide [q] (upd H p (.frz od (.dK kvs))) p = some (.frz od (.dK kvs)) := by rw [hide_out (by simp [np]), upd_same]
  have fp := b p _ eG
  have np' : p ∉ [q'] := fun z => by rw [hide_in z] at fp; cases fp
  have fp' := fp
  rw [hide_out np'] at fp'
  have np2 : q' ≠ p := fun z => np' (by simp [z])
  have go : ∀ a o, hide [q'] H' a = some o → a ≠ p → hide [q', p] (upd H' p (.dK kvs)) a = some o := fun a o z n => by
    have n2 : a ∉ [q'] := fun y => by rw [hide_in y] at z; cases z
    rw [hide_out n2] at z
    rw [hide_out (by simp only [List.mem_cons, List.not_mem_nil, or_false, not_or] at n2 ⊢; exact ⟨n2, n⟩), upd_ne n]
    exact z
  have sm : Same (hide [q, p] H) (hide [q', p] (upd H' p (.dK kvs))) := by
    refine ⟨fun a o z n => ?_, fun P t => ?_⟩
    · have n1 : a ∉ [q, p] := fun y => by rw [hide_in y] at z; cases z
      rw [hide_out n1] at z
      simp only [List.mem_cons, List.not_mem_nil, or_false, not_or] at n1
      exact go a o (b.o a o (by rw [hide_out (by simp [n1.1]), upd_ne n1.2]; exact z) n) n1.2
    · refine (b.t P (t.ext fun a o z => ?_)).go fun a o z n => go a o z fun y => ?_
      · have n1 : a ∉ [q, p] := fun y => by rw [hide_in y] at z; cases z
        rw [hide_out n1] at z
        simp only [List.mem_cons, List.not_mem_nil, or_false, not_or] at n1
        rw [hide_out (by simp [n1.1]), upd_ne n1.2]; exact z
      · rw [y, fp] at z; cases z; cases n
  have s3 : Sim3 K (hide [q'] H') (hide [q', p] (upd H' p (.dK kvs))) :=
    { l := fun a xs z => go a _ z fun y => by rw [y, fp] at z; cases z
      t := fun a xs z => go a _ z fun y => by rw [y, fp] at z; cases z
      i := fun a C dx fs z => go a _ z fun y => by rw [y, fp] at z; cases z
      w := fun a x z => go a _ z fun y => by rw [y, fp] at z; cases z
      s := fun a xs z => by
        rcases z with z | z
        · refine .inl ?_
          have n : a ≠ p := fun y => by
            subst y
            rcases z with z | ⟨o, z⟩ <;> (rw [fp] at z; cases z)
          rcases z with z | ⟨o, z⟩
          · exact .inl (go a _ z n)
          · exact .inr ⟨o, go a _ z n⟩
        · exact .inr z }
  have hc' := hc
  unfold chk at hc'
  rw [Bool.and_eq_true, Bool.and_eq_true] at hc'
  have hl := of_decide_eq_true hc'.1.1
  refine ⟨fp', by simpa using r'.len, fun k hk => ?_, by rw [ea2]; simp [np2], by rw [ea2]; have := r.base; rw [ea] at this; exact this.trans sm, fun k d hk z => ?_, by rw [ea2]; have := r.tabs; rw [ea] at this; exact this.mono sm⟩
  · rw [ea2]
    rcases List.mem_cons.mp hk with rfl | hk
    · refine ⟨q', d', f1, by rw [List.getElem?_set_ne hij]; exact f2, ?_⟩
      rw [upd_ne np2]
      rw [f2] at hc'
      rcases ho with ⟨xs, ds, z, rfl, c⟩ | ⟨xs, ds, z, rfl, c⟩
      · exact absurd hc'.2 (by simp)
      · exact .inr ⟨xs, ds, z, rfl, c.sim3 s3 hc'.2⟩
    · obtain rfl := List.mem_singleton.mp hk
      exact ⟨p, .dct kds, e1', by rw [List.getElem?_set_self hl], .inr ⟨kvs, kds, upd_same, rfl, ra.mono sm⟩⟩
  · rw [ea2]
    simp only [List.mem_cons, List.not_mem_nil, or_false, not_or] at hk
    rw [List.getElem?_set_ne (Ne.symm hk.2)] at z
    obtain ⟨v, z1, z2⟩ := r'.slot k d (by simp [hk.1]) z
    rw [ea'] at z2
    exact ⟨v, z1, z2.sim3 s3 (chk_slot hc hk.2 hk.1 z)⟩
/-- what is filled, locked: the loop's base -/
theorem R.lockO {K : PySem.W.Frag} {H0 H : Hp} {i j : Nat} {σ : L2.St} {ρ : Sl} {p q : Addr} {od : Obj} {kvs : List (Key × V)} {kds : List (Int × D)} (r : R K H0 [j, i] σ H ρ) (e1 : σ[i]? = some (some (.ref p))) (ej : σ[j]? = some (some (.ref q)))
    (e2 : ρ[i]? = some (some (.dct kds))) (ra : RpKV K (hide [q, p] H) kvs kds) : Same (hide [q, p] H) (hide [q] (upd H p (.frz od (.dK kvs)))) ∧ R K (hide [q] (upd H p (.frz od (.dK kvs)))) [j] σ (upd H p (.frz od (.dK kvs))) ρ := by
  have ea : adr [j, i] σ = [q, p] := by show [adr1 σ j, adr1 σ i] = _; rw [adr1_of e1, adr1_of ej]
  have ea' : adr [j] σ = [q] := by show [adr1 σ j] = _; rw [adr1_of ej]
  have nd := r.nd
  rw [ea] at nd
  have np : p ≠ q := by
    intro e
    rw [e] at nd
    simp at nd
  have sm : Same (hide [q, p] H) (hide [q] (upd H p (.frz od (.dK kvs)))) := .of fun a o z => by
    have n1 : a ∉ [q, p] := fun y => by rw [hide_in y] at z; cases z
    rw [hide_out n1] at z
    simp only [List.mem_cons, List.not_mem_nil, or_false, not_or] at n1
    rw [hide_out (by simp [n1.1]), upd_ne n1.2]
    exact z
  refine ⟨sm, r.len, fun k hk => ?_, by rw [ea']; simp, by rw [ea']; exact Same.refl _, fun k d hk z => ?_, by rw [ea']; have := r.tabs; rw [ea] at this; exact this.mono sm⟩
  · obtain rfl := List.mem_singleton.mp hk
    obtain ⟨q', d', f1, f2, ho⟩ := r.own_ k (by simp)
    rw [ej] at f1
    cases f1
    rw [ea] at ho
    refine ⟨q, d', ej, f2, ?_⟩
    rw [ea', upd_ne (Ne.symm np)]
    exact ho.mono sm
  · rw [ea']
    by_cases hki : k = i
    · subst hki
      rw [e2] at z
      cases z
      exact ⟨_, e1, .dct (.inr ⟨od, by rw [hide_out (by simp [np]), upd_same]⟩) (ra.mono sm)⟩
    · obtain ⟨v, z1, z2⟩ := r.slot k d (by simp only [List.mem_cons, List.not_mem_nil, or_false, not_or] at hk ⊢; exact ⟨hk, hki⟩) z
      rw [ea] at z2
      exact ⟨v, z1, z2.mono sm⟩
def sForKO (i j t : Nat) (S : Sl → Rs Out) : Sl → Rs Out := fun ρ => match ρ[i]? with
  | some (some (.dct kds)) => (noEx (forL (tgName t) S (dkeys kds) ρ)).bind fun o => match o with
    | .nx ρ' => match chk i j ρ' with
      | true => .ok (.nx (ρ'.set i (some (.dct kds))))
      | false => .bad
    | _ => .bad
  | _ => .bad
section
variable {X : Cx} {W : Wsh} {ownB : List Nat} {S : Sl → Rs Out} {sts : List Stmt} {tg e : Expr} {pos : Pos}
theorem s_forKO {i j t : Nat} (hp : PassesOwn (model X.prog X.w) X.A X.env X.xe) (hij : i ≠ j) (hti : t ≠ i) (htj : t ≠ j) (hv : PE X e (tVar i)) (hg : PG X tg (gName t)) (hb : DS0 X [j] S sts) (hcm : X.calm = true := by rfl)
    (hs : ∀ x, foldedSetIterable e X.env x = pure x := by intro _; rfl) : DS X W [j, i] (sForKO i j t S) [j, i] ownB (.For tg e sts [] pos) := by
  refine ⟨fun H0 => ?_⟩
  have hb' : PSs X sts (fun E σ H => ∃ H0, tS0 X.K H0 [j] S E σ H) := ⟨fun pins s σ H E I hw => by
    obtain ⟨H0, hw⟩ := hw
    exact (hb.ps H0).run pins s σ H E I hw⟩
  have pf := ps_for hp hcm (pi_keys hv) hg hb' hs (pos := pos)
  refine ps_imp (ps_lock pf) fun E σ H hw => ?_
  obtain ⟨ρ, r, hw⟩ := hw
  obtain ⟨p, d0, e1, e2, ho⟩ := r.own_ i (by simp)
  obtain ⟨q, d1, ej, _, _⟩ := r.own_ j (by simp)
  have ea : adr [j, i] σ = [q, p] := by show [adr1 σ j, adr1 σ i] = _; rw [adr1_of e1, adr1_of ej]
  rw [ea] at ho
  unfold sForKO at hw
  rw [e2] at hw
  rcases ho with ⟨xs, ds, ex, rfl, ra⟩ | ⟨kvs, kds, ex, rfl, ra⟩
  · exact hw.elim
  · have hw : cs ((noEx (forL (tgName t) S (dkeys kds) ρ)).bind fun o => match o with
      | .nx ρ' => match chk i j ρ' with
        | true => .ok (.nx (ρ'.set i (some (.dct kds))))
        | false => .bad
      | _ => Rs.bad) (oc X.K H0 [j, i] ownB E) (fun c => ∀ σ' H', Same H0 H' → W c σ' H') := hw
    have hw2 := cs_bind hw
    refine ⟨p, .dK kvs, ex, trivial, fun od => ?_⟩
    obtain ⟨sm, r2⟩ := r.lockO (od := od) e1 ej e2 ra
    have nd := r.nd
    rw [ea] at nd
    have np : p ≠ q := by
      intro e
      rw [e] at nd
      simp at nd
    refine ⟨_, e1, p, od, rfl, .inl ⟨kvs, upd_same, ?_⟩⟩
    have eG : hide [q] (upd H p (.frz od (.dK kvs))) p = some (.frz od (.dK kvs)) := by rw [hide_out (by simp [np]), upd_same]
    have wk := wk_k eG (ra.mono sm)
    have hc0 : cs (noEx (forL (tgName t) S (dkeys kds) ρ)) (fun (o : Out) => cs (match o with
      | .nx ρ' => match chk i j ρ' with
        | true => .ok (.nx (ρ'.set i (some (.dct kds))))
        | false => .bad
      | _ => Rs.bad) (oc X.K H0 [j, i] ownB E) (fun c => ∀ σ' H', Same H0 H' → W c σ' H')) (fun _ => False) := cs_noEx0 hw2
    generalize dkeys kds = ds at *
    generalize hQ : (fun (o : Out) => cs (match o with
      | .nx ρ' => match chk i j ρ' with
        | true => .ok (.nx (ρ'.set i (some (.dct kds))))
        | false => .bad
      | _ => Rs.bad) (oc X.K H0 [j, i] ownB E) (fun c => ∀ σ' H', Same H0 H' → W c σ' H')) = QQ at hc0
    refine ⟨fun n m σ' H' => m = ds.length - n ∧ n ≤ ds.length ∧ σ'[i]? = some (some (.ref p)) ∧ ∃ ρ', R X.K (hide [q] (upd H p (.frz od (.dK kvs)))) [j] σ' H' ρ' ∧ cs (noEx (forL (tgName t) S (ds.drop n) ρ')) QQ (fun _ => False), ⟨ds.length, by simp, Nat.zero_le _, e1, ρ, r2, by simpa using hc0⟩, ?_⟩
    rintro n m σ' H' ⟨rfl, hile, e1', ρ', r', hc⟩
    have s1' : Same (hide [q] (upd H p (.frz od (.dK kvs)))) H' := r'.base.trans hide_same
    by_cases hlt : n < ds.length
    · have hdi : ds[n]? = some ds[n] := List.getElem?_eq_getElem hlt
      have hdrop : ds.drop n = ds[n] :: ds.drop (n + 1) := by rw [List.drop_eq_getElem_cons hlt]
      rw [hdrop] at hc
      have hc1 : cs (noEx ((S (ρ'.set t (some ds[n]))).bind fun o => match o with
        | .nx ρ' => forL (tgName t) S (ds.drop (n + 1)) ρ'
        | .ct ρ' => forL (tgName t) S (ds.drop (n + 1)) ρ'
        | .bk ρ' => .ok (.nx ρ')
        | .rt v => .ok (.rt v))) QQ (fun _ => False) := hc
      have hc3 := cs_noEx hc1
      refine .inr ⟨wk.go n H' s1' hlt, fun σ2 H2 => σ2[i]? = some (some (.ref p)) ∧ ∃ ρ2, R X.K (hide [q] (upd H p (.frz od (.dK kvs)))) [j] σ2 H2 ρ2 ∧ cs (noEx (forL (tgName t) S (ds.drop (n + 1)) ρ2)) QQ (fun _ => False), fun σ2 H2 hN => ?_, fun x H3 y => ?_⟩
      · exact ⟨ds.length - (n + 1), by omega, rfl, hlt, hN⟩
      · obtain ⟨s3, s3h, rx, hk⟩ := (wk.yld n H' x H3 _ s1' hdi y).hid r'.base r'.ne
        have r3 := r'.growG s3h hk
        refine ⟨_, ρ'.set t (some ds[n]), r3.set (by simp [htj]) rx, ?_⟩
        cases hS : S (ρ'.set t (some ds[n])) with
        | ok o =>
          obtain ⟨ρ2, rfl⟩ := hb.nx _ _ hS
          rw [hS] at hc3
          exact fun H2 r2 => ⟨by rw [List.getElem?_set_ne hti]; exact e1', ρ2, r2, hc3⟩
        | ex c => rw [hS] at hc3; exact hc3
        | bad => rw [hS] at hc3; exact hc3
    · have e : n = ds.length := by omega
      subst e
      rw [List.drop_length] at hc
      have hc : QQ (.nx ρ') := hc
      rw [← hQ] at hc
      have hc : cs (match chk i j ρ' with
        | true => .ok (.nx (ρ'.set i (some (.dct kds))))
        | false => Rs.bad) (oc X.K H0 [j, i] ownB E) (fun c => ∀ σ' H', Same H0 H' → W c σ' H') := hc
      cases hck : chk i j ρ' with
      | false => rw [hck] at hc; exact hc.elim
      | true =>
        rw [hck] at hc
        have hc : ∀ σ2 H2, R X.K H0 [j, i] σ2 H2 (ρ'.set i (some (.dct kds))) → E.nx σ2 H2 := hc
        obtain ⟨g1, g2⟩ := r.reown hij e1 ej ra r' e1' hck
        exact .inl ⟨wk.stop H' s1', g1, hc _ _ g2⟩
end
/-! ### sorted(d) -/
def dSortK : D → Option D
  | .dct kds => if kds.length < 64 then some (.lst ((srtI (kds.map Prod.fst)).map .int)) else none
  | _ => none
theorem RpKV.keys {K : PySem.W.Frag} {H : Hp} : ∀ {kvs : List (Key × V)} {kds : List (Int × D)}, RpKV K H kvs kds → kvs.map (·.1) = (kds.map Prod.fst).map Sum.inl
  | _, _, .nil => rfl
  | _, _, .cons _ t => by simp only [List.map_cons, RpKV.keys t]
section
variable {X : Cx} {W : Wsh} {e : Expr} {F : Sl → Rs D} {p pos : Pos}
theorem e_sortedD (hm : X.mg "sorted" = none) (he : PE X e (tE X.K W F)) (hc : X.calm = true := by rfl) (hg : Gl X "sorted" := by rfl) (hs : starEach [e] X.env = (false, eval e X.env) :: starEach [] X.env := by rfl) :
    PE X (.Call (.Name "sorted" p) [e] [] pos) (tE X.K W (eUn dSortK F)) :=
  pe_imp (pe_callB (call_sortedDI hc) hg hm (by decide +kernel) (he := hs) (pa_cons he pa_nil hs)) fun σ H Q h => by
    obtain ⟨ρ, rr, h⟩ := h
    refine ⟨ρ, rr, cs_mono (cs_bind h) (fun dx h1 v1 H1 s1 r1 => ?_) fun c q => q⟩
    obtain ⟨d, e, h3⟩ := cs_of h1
    cases dx <;> simp only [dSortK] at e <;> try contradiction
    rename_i kds
    split at e
    · rename_i hh
      cases e
      cases r1 with
      | @dct a kvs _ ha hk =>
        refine ⟨a, kvs, kds.map Prod.fst, rfl, ha, hk.keys, by simpa using hh, fun ys p2 hp hs hn => ?_⟩
        have e4 : ys = srtI (kds.map Prod.fst) := srtI_of hp hs
        rw [e4]
        have hh : ∀ (ms : List Int) (H : Hp), RpAll X.K H (ms.map V.int) (ms.map .int) := by
          intro ms H
          induction ms with
          | nil => exact .nil
          | cons m ms ih => exact .cons (.int m) ih
        exact h3 _ _ (s1.trans (same_new hn)) (.lst upd_same (hh _ _))
    · cases e
end
end PB

namespace PB
open PySem PySem.Spec PyProof.Rows L2

/-! ### zip of a tuple and a list -/
def ItM (K : PySem.W.Frag) (a b : Addr) : It :=
  ⟨fun n G => ∃ (us ws : List V) (u w : V), SqT K G a us ∧ SqL K G b ws ∧ us[n]? = some u ∧ ws[n]? = some w,
    fun n G v G' => ∃ T u w, v = .ref T ∧ G T = none ∧ G' = upd G T (.tup [u, w]) ∧ (∀ us, SqT K G a us → us[n]? = some u) ∧ ∀ ws, SqL K G b ws → ws[n]? = some w,
    fun n G => ∃ us ws : List V, SqT K G a us ∧ SqL K G b ws ∧ n ≤ us.length ∧ n ≤ ws.length ∧ (n = us.length ∨ n = ws.length)⟩
def MixSt (a b z TI TO i1 i2 : Addr) (n : Nat) (h : Heap) : Prop := IsZip h z TI TO .none ∧ IsTupOf2 h TI (.ref i1) (.ref i2) ∧ (∃ x y, IsTupOf2 h TO x y) ∧ h.IsTupleIter i1 a n ∧ h.IsListIter i2 b n
theorem five {α : Type} {c z t o i j : α} (h : c ∈ [z, t, o, i, j]) : c = z ∨ c = t ∨ c = o ∨ c = i ∨ c = j := by simpa using h
theorem mix_obj {a b z TI TO i1 i2 : Addr} {n : Nat} {h : Heap} (st : MixSt a b z TI TO i1 i2 n h) {c : Addr} (hc : c ∈ [z, TI, TO, i1, i2]) : ∃ o, h.get? c = some o ∧ ∀ v, o.data ≠ .cell v := by
  obtain ⟨s1, s2, ⟨x, y, s3⟩, ⟨p1, g1, _, k1⟩, ⟨p2, g2, _, k2⟩⟩ := st
  rcases five hc with rfl | rfl | rfl | rfl | rfl
  · exact ⟨_, s1, fun v w => nomatch w⟩
  · exact ⟨_, s2, fun v w => nomatch w⟩
  · exact ⟨_, s3, fun v w => nomatch w⟩
  · exact ⟨p1, g1, fun v w => by rw [k1] at w; cases w⟩
  · exact ⟨p2, g2, fun v w => by rw [k2] at w; cases w⟩
theorem mix_keep {a b z TI TO i1 i2 : Addr} {n : Nat} {h h' : Heap} (st : MixSt a b z TI TO i1 i2 n h) (k : ∀ c ∈ [z, TI, TO, i1, i2], ∀ o, h.get? c = some o → h'.get? c = some o) : MixSt a b z TI TO i1 i2 n h' := by
  obtain ⟨s1, s2, ⟨x, y, s3⟩, s4, s5⟩ := st
  exact ⟨k z (by simp) _ s1, k TI (by simp) _ s2, ⟨x, y, k TO (by simp) _ s3⟩, s4.at fun o w => k i1 (by simp) o w, s5.at fun o w => k i2 (by simp) o w⟩
theorem turn_mix {P : Program} {w : World} {K : PySem.W.Frag} {elts : List Expr} {kk : Nat} {tpos : Pos} {a b z TI TO i1 i2 : Addr} (S : ZipSep2 z TI TO i1 i2 [i1, a] [i2, b]) (na : a ≠ i1) (nb : b ≠ i2) :
    Turn P w K (.Tuple elts kk tpos) (ItM K a b) [z, TI, TO, i1, i2] z (MixSt a b z TI TO i1 i2) where
  mem := by simp
  obj := fun n h st c hc => mix_obj st hc
  keep := fun n h h' st k => mix_keep st k
  item := by
    intro X eP ew eK calm n pins s σ G E I ff st go
    subst eP ew eK
    have st' := st
    obtain ⟨s1, s2, ⟨x0, y0, s3⟩, s4, s5⟩ := st
    obtain ⟨us, ws, u, v, qa, qb, eu, ev⟩ := go
    obtain ⟨ia, ra, pa, _⟩ := I.tuple qa
    obtain ⟨ib, rb, pb, _⟩ := I.list qb
    have hh : X.A.in1.handled = none := by simpa using I.ok.hd calm
    have la : n < ia.toArray.size := by
      have := ra.length
      have := (List.getElem?_eq_some_iff.mp eu).1
      rw [List.size_toArray]; omega
    have lb : n < ib.toArray.size := by
      have := rb.length
      have := (List.getElem?_eq_some_iff.mp ev).1
      rw [List.size_toArray]; omega
    have zl : z < s.heap.objs.size := Heap.lt_size s1
    refine wpAny_pyNext_zipD2_item S (Draws.tuple hh i1 a na ia.toArray) (Draws.list hh i2 b nb ib.toArray) s1 s2 s3 ⟨s4, pa⟩ ⟨s5, pb.isList⟩ la lb fun x1 x2 h1 tk e1 e2 z1 t1 d1 d2 nt sz kp => ?_
    obtain ⟨u', gu, ru⟩ := ra.get eu
    obtain ⟨v', gv, rv⟩ := rb.get ev
    have f1 : u' = x1 := by
      rw [List.getElem?_toArray] at e1
      rw [gu] at e1
      exact Option.some.inj e1
    have f2 : v' = x2 := by
      rw [List.getElem?_toArray] at e2
      rw [gv] at e2
      exact Option.some.inj e2
    subst f1 f2
    refine ⟨_, rfl, wpAny_letOwnedTupleGo_zip (s := { s with heap := h1, toks := tk }) z1 fun h2 z2 sb => ?_⟩
    have n2 : h2.get? s.heap.objs.size = some { cls := .type "tuple", data := .seq #[u', v'] } := (sb.2 _ (Nat.ne_of_gt zl)).trans nt
    have new : ObjOk X.prog X.w (upd G s.heap.objs.size (.tup [u, v])) h2 s.heap.objs.size (.tup [u, v]) := ⟨show 2 ≤ sizeLine by decide, [u', v'], .cons ru (.cons rv .nil), ⟨_, n2, rfl, _, rfl⟩⟩
    have kp2 : ∀ c o, c ∉ [z, TI, TO, i1, i2] → s.heap.get? c = some o → h2.get? c = some o := fun c o nc e => by
      simp only [List.mem_cons, List.not_mem_nil, or_false, not_or] at nc
      exact (sb.2 c nc.1).trans (kp c o nc.1 nc.2.2.1 nc.2.2.2.1 nc.2.2.2.2 e)
    have J : Inv X pins σ (upd G s.heap.objs.size (.tup [u, v])) { s with heap := h2, toks := tk } := I.turnedNew (t' := tk) (ch := [z, TI, TO, i1, i2]) kp2 ff (Nat.le_refl _) new
    refine ⟨.ref s.heap.objs.size, _, J, rfl, ⟨_, u, v, rfl, I.hok.fresh (Nat.le_refl _), rfl, fun l hl => by rw [I.tuple_inj hl qa]; exact eu, fun l hl => by rw [I.list_inj hl qb]; exact ev⟩, ⟨z2, ?_, ⟨u', v', ?_⟩, ?_, ?_⟩, fun c hc => ?_⟩
    · exact (sb.2 _ S.TIz).trans (kp _ _ S.TIz S.TITO S.TIi1 S.TIi2 s2)
    · exact (sb.2 _ S.TOz).trans t1
    · exact d1.1.at fun o w => (sb.2 _ S.zi1.symm).trans w
    · exact d2.1.at fun o w => (sb.2 _ S.zi2.symm).trans w
    · obtain ⟨oc, gc, _⟩ := mix_obj st' hc
      rw [upd_ne (Nat.ne_of_lt (Heap.lt_size gc))]
      exact (ff c hc).1
  done := by
    intro X eP ew eK calm n pins s σ G E I ff st stp
    subst eP ew eK
    obtain ⟨s1, s2, ⟨x0, y0, s3⟩, s4, s5⟩ := st
    obtain ⟨us, ws, qa, qb, n1, n2, en⟩ := stp
    obtain ⟨ia, ra, pa, _⟩ := I.tuple qa
    obtain ⟨ib, rb, pb, _⟩ := I.list qb
    have hh : X.A.in1.handled = none := by simpa using I.ok.hd calm
    have la : ia.toArray.size = us.length := by rw [List.size_toArray, ra.length]
    have lb : ib.toArray.size = ws.length := by rw [List.size_toArray, rb.length]
    refine wpAny_pyNext_zipD2_end S (Draws.tuple hh i1 a na ia.toArray) (Draws.list hh i2 b nb ib.toArray) s1 s2 s3 ⟨s4, pa⟩ ⟨s5, pb.isList⟩ (by omega) (by omega) (by omega) fun h1 tk kp => ⟨rfl, ?_⟩
    refine I.turnedL (t' := tk) (ch := [z, TI, TO, i1, i2]) (fun c o nc e => ?_) ff
    simp only [List.mem_cons, List.not_mem_nil, or_false, not_or] at nc
    exact kp c o nc.1 nc.2.2.1 nc.2.2.2.1 nc.2.2.2.2 e
  self := fun A n s Q E st k => wpAny_pyIter_zip st.1 k
theorem wk_m {K : PySem.W.Frag} {G : Hp} {a b : Addr} {us ws : List V} {ds es : List D} (g : G a = some (.tup us)) (r : RpAll K G us ds) (g' : G b = some (.lst ws)) (r' : RpAll K G ws es) : WkD K (ItM K a b) G (zipT ds es) where
  go := fun i H s hi => by
    have hl := r.length
    have hl' := r'.length
    rw [zipT_len] at hi
    exact ⟨us, ws, us[i]'(by omega), ws[i]'(by omega), SqT.of (s _ _ g), SqL.of (s _ _ g'), by simp, by simp⟩
  stop := fun H s => ⟨us, ws, SqT.of (s _ _ g), SqL.of (s _ _ g'), by
    have hl := r.length
    have hl' := r'.length
    rw [zipT_len]; omega⟩
  yld := fun i H x H' d s e y => by
    obtain ⟨T, v, u, e1, hT, e2, y1, y2⟩ := y
    obtain ⟨x', y', q1, q2, rfl⟩ := zipT_get e
    obtain ⟨v', e3, rv⟩ := r.get q1
    obtain ⟨u', e4, ru⟩ := r'.get q2
    have z1 := y1 us (SqT.of (s _ _ g))
    have z2 := y2 ws (SqL.of (s _ _ g'))
    rw [e3] at z1; cases z1
    rw [e4] at z2; cases z2
    exact .inr ⟨T, _, _, _, _, e1, hT, e2, rfl, rv, ru⟩
theorem sep_nat (n a b : Nat) (la : a < n) (lb : b < n) : ZipSep2 (n + 4) (n + 2) (n + 3) n (n + 1) [n, a] [n + 1, b] where
  TIz := (by omega : (n + 2 : Nat) ≠ n + 4)
  TOz := (by omega : (n + 3 : Nat) ≠ n + 4)
  TITO := (by omega : (n + 2 : Nat) ≠ n + 3)
  TIi1 := (by omega : (n + 2 : Nat) ≠ n)
  mem1 := by simp
  zf1 := fun h => (List.mem_cons.mp h).elim (fun e => absurd e (by omega : ¬ (n + 4 : Nat) = n)) fun h => absurd (List.mem_singleton.mp h) (by omega : ¬ (n + 4 : Nat) = a)
  Tf1 := fun h => (List.mem_cons.mp h).elim (fun e => absurd e (by omega : ¬ (n + 3 : Nat) = n)) fun h => absurd (List.mem_singleton.mp h) (by omega : ¬ (n + 3 : Nat) = a)
  TIi2 := (by omega : (n + 2 : Nat) ≠ n + 1)
  mem2 := by simp
  zf2 := fun h => (List.mem_cons.mp h).elim (fun e => absurd e (by omega : ¬ (n + 4 : Nat) = n + 1)) fun h => absurd (List.mem_singleton.mp h) (by omega : ¬ (n + 4 : Nat) = b)
  Tf2 := fun h => (List.mem_cons.mp h).elim (fun e => absurd e (by omega : ¬ (n + 3 : Nat) = n + 1)) fun h => absurd (List.mem_singleton.mp h) (by omega : ¬ (n + 3 : Nat) = b)
  sep1_2 := fun h => (List.mem_cons.mp h).elim (fun e => absurd e (by omega : ¬ (n : Nat) = n + 1)) fun h => absurd (List.mem_singleton.mp h) (by omega : ¬ (n : Nat) = b)
  sep2_1 := fun h => (List.mem_cons.mp h).elim (fun e => absurd e (by omega : ¬ (n + 1 : Nat) = n)) fun h => absurd (List.mem_singleton.mp h) (by omega : ¬ (n + 1 : Nat) = a)
theorem le_five (n c : Nat) (h : c = n + 4 ∨ c = n + 2 ∨ c = n + 3 ∨ c = n ∨ c = n + 1) : n ≤ c := by omega
def iZM (K : PySem.W.Frag) (ta : TA) : L2.TI := fun σ H R => ta σ H fun vs G => ∃ a b us ws, vs = [.ref a, .ref b] ∧ SqT K G a us ∧ SqL K G b ws ∧ R (ItM K a b) G
theorem pi_zipM {X : Cx} {e e2 : Expr} {ta : TA} {p pos tpos : Pos} {elts : List Expr} {kk : Nat} (hg : Gl X "zip") (hm : X.mg "zip" = none) (ha : PA X [e, e2] ta)
    (hs : starEach [e, e2] X.env = (false, eval e X.env) :: starEach [e2] X.env := by rfl) (hq : (backTo pos (starEach [e2] X.env)).any (·.1) = false := by rfl) :
    PI X (.Tuple elts kk tpos) (.Call (.Name "zip" p) [e, e2] [] pos) (iZM X.K ta) := ⟨fun pins s σ H R I h => by
  refine Call_ (ld_blt I hg hm PyProof.Rows.boot_zip (PyProof.Rows.callWith_type1 (thn (ha.run pos pins s σ H _ I h) fun vals s1 ⟨vs, G, J, rel, q⟩ => ?_) hs hq))
  obtain ⟨a, b, us, ws, rfl, qa, qb, q⟩ := q
  obtain ⟨v1, v2, rfl, r1, r2⟩ : ∃ v1 v2, vals = [v1, v2] ∧ RelV (.ref a) v1 ∧ RelV (.ref b) v2 := by
    cases rel with
    | cons r rr =>
      cases rr with
      | cons r' rr =>
        cases rr
        exact ⟨_, _, rfl, r, r'⟩
  obtain rfl : v1 = Value.ref a := r1
  obtain rfl : v2 = Value.ref b := r2
  obtain ⟨ia, ra, pa, _⟩ := J.tuple qa
  obtain ⟨ib, rb, pb, _⟩ := J.list qb
  have la : a < s1.heap.objs.size := by
    obtain ⟨o, ho, _⟩ := id pa
    exact Heap.lt_size ho
  have lb := pb.lt
  refine zip_begins2 (begins_tuple a ia.toArray) (begins_list b ib.toArray) pa pb.isList fun h1 z1 t1 o1 g1 g2 sz kp => wpAny_pyIter_zip z1 ?_
  have J2 : Inv X pins σ G { s1 with heap := h1 } := J.kept (t' := s1.toks) kp
  refine ⟨s1.heap.objs.size + 4, [s1.heap.objs.size + 4, s1.heap.objs.size + 2, s1.heap.objs.size + 3, s1.heap.objs.size, s1.heap.objs.size + 1], _, _, G, rfl, J2, turn_mix (TI := s1.heap.objs.size + 2) (TO := s1.heap.objs.size + 3) (i1 := s1.heap.objs.size) (i2 := s1.heap.objs.size + 1) (sep_nat _ _ _ la lb) (Nat.ne_of_lt la) (Nat.ne_of_lt (Nat.lt_succ_of_lt lb)), ⟨z1, t1, ⟨_, _, o1⟩, ⟨_, g1, rfl, rfl⟩, ⟨_, g2, rfl, rfl⟩⟩, fun c hc => ?_, q⟩
  have le : s1.heap.objs.size ≤ c := le_five _ _ (five hc)
  exact J.fpOk le (J.hok.fresh le)⟩
def sZipM (A : Sl → Rs (List D)) : Sl → Rs (List D) := fun ρ => (A ρ).bind fun ds => match ds with
  | [.tup xs, .lst ys] => .ok (zipT xs ys)
  | _ => .bad
theorem i_zipM {X : Cx} {W : Wsh} {a b : Expr} {A : Sl → Rs (List D)} {p pos tpos : Pos} {elts : List Expr} {kk : Nat} (hm : X.mg "zip" = none) (ha : PA X [a, b] (tA X.K W A)) (hg : Gl X "zip" := by rfl) (hs : starEach [a, b] X.env = (false, eval a X.env) :: starEach [b] X.env := by rfl) (hpl : (backTo pos (starEach [b] X.env)).any (·.1) = false := by rfl) :
    PI X (.Tuple elts kk tpos) (.Call (.Name "zip" p) [a, b] [] pos) (tI X.K W (sZipM A)) := by
  refine pi_imp (pi_zipM hg hm ha hs hpl) fun σ H R h => ?_
  obtain ⟨ρ, rr, h⟩ := h
  refine ⟨ρ, rr, cs_mono (cs_bind h) (fun ds h1 vs H1 s1 r1 => ?_) fun c q => q⟩
  match ds, h1 with
  | [.tup ds, .lst es], h1 =>
    obtain ⟨v, v', rfl, r, r'⟩ := rpall2 r1
    obtain ⟨p, xs, rfl, g1, a1⟩ := rp_tup r
    obtain ⟨p', xs', rfl, g1', a1'⟩ := rp_lst r'
    exact ⟨p, p', xs, xs', rfl, SqT.of g1, SqL.of g1', h1 _ _ s1 (wk_m g1 a1 g1' a1')⟩
end PB

namespace PB
open PySem PySem.Spec PyProof.Rows L2

/-! ### d != {} -/
def dNeD : D → D → Option D
  | .dct kds, .dct [] => some (.bl (!kds.isEmpty))
  | _, _ => none
def rNeD : R2 := fun x y H Q => ∃ a b kvs, x = .ref a ∧ y = .ref b ∧ Rd H a (.dK kvs) ∧ Rd H b (.dK []) ∧ Q (.bl (!kvs.isEmpty)) H
section
variable {X : Cx} {W : Wsh} {a b : Expr} {F G : Sl → Rs D} {pos : Pos} {k : Nat}
theorem op_neD0 (hu : X.A.units < cLine) : OpR X (compareOp .NotEq) rNeD := by
  intro pins s σ H x y v u Q I rx ry h
  obtain ⟨a, b, kvs, rfl, rfl, ea, eb, q⟩ := h
  obtain rfl : v = Value.ref a := rx
  obtain rfl : u = Value.ref b := ry
  obtain ⟨_, ya, va, ra, da⟩ := dk_rd I.hok ea
  obtain ⟨_, yb, vb, rb, db⟩ := dk_rd I.hok eb
  have l2 : vb.length = 0 := rb.length.symm
  have l1 := ra.length
  refine PySem.W.keq_ne (knd := mixKind X.prog X.w) (r := true) ya yb da db hu (fun e => ?_) (fin_bl I q ?_)
  · have : va = [] := List.eq_nil_of_length_eq_zero (by omega)
    rw [this]
    exact .nil
  · rw [l2, ← l1]
    cases kvs <;> rfl
theorem od_neD0 {K : PySem.W.Frag} : OpD K rNeD dNeD := by
  intro x y dx dy d H Q rx ry e k
  unfold dNeD at e
  split at e
  · rename_i kds
    cases e
    cases rx with
    | @dct a1 kvs1 _ ha hk =>
      cases ry with
      | dct hb hk2 =>
        cases hk2
        refine ⟨_, _, _, rfl, rfl, ha, hb, ?_⟩
        have : kds.isEmpty = kvs1.isEmpty := by
          have := hk.len
          rw [Bool.eq_iff_iff, List.isEmpty_iff_length_eq_zero, List.isEmpty_iff_length_eq_zero, ← this]
        rw [this] at k
        exact k _ H (Same.refl H) (.bl _)
  · cases e
theorem e_neD0 (hr : Room k X.A) (ha : PE X a (tE X.K W F)) (hb : PE X b (tE X.K W G)) : PE X (.Compare a [.NotEq] [b] pos) (tE X.K W (eBin dNeD F G)) := e_cmp (op_neD0 (by have := hr.units; omega)) od_neD0 ha hb (nomark _)
theorem c_neD0 (hr : Room k X.A) (ha : PE X a (tE X.K W F)) (hb : PE X b (tE X.K W G)) : PT X (.Compare a [.NotEq] [b] pos) (tT X.K W (cE (eBin dNeD F G))) := c_cmp (op_neD0 (by have := hr.units; omega)) od_neD0 ha hb (nomark _)
/-! ### k in d -/
def dInK : D → D → Option D
  | .int k, .dct kds => some (.bl (valD kds k).isSome)
  | _, _ => none
def rInK : R2 := fun x y H Q => ∃ a o, y = .ref a ∧ DGet H a x o ∧ Q (.bl o.isSome) H
theorem op_inK (hu : X.A.units + 1 < cLine) : OpR X (compareOp .In) rInK := by
  intro pins s σ H x y v u Q I rx ry h
  obtain ⟨a, o, rfl, g, q⟩ := h
  obtain rfl : u = Value.ref a := ry
  exact d_in hu I g rx fun s' I' => ⟨.bl o.isSome, H, I', rfl, q⟩
theorem od_inK {K : PySem.W.Frag} : OpD K rInK dInK := by
  intro x y dx dy d H Q rx ry e k
  unfold dInK at e
  split at e
  · rename_i j kds
    cases e
    cases rx
    cases ry with
    | dct ha hk =>
      refine ⟨_, _, rfl, .inl ⟨_, .inl j, ha, rfl, rfl⟩, ?_⟩
      rcases hk.val j with ⟨e1, e2⟩ | ⟨w, d', e1, e2, _⟩
      · rw [e1]
        rw [e2] at k
        exact k _ H (Same.refl H) (.bl _)
      · rw [e1]
        rw [e2] at k
        exact k _ H (Same.refl H) (.bl _)
  · cases e
theorem e_inK (hr : Room k X.A) (ha : PE X a (tE X.K W F)) (hb : PE X b (tE X.K W G)) (hm : behindInMarks .In b = false := by rfl) : PE X (.Compare a [.In] [b] pos) (tE X.K W (eBin dInK F G)) := e_cmp (op_inK (room1 hr)) od_inK ha hb hm
theorem c_inK (hr : Room k X.A) (ha : PE X a (tE X.K W F)) (hb : PE X b (tE X.K W G)) (hm : behindInMarks .In b = false := by rfl) : PT X (.Compare a [.In] [b] pos) (tT X.K W (cE (eBin dInK F G))) := c_cmp (op_inK (room1 hr)) od_inK ha hb hm
end
/-! ### min(d) -/
def gMinK : List D → Option D
  | [.dct kds] => if kds = [] then none else some (.int (minL (kds.map Prod.fst)))
  | _ => none
def rMinR : List V → Hp → VK → Prop := fun vs H Q => ∃ (a : Addr) (kvs : List (Key × V)) (is : List Int), vs = [V.ref a] ∧ Rd H a (.dK kvs) ∧ kvs.map (·.1) = is.map Sum.inl ∧ is ≠ [] ∧ ∀ m, m ∈ is → (∀ j ∈ is, m ≤ j) → Q (.int m) H
section
variable {X : Cx} {W : Wsh} {a o : Expr} {A : Sl → Rs (List D)} {F : Sl → Rs D} {p pos apos mpos : Pos}
theorem cr_minR (hc : X.calm = true) : CallR X (.builtin "min") rMinR := fun pins s σ H vs us Q I r h => by
  obtain ⟨d, kvs, is, rfl, hd, hks, ne, q⟩ := h
  rw [Vals.ref1 r]
  obtain ⟨_, low, ws, rel, dof⟩ := dk_rd I.hok hd
  obtain ⟨ep, at_⟩ := dof.dictAt
  have lt : d < s.heap.objs.size := by
    obtain ⟨ob, es, ho, _⟩ := id at_
    exact Heap.lt_size ho
  have keys : ws.map (·.1) = is.map Sum.inl := (KV.keys rel).symm.trans hks
  have len : ws.length = is.length := by simpa using congrArg List.length keys
  have pos_ : 0 < ws.length := by rw [len]; exact List.length_pos_iff.mpr ne
  have each : ∀ (i : Nat) (v : Value), (∃ k x, ws[i]? = some (k, x) ∧ (mixKind X.prog X.w).is k v = true) → ∃ t, v = Value.int (is.getD i 0) t := by
    rintro i v ⟨k, x, e, isk⟩
    have e1 : (ws.map (·.1))[i]? = some k := by rw [List.getElem?_map, e]; rfl
    rw [keys, List.getElem?_map] at e1
    obtain ⟨j, hj, rfl⟩ := Option.map_eq_some_iff.mp e1
    obtain ⟨t, rfl⟩ := Value.isInt_shape (k := j) (v := v) isk
    exact ⟨t, by rw [List.getD_eq_getElem?_getD, hj]; rfl⟩
  refine call_min_walk (wpAny_pyIter_dict (knd := mixKind X.prog X.w) low at_ ⟨_, _, _, _, _, _, _, rfl, Walks.dictKeys (knd := mixKind X.prog X.w) (A := X.A.in1) (I.ok.hd hc) s.heap.objs.size d (Nat.ne_of_lt lt) ws ep, ⟨⟨_, Heap.get?_push_size _ rfl, rfl, rfl⟩, at_.keep fun b u e => Heap.get?_push_of_some _ e⟩, ?_, pos_, CmpOf.ints_lt (fun i => is.getD i 0) each, ?_⟩)
  · intro b hb
    show b < (s.heap.push _).objs.size
    rw [Heap.size_push]
    rcases List.mem_cons.mp hb with rfl | hb
    · exact Nat.lt_succ_self _
    · rw [List.mem_singleton.mp hb]; exact Nat.lt_succ_of_lt lt
  · intro v h' tk hP hk
    obtain ⟨t, rfl⟩ := each _ v hP
    obtain ⟨b1, b2⟩ := argBest_lt (fun i => is.getD i 0) (ws.length - 1)
    have J : L2.Inv X pins σ H { s with heap := h', toks := tk } := I.kept (t' := tk) fun b u e => hk b u (fun m => absurd (Heap.lt_size e) (by rw [List.mem_singleton.mp m]; exact Nat.lt_irrefl _)) (Heap.get?_push_of_some _ e)
    refine ⟨.int _, H, J, ⟨t, rfl⟩, q _ ?_ fun j hj => ?_⟩
    · have lb : argBest (fun i j => decide (is.getD i 0 < is.getD j 0)) (ws.length - 1) < is.length := by omega
      rw [List.getD_eq_getElem?_getD, List.getElem?_eq_getElem lb]
      exact List.getElem_mem lb
    · obtain ⟨i, hi, rfl⟩ := List.mem_iff_getElem.mp hj
      have e2 : is.getD i 0 = is[i] := by rw [List.getD_eq_getElem?_getD, List.getElem?_eq_getElem hi]; rfl
      rw [← e2]
      exact b2 i (by omega)
theorem cd_minK {K : PySem.W.Frag} : CallD K rMinR gMinK := by
  intro vs ds d H Q rv e k
  match ds, e with
  | [.dct kds], e =>
    obtain ⟨v, rfl, r⟩ := rpall1 rv
    simp only [gMinK] at e
    split at e
    · cases e
    · rename_i ne
      cases e
      cases r with
      | dct ha hk =>
        refine ⟨_, _, kds.map Prod.fst, rfl, ha, hk.keys, by simpa using ne, fun m hm hl => ?_⟩
        have : m = minL (kds.map Prod.fst) := by
          have h1 := minL_le hm
          have h2 := hl _ (minL_mem (by simpa using ne))
          omega
        rw [this]
        exact k _ H (Same.refl H) (.int _)
theorem e_minK (hm : X.mg "min" = none) (ha : PA X [a] (tA X.K W A)) (hc : X.calm = true := by rfl) (hg : Gl X "min" := by rfl) (he : starEach [a] X.env = (false, eval a X.env) :: starEach [] X.env := by rfl) : PE X (.Call (.Name "min" p) [a] [] pos) (tE X.K W (eCall gMinK A)) :=
  e_callB (cr_minR hc) cd_minK hm (by decide +kernel) ha hg (he := he)
end
/-! ### sum(d.values()) -/
def dSumV : D → Option D
  | .dct kds => (asInts (kds.map Prod.snd)).map fun ns => .int ns.sum
  | _ => none
def tSumV (td : TE) : TE := fun σ H Q => td σ H fun x G => ∃ (a : Addr) (kvs : List (Key × V)) (is : List Int), x = V.ref a ∧ Rd G a (.dK kvs) ∧ kvs.map (·.2) = is.map V.int ∧ Q (.int (is.sum)) G
theorem preSum_getD (is : List Int) : ∀ j, j ≤ is.length → preSum (fun i => is.getD i 0) j = (is.take j).sum
  | 0, _ => by simp [preSum]
  | j + 1, h => by
    have hj : j < is.length := h
    have e : is.take (j + 1) = is.take j ++ [is[j]] := by rw [List.take_succ, List.getElem?_eq_getElem hj]; rfl
    rw [preSum, preSum_getD is j (by omega), e, List.sum_append, List.getD_eq_getElem?_getD, List.getElem?_eq_getElem hj]
    simp
section
variable {X : Cx} {W : Wsh} {o : Expr} {F : Sl → Rs D} {p pos apos mpos : Pos} {td : TE}
theorem pe_sumV (hc : X.calm = true) (hg : Gl X "sum") (hm : X.mg "sum" = none) (hd : PE X o td) (hb : attributeBase o "values" X.env (eval o X.env) = eval o X.env := by rfl) (hl : (apos.endLine == mpos.line) = true := by rfl)
    (hs : starEach [Expr.Call (.Attribute o "values" apos) [] [] mpos] X.env = [(false, eval (Expr.Call (.Attribute o "values" apos) [] [] mpos) X.env)] := by rfl) :
    PE X (.Call (.Name "sum" p) [.Call (.Attribute o "values" apos) [] [] mpos] [] pos) (tSumV td) := ⟨fun pins s σ H Q I h => by
  refine wpAny_Call_Name_kw (ld_blt I hg hm (u := .builtin "sum") (by decide +kernel) ?_ (by decide) (by decide))
  rw [hs]
  refine PySem.callWith_builtin1 (wpAny_Call_method0_late hb hl (thn (hd.run pins s σ H _ I h) fun v s1 ⟨x, G, J, rx, d, kvs, is, ex, hd2, hv, q⟩ => ?_))
  subst ex
  obtain rfl : v = Value.ref d := rx
  obtain ⟨_, low, ws, rel, dof⟩ := dk_rd J.hok hd2
  obtain ⟨ep, at_⟩ := dof.dictAt
  obtain ⟨ob, es, ho, exo, _⟩ := id at_
  have lt : d < s1.heap.objs.size := Heap.lt_size ho
  refine ⟨"dict", "dict.values", PySem.F.plainAttrs_dict, PySem.F.slot_dict_values, PySem.F.type_dict_values, ⟨ob, ho, exo.1⟩, fun b e => by cases e; exact ⟨ob, ho, exo.2.1⟩, Calls.callWith_builtin rfl (PySem.evalArgs_none ?_)⟩
  refine call_meetsIn PySem.F.slot_dict_values ⟨ob, ho, exo.1⟩ PySem.F.entry_dict_values (PySem.F.args_dict_values_1 _) (meets_dict_values (mixKind X.prog X.w) d low) ⟨⟨ws, dof⟩, ?_⟩
  have kp : ∀ b u, s1.heap.get? b = some u → (s1.heap.push { cls := .type "dict_values", data := .fields #[.ref d] }).get? b = some u := fun b u e => Heap.get?_push_of_some _ e
  have at1 := at_.keep kp
  have len : ws.length = is.length := by
    have := congrArg List.length hv
    rw [List.length_map, List.length_map] at this
    exact (KV.length rel).symm.trans this
  have each : ∀ (i : Nat) (v : Value), (∃ k, ws[i]? = some (k, v)) → ∃ t, v = Value.int (is.getD i 0) t := by
    rintro i v ⟨k, e⟩
    obtain ⟨x, h1, h2⟩ := KV.at' rel e
    have e1 : (kvs.map (·.2))[i]? = some x := by rw [List.getElem?_map, h1]; rfl
    rw [hv, List.getElem?_map] at e1
    obtain ⟨j, hj, rfl⟩ := Option.map_eq_some_iff.mp e1
    obtain ⟨t, rfl⟩ := h2
    exact ⟨t, by rw [List.getD_eq_getElem?_getD, hj]; rfl⟩
  have sz : (s1.heap.push { cls := .type "dict_values", data := .fields #[.ref d] }).objs.size = s1.heap.objs.size + 1 := Heap.size_push _ _
  refine call_sum_walkG (wpAny_pyIter_values (v := s1.heap.objs.size) (d := d) ⟨_, Heap.get?_push_size _ rfl, rfl, rfl⟩ at1 ⟨_, _, _, _, _, _, _, rfl, Walks.dictValues (knd := mixKind X.prog X.w) (A := X.A.in1) (I.ok.hd hc) (s1.heap.push { cls := .type "dict_values", data := .fields #[.ref d] }).objs.size d (by rw [sz]; exact Nat.ne_of_lt (Nat.lt_succ_of_lt lt)) ws ep, ⟨⟨_, Heap.get?_push_size _ rfl, rfl, rfl⟩, at1.keep fun b u e => Heap.get?_push_of_some _ e⟩, ?_, each, ?_⟩)
  · intro b hb
    show b < ((s1.heap.push _).push _).objs.size
    rw [Heap.size_push, Heap.size_push]
    rcases List.mem_cons.mp hb with rfl | hb
    · rw [sz]; exact Nat.lt_succ_self _
    · rw [List.mem_singleton.mp hb]; exact Nat.lt_succ_of_lt (Nat.lt_succ_of_lt lt)
  · intro h' tk t' hk
    have J2 : L2.Inv X pins σ G { s1 with heap := h', toks := tk } := J.kept (t' := tk) fun b u e => hk b u (fun m => absurd (Heap.lt_size e) (by rw [List.mem_singleton.mp m, sz]; exact Nat.not_lt.mpr (Nat.le_succ _))) (Heap.get?_push_of_some _ (Heap.get?_push_of_some _ e))
    rw [len, preSum_getD is is.length (Nat.le_refl _), List.take_length]
    exact ⟨.int _, G, J2, ⟨t', rfl⟩, q⟩⟩
theorem RpKV.vals {K : PySem.W.Frag} {H : Hp} : ∀ {kvs : List (Key × V)} {kds : List (Int × D)}, RpKV K H kvs kds → RpAll K H (kvs.map (·.2)) (kds.map Prod.snd)
  | _, _, .nil => .nil
  | _, _, .cons h t => .cons h (RpKV.vals t)
theorem e_sumV (hm : X.mg "sum" = none) (hd : PE X o (tE X.K W F)) (hc : X.calm = true := by rfl) (hg : Gl X "sum" := by rfl) (hb : attributeBase o "values" X.env (eval o X.env) = eval o X.env := by rfl) (hl : (apos.endLine == mpos.line) = true := by rfl)
    (hs : starEach [Expr.Call (.Attribute o "values" apos) [] [] mpos] X.env = [(false, eval (Expr.Call (.Attribute o "values" apos) [] [] mpos) X.env)] := by rfl) :
    PE X (.Call (.Name "sum" p) [.Call (.Attribute o "values" apos) [] [] mpos] [] pos) (tE X.K W (eUn dSumV F)) := pe_imp (pe_sumV hc hg hm hd hb hl hs) fun σ H Q h => by
  obtain ⟨ρ, rr, h⟩ := h
  refine ⟨ρ, rr, cs_mono (cs_bind h) (fun dx h1 v1 H1 s1 r1 => ?_) fun c q => q⟩
  obtain ⟨d, e, h3⟩ := cs_of h1
  cases dx <;> simp only [dSumV] at e <;> try contradiction
  rename_i kds
  cases q : asInts (kds.map Prod.snd) with
  | none => rw [q] at e; cases e
  | some ns =>
    rw [q] at e
    cases e
    cases r1 with
    | dct ha hk =>
      have z := hk.vals
      rw [asInts_eq q] at z
      exact ⟨_, _, ns, rfl, ha, rp_ints z, h3 _ _ s1 (.int _)⟩
end
/-! ### range(a, b, 2) -/
def rgT (i j : Int) : List Int := (List.range ((j - i + 1) / 2).toNat).map fun (k : Nat) => i + (k : Int) * 2
def sRg3 (A : Sl → Rs (List D)) : Sl → Rs (List D) := fun ρ => (A ρ).bind fun ds => match ds with
  | [.int i, .int j, .int 2] => if -1000000 ≤ i ∧ i ≤ 1000000 ∧ -1000000 ≤ j ∧ j ≤ 1000000 then .ok ((rgT i j).map .int) else .bad
  | _ => .bad
theorem rgT_size (i j : Int) : Builtin.Range.rangeSize i j 2 = (((j - i + 1) / 2).toNat : Int) := by
  unfold Builtin.Range.rangeSize
  rw [if_pos (by decide)]
  split <;> omega
theorem rgT_small {i j : Int} (h1 : -1000000 ≤ i) (h2 : i ≤ 1000000) (h3 : -1000000 ≤ j) (h4 : j ≤ 1000000) : Builtin.Range.small i j 2 = true := by
  unfold Builtin.Range.small
  rw [rgT_size]
  have n0 : 0 ≤ (((j - i + 1) / 2).toNat : Int) := by omega
  have n1 : (((j - i + 1) / 2).toNat : Int) ≤ 2000000 := by omega
  generalize (((j - i + 1) / 2).toNat : Int) = n at *
  simp only [Builtin.Range.rangeFitsLong, Bool.and_eq_true, Bool.or_eq_true, decide_eq_true_eq, beq_iff_eq]
  simp only [show (2 : Int) > 0 from by decide, if_true, Bool.and_eq_true, decide_eq_true_eq]
  omega
theorem rgT_len (i j : Int) : (rgT i j).length = ((j - i + 1) / 2).toNat := by simp [rgT]
theorem wk_t3 {K : PySem.W.Frag} {G : Hp} {i j : Int} {n : Nat} (hn : n = ((j - i + 1) / 2).toNat) : WkD K (Itc i 2 n) G ((rgT i j).map .int) where
  go := fun k H s h => by rw [List.length_map, rgT_len] at h; show k < n; omega
  stop := fun H s => by rw [List.length_map, rgT_len]; show n ≤ _; omega
  yld := fun k H x H' d s e y => by
    obtain ⟨e1, e2⟩ := y
    unfold rgT at e
    rw [List.map_map, List.getElem?_map] at e
    obtain ⟨m, hm, e⟩ := Option.map_eq_some_iff.mp e
    obtain ⟨_, rfl⟩ := List.getElem?_eq_some_iff.mp hm
    simp at e
    subst e
    subst e2
    exact .inl ⟨e1, .int _⟩
section
variable {X : Cx} {W : Wsh} {tg a b c : Expr} {A : Sl → Rs (List D)} {p pos : Pos}
theorem i_range3 (hm : X.mg "range" = none) (ha : PA X [a, b, c] (tA X.K W A)) (hg : Gl X "range" := by rfl) (hs : starEach [a, b, c] X.env = (false, eval a X.env) :: starEach [b, c] X.env := by rfl) (hpl : (backTo pos (starEach [b, c] X.env)).any (·.1) = false := by rfl) :
    PI X tg (.Call (.Name "range" p) [a, b, c] [] pos) (tI X.K W (sRg3 A)) := by
  refine pi_imp (pi_range3 hg hm ha hs hpl) fun σ H R h => ?_
  obtain ⟨ρ, rr, h⟩ := h
  refine ⟨ρ, rr, cs_mono (cs_bind h) (fun ds h1 vs H1 s1 r1 => ?_) fun c q => q⟩
  split at h1
  · rename_i i j
    by_cases hb : -1000000 ≤ i ∧ i ≤ 1000000 ∧ -1000000 ≤ j ∧ j ≤ 1000000
    · rw [if_pos hb] at h1
      cases r1 with
      | cons r t =>
        cases t with
        | cons r' t =>
          cases t with
          | cons r'' t =>
            cases t
            cases r
            cases r'
            cases r''
            exact ⟨i, j, 2, _, rfl, ⟨by decide, by decide, rgT_small hb.1 hb.2.1 hb.2.2.1 hb.2.2.2, rgT_size i j⟩, h1 _ H1 s1 (wk_t3 rfl)⟩
    · rw [if_neg hb] at h1; exact h1.elim
  · exact h1.elim
end
end PB

namespace PB
open PySem PySem.Spec PyProof.Rows L2

/-! ### xs[m::2] of a list -/
def ev2 {α : Type} : List α → List α
  | [] => []
  | [x] => [x]
  | x :: _ :: t => x :: ev2 t
theorem ev2_pick {α : Type} : ∀ l : List α, (List.range ((l.length + 1) / 2)).filterMap (fun t => l[2 * t]?) = ev2 l
  | [] => by simp [ev2]
  | [x] => by simp [ev2]
  | x :: y :: t => by
    have e : ((x :: y :: t).length + 1) / 2 = (t.length + 1) / 2 + 1 := by simp only [List.length_cons]; omega
    rw [e, List.range_succ_eq_map, List.filterMap_cons]
    have h0 : (x :: y :: t)[2 * 0]? = some x := rfl
    rw [h0, List.filterMap_map]
    have h1 : ((fun k => (x :: y :: t)[2 * k]?) ∘ Nat.succ) = fun k => t[2 * k]? := by
      funext k
      have : 2 * Nat.succ k = 2 * k + 1 + 1 := by omega
      simp only [Function.comp, this, List.getElem?_cons_succ]
    rw [h1, ev2_pick t]
    rfl
theorem ev2_map {α β : Type} (f : α → β) : ∀ l : List α, ev2 (l.map f) = (ev2 l).map f
  | [] => rfl
  | [_] => rfl
  | x :: y :: t => by simp only [List.map_cons, ev2, ev2_map f t]
theorem fm_congr {α β : Type} {f g : α → Option β} : ∀ {l : List α}, (∀ x ∈ l, f x = g x) → l.filterMap f = l.filterMap g
  | [], _ => rfl
  | x :: l, h => by
    have ih := fm_congr (l := l) fun y hy => h y (by simp [hy])
    rw [List.filterMap_cons, List.filterMap_cons, h x (by simp), ih]
theorem slice2 (items : Array Value) (m : Nat) : slicePick items (some (m : Int)) none (some 2) = (ev2 (items.toList.drop m)).toArray := by
  have eb : sliceBounds (some (m : Int)) none (some 2) items.size = (((min m items.size : Nat) : Int), (items.size : Int), 2) := by
    unfold sliceBounds
    simp only [Option.getD_some]
    rw [if_neg (by omega : ¬ (m : Int) < 0)]
    simp only [show (2 : Int) > 0 from by decide, if_true]
    congr 1
    omega
  unfold slicePick
  rw [eb]
  show ((sliceRange ((min m items.size : Nat) : Int) (items.size : Int) 2).filterMap (items[·]?)).toArray = _
  congr 1
  rw [← ev2_pick]
  unfold sliceRange
  simp only [show (2 : Int) > 0 from by decide, if_true]
  have hc : (if ((min m items.size : Nat) : Int) < (items.size : Int) then ((items.size : Int) - ((min m items.size : Nat) : Int) + 2 - 1) / 2 else 0).toNat = ((items.toList.drop m).length + 1) / 2 := by
    rw [List.length_drop, Array.length_toList]
    split <;> omega
  rw [hc, List.filterMap_map]
  refine fm_congr fun k hk => ?_
  have hk := List.mem_range.mp hk
  rw [List.length_drop, Array.length_toList] at hk
  have e : (((min m items.size : Nat) : Int) + 2 * (k : Int)).toNat = m + 2 * k := by omega
  simp only [Function.comp, e, List.getElem?_drop, Array.getElem?_toList]
def dStep (m : Nat) : D → Option D
  | .lst xs => some (.lst (ev2 (xs.drop m)))
  | _ => none
theorem RpAll.ev2 {K : PySem.W.Frag} {H : Hp} : ∀ {vs : List V} {ds : List D}, RpAll K H vs ds → RpAll K H (PB.ev2 vs) (PB.ev2 ds)
  | _, _, .nil => .nil
  | _, _, .cons h .nil => .cons h .nil
  | _, _, .cons h (.cons _ t) => .cons h (RpAll.ev2 t)
theorem vals_drop : ∀ {xs : List V} {us : List Value} (r : Vals xs us) (m : Nat), Vals (xs.drop m) (us.drop m)
  | _, _, r, 0 => r
  | _, _, .nil, _ + 1 => .nil
  | _, _, .cons _ t, m + 1 => vals_drop t m
theorem Vals.ev2 : ∀ {xs : List V} {us : List Value}, Vals xs us → Vals (PB.ev2 xs) (PB.ev2 us)
  | _, _, .nil => .nil
  | _, _, .cons h .nil => .cons h .nil
  | _, _, .cons h (.cons _ t) => .cons h (Vals.ev2 t)
theorem ev2_len {α : Type} : ∀ l : List α, (ev2 l).length ≤ l.length
  | [] => Nat.le_refl _
  | [_] => Nat.le_refl _
  | x :: y :: t => by
    have := ev2_len t
    simp only [ev2, List.length_cons]
    omega
def tStep (K : PySem.W.Frag) (m : Nat) (te : TE) : TE := fun σ H Q => te σ H fun x G => ∃ a xs, x = .ref a ∧ SqL K G a xs ∧ ∀ p, G p = none → Q (.ref p) (upd G p (.lst (ev2 (xs.drop m))))
section
variable {X : Cx} {W : Wsh} {e : Expr} {te : TE} {F : Sl → Rs D} {m k1 k2 : Nat} {p1 p2 p3 pos : Pos}
theorem pe_step (he : PE X e te) : PE X (.Subscript e (.Slice (some (.Constant (.int (m : Int)) k1 p1)) none (some (.Constant (.int 2) k2 p2)) p3) pos) (tStep X.K m te) := ⟨fun pins s σ H Q I h => by
  refine Subscript_ (thn (he.run pins s σ H _ I h) fun v s1 ⟨x, G, J, rx, a, xs, ex, hx, q⟩ => ?_)
  subst ex
  obtain rfl : v = Value.ref a := rx
  have lo : PO X (some (.Constant (.int (m : Int)) k1 p1)) (tPart (tC (.int (m : Int)))) := po_some pe_int
  have st : PO X (some (.Constant (.int 2) k2 p2)) (tPart (tC (.int 2))) := po_some pe_int
  refine wpAny_Slice (thn (lo.run pins s1 σ G (fun o H2 => o = some (m : Int) ∧ H2 = G) J ⟨_, rfl, rfl, rfl⟩) fun vl s2 ⟨o1, G1, J1, pl, e1, e2⟩ => ?_)
  subst e1 e2
  refine thn (po_none.run pins s2 σ G1 (fun o H2 => o = none ∧ H2 = G1) J1 ⟨rfl, rfl⟩) fun vu s3 ⟨o2, G2, J2, pu, e3, e4⟩ => ?_
  subst e3 e4
  refine thn (st.run pins s3 σ G2 (fun o H2 => o = some 2 ∧ H2 = G2) J2 ⟨_, rfl, rfl, rfl⟩) fun vs s4 ⟨o3, G3, J3, ps, e5, e6⟩ => ?_
  subst e5 e6
  have J4 : L2.Inv X pins σ G3 { s4 with heap := s4.heap.push { cls := .type "slice", data := .fields #[vl, vu, vs] } } := J3.kept (t' := s4.toks) fun b ob q => Heap.get?_push_of_some _ q
  obtain ⟨its, r, ht, hz⟩ := J4.list hx
  have ln := r.length
  refine tail_any (ops := [.ref a, .ref s4.heap.objs.size]) ht.isList.typeIs (PySem.slot_list_getitem.lookup) ?_ (by with_unfolding_all rfl)
  refine wpAny_getItem_list_slice ht.isList (Heap.IsSliceOf.new _ vl vu vs) pl pu ps (by decide) ?_ (by rw [List.size_toArray]; omega)
  rw [slice2]
  have len : (ev2 (xs.drop m)).length ≤ sizeLine := Nat.le_trans (ev2_len _) (by rw [List.length_drop]; omega)
  refine ⟨.ref _, _, J4.laid (t' := s4.toks) (o := .lst (ev2 (xs.drop m))) (fun b ob q => Heap.get?_push_of_some _ q) (Nat.le_refl _) ?_, rfl, q _ (J4.hok.fresh (Nat.le_refl _))⟩
  exact ⟨len, _, 0, Vals.ev2 (vals_drop r m), Heap.get?_push_size _ rfl⟩⟩
theorem e_step (he : PE X e (tE X.K W F)) : PE X (.Subscript e (.Slice (some (.Constant (.int (m : Int)) k1 p1)) none (some (.Constant (.int 2) k2 p2)) p3) pos) (tE X.K W (eUn (dStep m) F)) := pe_imp (pe_step he) fun σ H Q h => by
  obtain ⟨ρ, rr, h⟩ := h
  refine ⟨ρ, rr, cs_mono (cs_bind h) (fun dx h1 v1 H1 s1 r1 => ?_) fun c q => q⟩
  obtain ⟨d, e, h3⟩ := cs_of h1
  cases dx <;> simp only [dStep] at e <;> try contradiction
  cases e
  cases r1 with
  | lst ha hr => exact ⟨_, _, rfl, SqL.of ha, fun p hp => h3 _ _ (s1.trans (same_new hp)) (.lst upd_same (((hr.drop m).ev2).mono (same_new hp)))⟩
end
end PB

namespace PB
open PySem PySem.Spec PyProof.Rows L2

/-! ### for k in x[key]: a dict within a dict that is being filled -/
def sForKV (i : Nat) (G : Sl → Rs D) (T : D → Option Asn) (S : Sl → Rs Out) : Sl → Rs Out := fun ρ => match G ρ with
  | .ok (.int j) => match ρ[i]? with
    | some (some (.dct rows)) => match valD rows j with
      | some (.dct kds) => noEx (forL T S (dkeys kds) ρ)
      | _ => .bad
    | _ => .bad
  | _ => .bad
section
variable {X : Cx} {W : Wsh} {own ownB : List Nat} {S : Sl → Rs Out} {G : Sl → Rs D} {sts : List Stmt} {tg kx : Expr} {g : TG} {T : D → Option Asn} {pos pos' px : Pos} {k : Nat} {x : Str}
theorem dget_at {H0 H : Hp} {σ : L2.St} {ρ : Sl} {i : Nat} {j : Int} {p a : Addr} {kvs0 : List (Key × V)} (r : R X.K H0 own σ H ρ) (e1 : σ[i]? = some (some (.ref p))) (hp : H p = some (.dK kvs0)) (ev : valV kvs0 (.inl j) = some (.ref a)) (hG : G ρ = .ok (.int j)) (Q : VK)
    (hQ : ∀ H1, Same H H1 → (∀ b ∈ adr own σ, H1 b = H b) → Same (hide (adr own σ) H) (hide (adr own σ) H1) → Q (.ref a) H1) : tDGet (tVar i) (tE X.K W G) σ H Q := by
  refine ⟨.ref p, e1, inH (W := W) r ?_⟩
  rw [hG]
  intro v H' s r' rv
  cases rv
  refine ⟨p, _, rfl, .inl ⟨kvs0, .inl j, .inl (s _ _ hp), rfl, ev.symm⟩, hQ H' s (fun b hb => ?_) (same_hideM s r.mu.nx)⟩
  cases hb2 : H b with
  | none => exact absurd hb2 (r.ne b hb)
  | some o => exact s.o _ _ hb2 (by rcases r.mu b hb with ⟨xs, e⟩ | ⟨xs, e⟩ <;> (rw [hb2] at e; cases e; rfl))
theorem s_forKV {i : Nat} (hp : PassesOwn (model X.prog X.w) X.A X.env X.xe) (hr : Room k X.A) (hi : i ∈ own) (hv : PE X (.Name x px) (tVar i)) (hk : PE X kx (tE X.K W G)) (hg : PG X tg g) (ht : TgP X.K g T) (ap : Apart own T) (hb : DSs X W own S own own sts) (hsl : NoSl kx := by exact fun _ _ => rfl) (hcm : X.calm = true := by rfl)
    (hs : ∀ y, foldedSetIterable (.Subscript (.Name x px) kx pos') X.env y = pure y := by intro _; rfl) : DS X W own (sForKV i G T S) own ownB (.For tg (.Subscript (.Name x px) kx pos') sts [] pos) := by
  refine ⟨fun H0 => ?_⟩
  have hb' : PSs X sts (fun E σ H => ∃ H0, tS X.K W H0 own S own own E σ H) := ⟨fun pins s σ H E I hw => by
    obtain ⟨H0, hw⟩ := hw
    exact (hb.ps H0).run pins s σ H E I hw⟩
  have pf := ps_for hp hcm (pi_keys (pe_dget (pos := pos') (room1 hr) hv hk hsl)) hg hb' hs (pos := pos)
  refine ps_imp (ps_or (ps_lock pf) pf) fun E σ H hw => ?_
  obtain ⟨ρ, r, hw⟩ := hw
  obtain ⟨p, d0, e1, e2, ho⟩ := r.own_ i hi
  unfold sForKV at hw
  rw [e2] at hw
  cases hG : G ρ with
  | ex c => rw [hG] at hw; exact hw.elim
  | bad => rw [hG] at hw; exact hw.elim
  | ok y =>
    rw [hG] at hw
    cases y with
    | int j =>
      rcases ho with ⟨xs, ds, ex, rfl, ra⟩ | ⟨kvs0, rows, ex, rfl, ra⟩
      · exact hw.elim
      · have hw : cs (match valD rows j with
          | some (.dct kds) => noEx (forL T S (dkeys kds) ρ)
          | _ => Rs.bad) (oc X.K H0 own ownB E) (fun c => ∀ σ' H', Same H0 H' → W c σ' H') := hw
        rcases ra.val j with ⟨_, q2⟩ | ⟨v, d', q1, q2, rv⟩
        · rw [q2] at hw; exact hw.elim
        · rw [q2] at hw
          cases rv with
          | @dct a kvs kds ha hkk =>
            have hw : cs (noEx (forL T S (dkeys kds) ρ)) (oc X.K H0 own ownB E) (fun c => ∀ σ' H', Same H0 H' → W c σ' H') := hw
            rcases ha with ha | ⟨od, ha⟩
            · left
              refine ⟨a, .dK kvs, hide_same _ _ ha, trivial, fun od => ?_⟩
              have r2 := r.lock (od := od) ha
              have pa : p ≠ a := fun e => by
                have : p ∈ adr own σ := by rw [← adr1_of e1]; exact List.mem_map_of_mem hi
                rw [e] at this
                rw [hide_in this] at ha
                cases ha
              exact forK_core (ownB := ownB) ht ap upd_same (hkk.sim (sim_lock ha)) r2 (fun Q hQ => dget_at (W := W) r2 e1 (by rw [upd_ne pa]; exact ex) q1 hG Q hQ) (cs_mono (cs_noEx0 hw) (fun o h => oc_lock ha r.base h) fun c q => q)
            · right
              refine forK_core (ownB := ownB) ht ap ha hkk r.rebase (fun Q hQ => dget_at (W := W) r e1 ex q1 hG Q hQ) (cs_mono (cs_noEx0 hw) (fun o h => ?_) fun c q => q)
              cases o with
              | nx ρ => exact fun σ H q => h σ H (q.unbase r.base)
              | bk ρ => exact fun σ H q => h σ H (q.unbase r.base)
              | ct ρ => exact fun σ H q => h σ H (q.unbase r.base)
              | rt d => exact fun v H q rv => h v H (r.base.trans q) rv
          | _ => exact hw.elim
    | _ => exact hw.elim
end
end PB

namespace PB
open PySem PySem.Spec PyProof.Rows L2

/-! ### min of a list of pairs (int, tuple of ints) -/
abbrev PQ := Int × List Int
def encQ (q : PQ) : D := .tup [.int q.1, encT q.2]
def tpQ (q : PQ) : PyData := .tuple [.int q.1, tpI q.2]
def ltQ (a b : PQ) : Bool := if a.1 = b.1 then HT.lexLt a.2 b.2 else decide (a.1 < b.1)
theorem lex_irr (a : List Int) : HT.lexLt a a = false := (lexLt_swo _root_.id).refl a
theorem eqv_ints : ∀ xs ys : List Int, PyData.eqvAll (xs.map .int) (ys.map .int) = true → xs = ys
  | [], [], _ => rfl
  | [], _ :: _, h => by simp [PyData.eqvAll] at h
  | _ :: _, [], h => by simp [PyData.eqvAll] at h
  | x :: xs, y :: ys, h => by
    rw [List.map_cons, List.map_cons, PySem.W.eqv_all_cons, Bool.and_eq_true] at h
    have h1 : x = y := by simpa [PyData.eqv] using h.1
    rw [h1, eqv_ints xs ys h.2]
theorem lt_tpQ (a b : PQ) : PySem.W.dataLt (tpQ a) (tpQ b) = ltQ a b := by
  unfold tpQ ltQ
  rw [PySem.W.dataLt_pair (by simp [PySem.W.alike]) (by simp [tpI, PySem.W.alike, alike_ints]), lt_tpI, PySem.W.dataLt_int]
  by_cases h : a.1 = b.1
  · rw [if_pos (by simp [PyData.eqv, h]), if_pos h]
    split
    · rename_i e
      have e2 : PyData.eqvAll (a.2.map .int) (b.2.map .int) = true := by
        unfold tpI at e
        rw [PyData.eqv] at e
        exact e
      rw [eqv_ints _ _ e2, lex_irr]
    · rfl
  · rw [if_neg (by simp [PyData.eqv, h]), if_neg h]
def minQ (t : PQ) (ts : List PQ) : PQ := ts.foldl (fun a y => if ltQ y a = true then y else a) t
theorem minD_tpQ (t : PQ) : ∀ ts : List PQ, PySem.W.minD (tpQ t) (ts.map tpQ) = tpQ (minQ t ts) := by
  intro ts
  unfold PySem.W.minD minQ
  induction ts generalizing t with
  | nil => rfl
  | cons u ts ih =>
    rw [List.map_cons, List.foldl_cons, List.foldl_cons, lt_tpQ]
    split
    · exact ih u
    · exact ih t
theorem tpQ_inj {a b : PQ} (h : tpQ a = tpQ b) : a = b := by
  have h1 := PyData.tuple.inj h
  simp only [List.cons.injEq, and_true] at h1
  exact Prod.ext (PyData.int.inj h1.1) (tpI_inj h1.2)
theorem alike_Q (a b : PQ) : PySem.W.alike (tpQ a) (tpQ b) = true := by simp [tpQ, tpI, PySem.W.alike, PySem.W.alikeAll, alike_ints]
theorem tpQ_depth (q : PQ) : (tpQ q).depth ≤ 2 := by
  have h1 := tpI_depth q.2
  simp [tpQ, PyData.depth, PyData.depthAll]
  omega
theorem tpQs_depth : ∀ ts : List PQ, PyData.depthAll (ts.map tpQ) ≤ 2
  | [] => by simp [PyData.depthAll]
  | t :: ts => by
    have h1 := tpQ_depth t
    have h2 := tpQs_depth ts
    simp [PyData.depthAll]
    omega
def rMinQ (K : PySem.W.Frag) : List V → Hp → VK → Prop := fun vs H Q => ∃ (a : Addr) (xs : List V) (t : PQ) (ts : List PQ), vs = [V.ref a] ∧ SqL K H a xs ∧ DpAll K H xs ((t :: ts).map tpQ) ∧ ∀ (i : Nat) (x : V), xs[i]? = some x → (t :: ts)[i]? = some (minQ t ts) → Q x H
theorem vals_at {v : Value} : ∀ (xs : List V) (its : List Value) (i : Nat), Vals xs its → its[i]? = some v → ∃ x, xs[i]? = some x ∧ RelV x v
  | [], _, i, r, e => by cases r; simp at e
  | x :: xs, [], i, r, e => by cases r
  | x :: xs, u :: us, i, r, e => by
    cases r with
    | cons r t =>
      cases i with
      | zero => simp at e; subst e; exact ⟨x, rfl, r⟩
      | succ i =>
        obtain ⟨y, h1, h2⟩ := vals_at xs us i t (by simpa using e)
        exact ⟨y, by simpa using h1, h2⟩
theorem dps_at {K : PySem.W.Frag} {H : Hp} {α : Type} (f : α → PyData) : ∀ {xs : List V} {us : List α} {i : Nat} {x : V}, DpAll K H xs (us.map f) → xs[i]? = some x → ∃ u, us[i]? = some u ∧ Dp K H x (f u)
  | [], _, _, _, _, e => by simp at e
  | y :: xs, [], _, _, hd, _ => by cases hd
  | y :: xs, u :: us, i, x, hd, e => by
    rw [List.map_cons] at hd
    cases hd with
    | cons h1 h2 =>
      cases i with
      | zero => simp at e; subst e; exact ⟨u, rfl, h1⟩
      | succ i =>
        obtain ⟨w, hm, hh⟩ := dps_at f h2 (i := i) (x := x) (by simpa using e)
        exact ⟨w, by simpa using hm, hh⟩
section
variable {X : Cx} {W : Wsh} {a : Expr} {A : Sl → Rs (List D)} {pos p : Pos} {k : Nat}
theorem cr_minQ (hc : X.calm = true) (hr : Room k X.A) : CallR X (.builtin "min") (rMinQ X.K) := by
  intro pins s σ H vs us Q I r h
  obtain ⟨a, xs, t, ts, rfl, hs, hd, q⟩ := h
  obtain ⟨its, rv, hl, _⟩ := I.list hs
  rw [Vals.ref1 r]
  obtain ⟨as, hrd⟩ := Dp.readsAll I _ xs its hd rv
  rw [List.map_cons] at hrd
  have hu : X.A.units + 1 + PyData.depthAll (tpQ t :: ts.map tpQ) < cLine := by
    have h1 := tpQs_depth (t :: ts)
    rw [List.map_cons] at h1
    have := room65 hr
    omega
  refine PySem.W.min_list_data (I.ok.hd hc) hl.isList (by simpa using hrd) ⟨fun x hx y hy => ?_, fun x hx => ?_⟩ hu fun i v h' tk bs hv hR hk => ?_
  · rw [← List.map_cons (f := tpQ)] at hx hy
    obtain ⟨x', _, rfl⟩ := List.mem_map.1 hx
    obtain ⟨y', _, rfl⟩ := List.mem_map.1 hy
    exact alike_Q x' y'
  · rw [← List.map_cons (f := tpQ)] at hx
    obtain ⟨x', _, rfl⟩ := List.mem_map.1 hx
    simp [tpQ]
  · rw [minD_tpQ] at hR
    obtain ⟨x, hx, rx⟩ := vals_at xs its i rv (by simpa using hv)
    obtain ⟨w, hn, dn⟩ := dps_at tpQ hd hx
    obtain ⟨bs', hR'⟩ := Dp.reads I _ x v dn rx
    have e : tpQ w = tpQ (minQ t ts) := PySem.W.alike_unique _ _ v _ _ (alike_Q _ _) (PySem.W.reads_keeps hk hR') hR
    rw [tpQ_inj e] at hn
    exact ⟨x, H, I.kept hk, rx, q i x hx hn⟩
/-- pairs (int, tuple of ints) -/
def asQ : D → Option PQ
  | .tup [.int n, .tup xs] => (asInts xs).map fun t => (n, t)
  | _ => none
def asQs : List D → Option (List PQ)
  | [] => some []
  | x :: xs => (asQ x).bind fun q => (asQs xs).map fun qs => q :: qs
theorem asQ_eq {x : D} {q : PQ} (e : asQ x = some q) : x = encQ q := by
  unfold asQ at e
  split at e
  · rename_i n xs
    cases h : asInts xs with
    | none => rw [h] at e; cases e
    | some t =>
      rw [h] at e
      cases e
      have z := asInts_eq h
      subst z
      rfl
  · cases e
theorem asQs_eq : ∀ {xs : List D} {qs : List PQ}, asQs xs = some qs → xs = qs.map encQ
  | [], _, e => by cases e; rfl
  | x :: xs, qs, e => by
    rw [asQs] at e
    cases h : asQ x with
    | none => rw [h] at e; cases e
    | some q =>
      rw [h] at e
      cases h2 : asQs xs with
      | none => rw [h2] at e; cases e
      | some ps =>
        rw [h2] at e
        cases e
        rw [asQ_eq h, asQs_eq h2]
        rfl
theorem asQs_map : ∀ qs : List PQ, asQs (qs.map encQ) = some qs
  | [] => rfl
  | q :: qs => by
    have h : asQ (encQ q) = some q := by
      show (asInts (q.2.map .int)).map (fun t => (q.1, t)) = some q
      rw [asInts_map]
      rfl
    rw [List.map_cons, asQs, h, asQs_map qs]
    rfl
theorem dp_encQ {K : PySem.W.Frag} {H : Hp} {x : V} {q : PQ} (h : Rp K H x (encQ q)) : Dp K H x (tpQ q) := by
  have := rp_dp 8 h (by
    show ([D.int q.1, encT q.2]).all (pl 7) = true
    have h2 : pl 7 (encT q.2) = true := by
      show (q.2.map D.int).all (pl 6) = true
      rw [List.all_eq_true]
      intro y hy
      obtain ⟨z, _, rfl⟩ := List.mem_map.1 hy
      rfl
    simp [h2, pl])
  have e : toPy (encQ q) = tpQ q := by simp [encQ, toPy, toPys_eq, tpQ, toPy_encT]
  rwa [e] at this
theorem dps_encQ {K : PySem.W.Frag} {H : Hp} : ∀ {xs : List V} {ts : List PQ}, RpAll K H xs (ts.map encQ) → DpAll K H xs (ts.map tpQ)
  | _, [], h => by cases h; exact .nil
  | _, t :: ts, h => by
    rw [List.map_cons] at h
    cases h with
    | cons a r => exact .cons (dp_encQ a) (dps_encQ r)
def gMinQ : List D → Option D
  | [.lst xs] => match asQs xs with
    | some (t :: ts) => some (encQ (minQ t ts))
    | _ => none
  | _ => none
theorem cd_minQ {K : PySem.W.Frag} : CallD K (rMinQ K) gMinQ := by
  intro vs ds d H Q rv e k
  match ds, e with
  | [.lst xs], e =>
    obtain ⟨v, rfl, r⟩ := rpall1 rv
    obtain ⟨p, ys, rfl, h1, a1⟩ := rp_lst r
    simp only [gMinQ] at e
    cases q : asQs xs with
    | none => rw [q] at e; cases e
    | some us =>
      rw [q] at e
      cases us with
      | nil => cases e
      | cons t ts =>
        cases e
        have z := asQs_eq q
        subst z
        refine ⟨p, ys, t, ts, rfl, SqL.of h1, dps_encQ a1, fun i x hx hm => k x H (Same.refl H) ?_⟩
        obtain ⟨d, hd, rx⟩ := a1.get' hx
        rw [List.getElem?_map, hm] at hd
        cases hd
        exact rx
theorem e_minQ (hm : X.mg "min" = none) (hr : Room k X.A) (ha : PA X [a] (tA X.K W A)) (hc : X.calm = true := by rfl) (hg : Gl X "min" := by rfl) (he : starEach [a] X.env = (false, eval a X.env) :: starEach [] X.env := by rfl) : PE X (.Call (.Name "min" p) [a] [] pos) (tE X.K W (eCall gMinQ A)) :=
  e_callB (cr_minQ hc hr) cd_minQ hm (by decide +kernel) ha hg (he := he)
end
end PB

namespace PB
open PySem PySem.Spec PyProof.Rows L2

/-! ### sorted of a list of pairs (int, tuple of ints) -/
def srtQ (qs : List PQ) : List PQ := qs.mergeSort fun a b => !ltQ b a
def rSortQ (K : PySem.W.Frag) : List V → Hp → VK → Prop := fun vs H Q => ∃ (a : Addr) (bs : List (V × PQ)), vs = [V.ref a] ∧ SqL K H a (bs.map Prod.fst) ∧ (∀ b ∈ bs, Dp K H b.1 (tpQ b.2)) ∧
  ∀ p, H p = none → Q (.ref p) (upd H p (.lst ((bs.mergeSort fun a b => !ltQ b.2 a.2).map Prod.fst)))
theorem vals_each : ∀ {bs : List (V × PQ)} {us : List Value}, Vals (bs.map Prod.fst) us → PySem.W.EachIs (fun v (b : V × PQ) => RelV b.1 v) us bs
  | [], _, r => by cases r; exact .nil
  | b :: bs, _, r => by
    rw [List.map_cons] at r
    cases r with
    | cons h t => exact .cons h (vals_each t)
theorem each_vals : ∀ {bs : List (V × PQ)} {us : List Value}, PySem.W.EachIs (fun v (b : V × PQ) => RelV b.1 v) us bs → Vals (bs.map Prod.fst) us
  | _, _, .nil => .nil
  | _, _, .cons h t => .cons h (each_vals t)
theorem each_read {X : Cx} {pins : List (Addr × Obj)} {σ : L2.St} {H : Hp} {s : Shared} (I : L2.Inv X pins σ H s) : ∀ {bs : List (V × PQ)} {us : List Value}, Vals (bs.map Prod.fst) us → (∀ b ∈ bs, Dp X.K H b.1 (tpQ b.2)) → PySem.W.EachIs (fun v (b : V × PQ) => ∃ as, Reads s.heap v (tpQ b.2) as) us bs
  | [], _, r, _ => by cases r; exact .nil
  | b :: bs, _, r, h => by
    rw [List.map_cons] at r
    cases r with
    | cons h1 t => exact .cons (Dp.reads I _ b.1 _ (h b (by simp)) h1) (each_read I t fun x hx => h x (by simp [hx]))
section
variable {X : Cx} {W : Wsh} {a : Expr} {A : Sl → Rs (List D)} {pos p : Pos} {k : Nat}
theorem cr_sortQ (hr : Room k X.A) : CallR X (.builtin "sorted") (rSortQ X.K) := by
  intro pins s σ H vs us Q I r h
  obtain ⟨a, bs, rfl, hs, hd, q⟩ := h
  obtain ⟨its, rv, hl, hz⟩ := I.list hs
  rw [Vals.ref1 r]
  rw [List.length_map] at hz
  refine PySem.W.sorted_data (vs := its) (enc := fun b : V × PQ => tpQ b.2) hl.isList (vals_each rv) (each_read I rv hd) (PySem.W.AllAlike.of fun b b' => alike_Q b.2 b'.2) (PySem.W.Sortable.tuples fun b => ⟨_, _, rfl⟩) hz (fun b _ => ?_) fun out hlen ho => ?_
  · have := tpQ_depth b.2
    have := room65 hr
    omega
  · obtain ⟨c, hc⟩ := sortedAll_at s.heap its out.toArray
    have e : PySem.W.dataLe false (fun b : V × PQ => tpQ b.2) = fun a b => !ltQ b.2 a.2 := by
      rw [PySem.W.dataLe_eq]
      funext x y
      simp only [cond_false, lt_tpQ]
    rw [e] at ho
    have ln : (bs.mergeSort fun a b => !ltQ b.2 a.2).length = bs.length := (List.mergeSort_perm _ _).length_eq
    refine ⟨.ref _, _, I.laid (t' := s.toks) (a := s.heap.objs.size + 1) (o := .lst ((bs.mergeSort fun a b => !ltQ b.2 a.2).map Prod.fst)) (fun b o z => sortedAll_old z) (Nat.le_succ _) ⟨?_, out, c, each_vals ho, ?_⟩, rfl, q _ (I.hok.fresh (Nat.le_succ _))⟩
    · rw [List.length_map, ln]; exact hz
    · exact hc
def gSortQ : List D → Option D
  | [.lst xs] => match asQs xs with
    | some qs => some (.lst ((srtQ qs).map encQ))
    | none => none
  | _ => none
theorem zip_fst {α β : Type} : ∀ (xs : List α) (ys : List β), xs.length = ys.length → (xs.zip ys).map Prod.fst = xs
  | [], [], _ => rfl
  | x :: xs, y :: ys, h => by rw [List.zip_cons_cons, List.map_cons, zip_fst xs ys (by simpa using h)]
  | [], _ :: _, h => by simp at h
  | _ :: _, [], h => by simp at h
theorem zip_snd {α β : Type} : ∀ (xs : List α) (ys : List β), xs.length = ys.length → (xs.zip ys).map Prod.snd = ys
  | [], [], _ => rfl
  | x :: xs, y :: ys, h => by rw [List.zip_cons_cons, List.map_cons, zip_snd xs ys (by simpa using h)]
  | [], _ :: _, h => by simp at h
  | _ :: _, [], h => by simp at h
theorem rp_zip {K : PySem.W.Frag} {H : Hp} : ∀ {xs : List V} {qs : List PQ}, RpAll K H xs (qs.map encQ) → ∀ b ∈ xs.zip qs, Rp K H b.1 (encQ b.2)
  | _, [], h, b, hb => by cases h; simp at hb
  | _, q :: qs, h, b, hb => by
    rw [List.map_cons] at h
    cases h with
    | cons h1 t =>
      rw [List.zip_cons_cons, List.mem_cons] at hb
      rcases hb with rfl | hb
      · exact h1
      · exact rp_zip t b hb
theorem rp_unzip {K : PySem.W.Frag} {H : Hp} : ∀ {bs : List (V × PQ)}, (∀ b ∈ bs, Rp K H b.1 (encQ b.2)) → RpAll K H (bs.map Prod.fst) ((bs.map Prod.snd).map encQ)
  | [], _ => .nil
  | b :: bs, h => .cons (h b (by simp)) (rp_unzip fun x hx => h x (by simp [hx]))
theorem cd_sortQ {K : PySem.W.Frag} : CallD K (rSortQ K) gSortQ := by
  intro vs ds d H Q rv e k
  match ds, e with
  | [.lst xs], e =>
    obtain ⟨v, rfl, r⟩ := rpall1 rv
    obtain ⟨p, ys, rfl, h1, a1⟩ := rp_lst r
    simp only [gSortQ] at e
    cases q : asQs xs with
    | none => rw [q] at e; cases e
    | some qs =>
      rw [q] at e
      cases e
      have z := asQs_eq q
      subst z
      have hl : ys.length = qs.length := by rw [a1.length, List.length_map]
      have hz := rp_zip a1
      refine ⟨p, ys.zip qs, rfl, by rw [zip_fst ys qs hl]; exact SqL.of h1, fun b hb => dp_encQ (hz b hb), fun a ha => k _ _ (same_new ha) (.lst upd_same ?_)⟩
      have e : srtQ qs = ((ys.zip qs).mergeSort fun a b => !ltQ b.2 a.2).map Prod.snd := by
        unfold srtQ
        rw [List.map_mergeSort (r := fun a b => !ltQ b.2 a.2) (s := fun a b => !ltQ b a) (f := Prod.snd) (fun a _ b _ => rfl), zip_snd ys qs hl]
      rw [e]
      exact rp_unzip fun b hb => (hz b ((List.mergeSort_perm _ _).mem_iff.1 hb)).mono (same_new ha)
theorem e_sortQ (hm : X.mg "sorted" = none) (hr : Room k X.A) (ha : PA X [a] (tA X.K W A)) (hg : Gl X "sorted" := by rfl) (he : starEach [a] X.env = (false, eval a X.env) :: starEach [] X.env := by rfl) : PE X (.Call (.Name "sorted" p) [a] [] pos) (tE X.K W (eCall gSortQ A)) :=
  e_callB (cr_sortQ hr) cd_sortQ hm (by decide +kernel) ha hg (he := he)
end
end PB

namespace PB
open PySem PySem.Spec PyProof.Rows L2

/-! ### locking all dicts of a row -/
def lockL : List Addr → TS → TS
  | [], t => t
  | a :: L, t => fun E σ H => (∃ kvs, H a = some (.dK kvs) ∧ ∀ od, lockL L t ⟨fun σ' H' => H' a = some (.frz od (.dK kvs)) ∧ E.nx σ' (upd H' a (.dK kvs)), fun v H' => H' a = some (.frz od (.dK kvs)) ∧ E.rt v (upd H' a (.dK kvs)), fun σ' H' => H' a = some (.frz od (.dK kvs)) ∧ E.bk σ' (upd H' a (.dK kvs)), fun σ' H' => H' a = some (.frz od (.dK kvs)) ∧ E.ct σ' (upd H' a (.dK kvs))⟩ σ (upd H a (.frz od (.dK kvs)))) ∨ lockL L t E σ H
theorem ps_lockL {X : Cx} {st : Stmt} {t : TS} (h : PS X st t) : ∀ L, PS X st (lockL L t)
  | [] => h
  | a :: L => ps_imp (ps_or (ps_lock (ps_lockL h L)) (ps_lockL h L)) fun E σ H hw => by
    rcases hw with ⟨kvs, ha, hw⟩ | hw
    · exact .inl ⟨a, .dK kvs, ha, trivial, hw⟩
    · exact .inr hw
theorem ps_lockA {X : Cx} {st : Stmt} {t : TS} (h : PS X st t) : PS X st (fun E σ H => ∃ L, lockL L t E σ H) := ⟨fun pins s σ H E I hw => by
  obtain ⟨L, hw⟩ := hw
  exact (ps_lockL h L).run pins s σ H E I hw⟩
theorem Sim.refl (K : PySem.W.Frag) (H : Hp) : Sim K H H := ⟨fun _ _ h => h, fun _ _ h => h, fun _ _ h => h, fun _ _ h => h, fun _ _ h => h, fun _ h => h, fun _ _ _ _ h => h, fun _ _ h => h⟩
theorem Sim.trans {K : PySem.W.Frag} {H H' H2 : Hp} (s : Sim K H H') (s' : Sim K H' H2) : Sim K H H2 := ⟨fun a x h => s'.l a x (s.l a x h), fun a x h => s'.t a x (s.t a x h), fun a x h => s'.d a x (s.d a x h), fun a x h => s'.s a x (s.s a x h), fun a x h => s'.x a x (s.x a x h), fun a h => s'.b a (s.b a h), fun a x y z h => s'.i a x y z (s.i a x y z h), fun a x h => s'.w a x (s.w a x h)⟩
theorem lock_intro {K : PySem.W.Frag} {t : TS} {σ : L2.St} : ∀ (L : List Addr) (E : Ends) (H : Hp), (∀ (E' : Ends) (H' : Hp), Sim K H H' → (∀ a ∈ L, ∀ kvs, Rd H a (.dK kvs) → ∃ od, H' a = some (.frz od (.dK kvs))) → (∀ b od u, H b = some (.frz od u) → H' b = some (.frz od u)) → (∀ σ' G, Same H' G → ∃ U, Same H U ∧ Sim K G U ∧ (E.nx σ' U → E'.nx σ' G)) → t E' σ H') → lockL L t E σ H
  | [], E, H, h => h E H (Sim.refl K H) (by simp) (fun _ _ _ q => q) fun σ' G s => ⟨G, s, Sim.refl K G, fun q => q⟩
  | a :: L, E, H, h => by
    by_cases c : ∃ kvs, H a = some (.dK kvs)
    · obtain ⟨kvs, ha⟩ := c
      refine .inl ⟨kvs, ha, fun od => lock_intro L _ _ fun E' H' s1 fz1 kp1 un1 => h E' H' ((sim_lock ha).trans s1) ?_ ?_ ?_⟩
      · intro b hb k2 rd
        rcases List.mem_cons.mp hb with rfl | hb
        · rcases rd with rd | ⟨o, rd⟩
          · rw [ha] at rd; cases rd
            exact ⟨od, kp1 _ _ _ upd_same⟩
          · rw [ha] at rd; cases rd
        · exact fz1 b hb k2 ((sim_lock (K := K) ha).d b k2 rd)
      · intro b o u hb
        refine kp1 b o u ?_
        rw [upd_ne (fun e : b = a => by rw [e, ha] at hb; cases hb)]
        exact hb
      · intro σ' G s
        obtain ⟨U1, q1, q2, q3⟩ := un1 σ' G s
        have ua : U1 a = some (.frz od (.dK kvs)) := q1 a _ upd_same
        exact ⟨upd U1 a (.dK kvs), same_unlock q1 ha, q2.trans (sim_unlock ua), fun q => q3 ⟨ua, q⟩⟩
    · refine .inr (lock_intro L E H fun E' H' s1 fz1 kp1 un1 => h E' H' s1 ?_ kp1 un1)
      intro b hb k2 rd
      rcases List.mem_cons.mp hb with rfl | hb
      · rcases rd with rd | ⟨o, rd⟩
        · exact absurd ⟨k2, rd⟩ c
        · exact ⟨o, kp1 _ _ _ rd⟩
      · exact fz1 b hb k2 rd
/-! ### [e for x in xs for y in d[x]] -/
def keysAt (w : Nat) (G : Sl → Rs D) : Sl → Rs (List D) := fun ρ => match G ρ with
  | .ok (.int j) => match ρ[w]? with
    | some (some (.dct rows)) => match valD rows j with
      | some (.dct kds) => .ok (dkeys kds)
      | _ => .bad
    | _ => .bad
  | _ => .bad
def lc2L (T : D → Option Asn) (M : Sl → Rs (List D)) (vs1 : List Nat) (T1 : D → Option Asn) (E : Sl → Rs D) (ρ : Sl) : List D → Rs (List D)
  | [] => .ok []
  | d :: ds => (Rs.of (T d)).bind fun as => (M (setD ρ as)).bind fun ks => (lcL T1 cYes E (wipeD (setD ρ as) vs1) ks).bind fun r1 => (lc2L T M vs1 T1 E ρ ds).bind fun r2 => .ok (r1 ++ r2)
def sLc2 (i w : Nat) (S : Sl → Rs (List D)) (vs : List Nat) (T : D → Option Asn) (G : Sl → Rs D) (vs1 : List Nat) (T1 : D → Option Asn) (E : Sl → Rs D) : Sl → Rs Out := fun ρ => match ρ[w]? with
  | some (some (.dct _)) => match S ρ with
    | .ok ds => match lc2L T (keysAt w G) vs1 T1 E (wipeD ρ vs) ds with
      | .ok res => if res.length ≤ 1000000 then .ok (.nx (ρ.set i (some (.lst res)))) else .bad
      | _ => .bad
    | _ => .bad
  | _ => .bad
theorem R0.sim {K : PySem.W.Frag} {σ : L2.St} {H H' : Hp} {ρ : Sl} (h : R0 K σ H ρ) (s : Sim K H H') : R0 K σ H' ρ := ⟨⟨h.1.1, fun x hx e => s.b _ (h.1.2 x hx e)⟩, fun i d e => by
  obtain ⟨v, e1, r⟩ := h.2 i d e
  exact ⟨v, e1, r.sim s⟩⟩
theorem bd_ok' {α β : Type} (a : α) (f : α → Rs β) : (Rs.ok a).bind f = f a := rfl
section
variable {K : PySem.W.Frag} {W : Wsh} {S : Sl → Rs (List D)} {g g1 : TG} {T T1 : D → Option Asn} {G E : Sl → Rs D} {vs vs1 : List Nat} {w : Nat}
theorem same_hid {Dl : Addr} {H3 H4 : Hp} {acc : List V} (ha : H3 Dl = some (.lst acc)) (s : Same H3 H4) : Same (hide [Dl] H3) (hide [Dl] H4) := same_hideM s fun a hm => ⟨.lst acc, by
  have : a = Dl := by simpa using hm
  rw [this]; exact ha, rfl⟩
theorem hid_upd (Dl : Addr) (H4 : Hp) (o : HO) : hide [Dl] (upd H4 Dl o) = hide [Dl] H4 := by
  funext b
  by_cases hb : b ∈ [Dl]
  · rw [hide_in hb, hide_in hb]
  · rw [hide_out hb, hide_out hb, upd_ne (by simpa using hb)]
theorem hid_none {Dl : Addr} {H1 : Hp} (h : H1 Dl = none) : hide [Dl] H1 = H1 := by
  funext b
  by_cases hb : b ∈ [Dl]
  · rw [hide_in hb]
    have : b = Dl := by simpa using hb
    rw [this, h]
  · rw [hide_out hb]
/-- the list so far -/
def SoFar (K : PySem.W.Frag) (Dl : Addr) (H1 H5 : Hp) (es : List D) : Prop := ∃ acc, H5 Dl = some (.lst acc) ∧ Same H1 (hide [Dl] H5) ∧ RpAll K (hide [Dl] H5) acc es
theorem SoFar.grow {Dl : Addr} {H1 H5 H6 : Hp} {es : List D} (s : SoFar K Dl H1 H5 es) (h : Same H5 H6) : SoFar K Dl H1 H6 es := by
  obtain ⟨acc, a, b, c⟩ := s
  exact ⟨acc, h _ _ a, b.trans (same_hid a h), c.mono (same_hid a h)⟩
theorem SoFar.base {Dl : Addr} {H1 H2 H5 : Hp} {es : List D} (s : SoFar K Dl H2 H5 es) (h : Same H1 H2) : SoFar K Dl H1 H5 es := by
  obtain ⟨acc, a, b, c⟩ := s
  exact ⟨acc, a, h.trans b, c⟩
theorem wipeD_out : ∀ {us : List Nat} {ρ : Sl}, w ∉ us → (wipeD ρ us)[w]? = ρ[w]?
  | [], _, _ => rfl
  | u :: us, ρ, h => by
    simp only [List.mem_cons, not_or] at h
    show ((wipeD ρ us).set u none)[w]? = _
    rw [List.getElem?_set_ne (fun e : u = w => h.1 e.symm), wipeD_out h.2]
theorem setD_out : ∀ {as : Asn} {ρ : Sl}, (∀ q ∈ as, q.1 ≠ w) → (setD ρ as)[w]? = ρ[w]?
  | [], _, _ => rfl
  | (i, d) :: as, ρ, h => by
    show (setD (ρ.set i (some d)) as)[w]? = _
    rw [setD_out fun q hq => h q (by simp [hq]), List.getElem?_set_ne (h (i, d) (by simp))]
theorem lc2_read (ht : TgP K g T) (hin : InS vs T) (ht1 : TgP K g1 T1) (hin1 : InS vs1 T1) (hw : w ∉ vs) {σ : L2.St} {H : Hp} {ρ : Sl} {ds res : List D} {p : Addr} {kvs0 : List (Key × V)} {rows : List (Int × D)} (rr : R0 K σ H ρ) (hS : S ρ = .ok ds) (hr : lc2L T (keysAt w G) vs1 T1 E (wipeD ρ vs) ds = .ok res) (hl : res.length ≤ 1000000)
    (hp : σ[w]? = some (some (.ref p))) (hpd : Rd H p (.dK kvs0)) (hrw : ρ[w]? = some (some (.dct rows))) (fz : ∀ j kds, valD rows j = some (.dct kds) → ∃ a od kvs, valV kvs0 (.inl j) = some (.ref a) ∧ H a = some (.frz od (.dK kvs)) ∧ RpKV K H kvs kds) {Q : VK} (hQ : ∀ v H', Same H H' → Rp K H' v (.lst res) → Q v H') :
    tLc2 (tI K W S) g tYes (iKeys (tDGet (tVar w) (tE K W0 G))) g1 tYes (tFr (tE K W0 E)) vs vs1 σ H Q := by
  refine ⟨ρ, rr, ?_⟩
  rw [hS]
  intro J H1 s1 wk Dl hD
  refine ⟨fun i m H5 => m = ds.length - i ∧ i ≤ ds.length ∧ ∃ es r, SoFar K Dl H1 H5 es ∧ lc2L T (keysAt w G) vs1 T1 E (wipeD ρ vs) (ds.drop i) = .ok r ∧ es ++ r = res, ⟨ds.length, by simp, Nat.zero_le _, [], res, ⟨[], upd_same, by rw [hid_upd, hid_none hD]; exact Same.refl _, .nil⟩, by simpa using hr, rfl⟩, ?_⟩
  rintro i m H5 ⟨rfl, hile, es, r, sf, hlc, hres⟩
  obtain ⟨acc, hacc, sm, ra⟩ := id sf
  by_cases hlt : i < ds.length
  · refine .inr ⟨wk.go i H5 (sm.trans hide_same) hlt, fun H6 => ∃ es r, SoFar K Dl H1 H6 es ∧ lc2L T (keysAt w G) vs1 T1 E (wipeD ρ vs) (ds.drop (i + 1)) = .ok r ∧ es ++ r = res, fun H' hN => ⟨ds.length - (i + 1), by omega, rfl, hlt, hN⟩, fun x H6 y => ?_⟩
    have hdi : ds[i]? = some ds[i] := List.getElem?_eq_getElem hlt
    have hdrop : ds.drop i = ds[i] :: ds.drop (i + 1) := by rw [List.drop_eq_getElem_cons hlt]
    rw [hdrop, lc2L] at hlc
    cases hT : T ds[i] with
    | none => rw [hT] at hlc; cases hlc
    | some as =>
      rw [hT] at hlc
      have hlc : ((keysAt w G (setD (wipeD ρ vs) as)).bind fun ks => (lcL T1 cYes E (wipeD (setD (wipeD ρ vs) as) vs1) ks).bind fun r1 => (lc2L T (keysAt w G) vs1 T1 E (wipeD ρ vs) (ds.drop (i + 1))).bind fun r2 => .ok (r1 ++ r2)) = .ok r := hlc
      cases hM : keysAt w G (setD (wipeD ρ vs) as) with
      | bad => rw [hM] at hlc; cases hlc
      | ex c => rw [hM] at hlc; cases hlc
      | ok ks =>
        rw [hM, bd_ok'] at hlc
        cases hL1 : lcL T1 cYes E (wipeD (setD (wipeD ρ vs) as) vs1) ks with
        | bad => rw [hL1] at hlc; cases hlc
        | ex c => rw [hL1] at hlc; cases hlc
        | ok r1 =>
          rw [hL1, bd_ok'] at hlc
          cases hL2 : lc2L T (keysAt w G) vs1 T1 E (wipeD ρ vs) (ds.drop (i + 1)) with
          | bad => rw [hL2] at hlc; cases hlc
          | ex c => rw [hL2] at hlc; cases hlc
          | ok r2 =>
            rw [hL2, bd_ok'] at hlc
            have er : r = r1 ++ r2 := by cases hlc; rfl
            obtain ⟨s56, s56h, rx, hk⟩ := (wk.yld i H5 x H6 _ (sm.trans hide_same) hdi y).hid (as := [Dl]) sm (fun a ha => by
              have : a = Dl := by simpa using ha
              rw [this, hacc]; simp)
            refine ht x ds[i] (hide [Dl] H6) H6 (L2.wipe σ vs) as _ hide_same rx hT fun us ru => ?_
            have we : L2.wipe (setV (L2.wipe σ vs) (as.map Prod.fst) us) vs = L2.wipe σ vs := by
              rw [wipe_sets (fun j hj => by obtain ⟨q, hq, rfl⟩ := List.mem_map.mp hj; exact hin _ as hT q hq)]
              exact wipe_wipe fun _ h => h
            refine ⟨we, ?_⟩
            have R6 : R0 K (setV (L2.wipe σ vs) (as.map Prod.fst) us) (hide [Dl] H6) (setD (wipeD ρ vs) as) := R0.sets ((rr.wipe (vs := vs)).mono (s1.trans (sm.trans s56h))) ru
            have hσ2 : (setV (L2.wipe σ vs) (as.map Prod.fst) us)[w]? = some (some (.ref p)) := by
              rw [← wipe_out hw, we, wipe_out hw]
              exact hp
            have hρ1 : (setD (wipeD ρ vs) as)[w]? = some (some (.dct rows)) := by
              have hne : ∀ q ∈ as, q.1 ≠ w := fun q hq e => hw (by rw [← e]; exact hin _ as hT q hq)
              rw [setD_out hne, wipeD_out hw]
              exact hrw
            generalize setV (L2.wipe σ vs) (as.map Prod.fst) us = σ2 at *
            generalize setD (wipeD ρ vs) as = ρ1 at *
            unfold tYes
            refine iteT ?_
            unfold keysAt at hM
            cases hG : G ρ1 with
            | bad => rw [hG] at hM; cases hM
            | ex c => rw [hG] at hM; cases hM
            | ok yv =>
              rw [hG] at hM
              cases yv with
              | int jj =>
                rw [hρ1] at hM
                dsimp only at hM
                cases hv : valD rows jj with
                | none => rw [hv] at hM; cases hM
                | some dk =>
                  rw [hv] at hM
                  cases dk with
                  | dct kds =>
                    have hM : ks = dkeys kds := by cases hM; rfl
                    subst hM
                    obtain ⟨a, od, kvs, ev, ha, hkv⟩ := fz jj kds hv
                    refine ⟨.ref p, hσ2, _, R6.mono hide_same, ?_⟩
                    rw [hG]
                    intro v H7 s67 rv
                    cases rv
                    have sH7 : Same H H7 := s1.trans (sm.trans (hide_same.trans (s56.trans s67)))
                    refine ⟨p, .ref a, rfl, .inl ⟨kvs0, .inl jj, rd_mono sH7 hpd, rfl, ev.symm⟩, a, od, rfl, .inl ⟨kvs, sH7 _ _ ha, ?_⟩⟩
                    have sf6 := sf.grow s56
                    have sf7 := sf6.grow s67
                    obtain ⟨acc6, hacc6, _, _⟩ := id sf6
                    obtain ⟨acc7, hacc7, sm7, ra7⟩ := id sf7
                    have wk1 := wk_k ha hkv
                    generalize dkeys kds = ks at *
                    refine ⟨fun j2 k H8 => k = ks.length - j2 ∧ j2 ≤ ks.length ∧ ∃ es r1, SoFar K Dl (hide [Dl] H7) H8 es ∧ lcL T1 cYes E (wipeD ρ1 vs1) (ks.drop j2) = .ok r1 ∧ es ++ (r1 ++ r2) = res, ⟨ks.length, by simp, Nat.zero_le _, es, r1, ⟨acc7, hacc7, Same.refl _, ra7⟩, by simpa using hL1, by rw [← er]; exact hres⟩, ?_⟩
                    rintro j2 k H8 ⟨rfl, hj2, es8, r8, sf8, hlc8, hres8⟩
                    obtain ⟨acc8, hacc8, sm8, ra8⟩ := id sf8
                    have sHh : Same H (hide [Dl] H8) := (s1.trans sm7).trans sm8
                    have sH8 : Same H H8 := sHh.trans hide_same
                    by_cases hlt2 : j2 < ks.length
                    · have hdj : ks[j2]? = some ks[j2] := List.getElem?_eq_getElem hlt2
                      have hdrop2 : ks.drop j2 = ks[j2] :: ks.drop (j2 + 1) := by rw [List.drop_eq_getElem_cons hlt2]
                      rw [hdrop2, lcL] at hlc8
                      refine .inr ⟨wk1.go j2 H8 sH8 hlt2, fun H9 => ∃ es r1, SoFar K Dl (hide [Dl] H7) H9 es ∧ lcL T1 cYes E (wipeD ρ1 vs1) (ks.drop (j2 + 1)) = .ok r1 ∧ es ++ (r1 ++ r2) = res, fun H' hN => ⟨ks.length - (j2 + 1), by omega, rfl, hlt2, hN⟩, fun x2 H9 y2 => ?_⟩
                      obtain ⟨s89, s89h, rx2, hk2⟩ := (wk1.yld j2 H8 x2 H9 _ sH8 hdj y2).hid (as := [Dl]) sHh (fun a ha => by
                        have : a = Dl := by simpa using ha
                        rw [this, hacc8]; simp)
                      have hacc9 : H9 Dl = some (.lst acc8) := s89 _ _ hacc8
                      cases hT1 : T1 ks[j2] with
                      | none => rw [hT1] at hlc8; cases hlc8
                      | some as1 =>
                        rw [hT1] at hlc8
                        have hlc8 : ((E (setD (wipeD ρ1 vs1) as1)).bind fun y => (lcL T1 cYes E (wipeD ρ1 vs1) (ks.drop (j2 + 1))).bind fun r => .ok (y :: r)) = .ok r8 := hlc8
                        cases hE : E (setD (wipeD ρ1 vs1) as1) with
                        | bad => rw [hE] at hlc8; cases hlc8
                        | ex c => rw [hE] at hlc8; cases hlc8
                        | ok dy =>
                          rw [hE, bd_ok'] at hlc8
                          cases hL3 : lcL T1 cYes E (wipeD ρ1 vs1) (ks.drop (j2 + 1)) with
                          | bad => rw [hL3] at hlc8; cases hlc8
                          | ex c => rw [hL3] at hlc8; cases hlc8
                          | ok r9 =>
                            rw [hL3, bd_ok'] at hlc8
                            have er8 : r8 = dy :: r9 := by cases hlc8; rfl
                            refine ht1 x2 _ (hide [Dl] H9) H9 (L2.wipe σ2 vs1) as1 _ hide_same rx2 hT1 fun us1 ru1 => ?_
                            refine ⟨by rw [wipe_sets (fun j hj => by obtain ⟨q, hq, rfl⟩ := List.mem_map.mp hj; exact hin1 _ as1 hT1 q hq)]; exact wipe_wipe fun _ h => h, ?_⟩
                            refine iteT ?_
                            have R9 : R0 K (setV (L2.wipe σ2 vs1) (as1.map Prod.fst) us1) (hide [Dl] H9) (setD (wipeD ρ1 vs1) as1) := R0.sets ((R6.wipe (vs := vs1)).mono ((same_hid hacc6 s67).trans (sm8.trans s89h))) ru1
                            refine ⟨[Dl], fun a ha => .inl ⟨acc8, by have : a = Dl := by simpa using ha
                                                                     rw [this]; exact hacc9⟩, _, R9, ?_⟩
                            rw [hE]
                            intro v H10 s10 r10 hn10
                            have hp10 : put [Dl] H9 H10 Dl = some (.lst acc8) := by rw [put_in (by simp)]; exact hacc9
                            have lb : acc8.length ≤ 1000000 := by
                              have h1 := ra8.length
                              have h2 := congrArg List.length hres8
                              rw [List.length_append, er8] at h2
                              simp only [List.length_append, List.length_cons] at h2
                              omega
                            refine ⟨acc8, hp10, Nat.lt_of_le_of_lt lb (by decide), es8 ++ [dy], r9, ⟨acc8 ++ [v], upd_same, ?_, ?_⟩, rfl, by rw [← hres8, er8]; simp⟩
                            · rw [hid_upd, hide_put hn10]
                              exact sm8.trans (s89h.trans s10)
                            · rw [hid_upd, hide_put hn10]
                              exact (ra8.mono (s89h.trans s10)).append (.cons r10 .nil)
                    · have e : j2 = ks.length := by omega
                      subst e
                      rw [List.drop_length] at hlc8
                      cases hlc8
                      refine .inl ⟨wk1.stop H8 sH8, es8, r2, sf8.base sm7, rfl, hres8⟩
                  | _ => cases hM
              | _ => cases hM
  · have e : i = ds.length := by omega
    subst e
    rw [List.drop_length] at hlc
    cases hlc
    rw [List.append_nil] at hres
    subst hres
    exact .inl ⟨wk.stop H5 (sm.trans hide_same), hQ _ _ (s1.trans (sm.trans hide_same)) (.lst hacc (ra.mono hide_same))⟩
end
theorem valV_mem {κ : Type} [DecidableEq κ] {k : κ} {v : V} : ∀ {kvs : List (κ × V)}, valV kvs k = some v → ∃ kv ∈ kvs, kv.2 = v
  | [], h => by simp [valV] at h
  | kv :: kvs, h => by
    by_cases e : kv.1 = k
    · refine ⟨kv, by simp, ?_⟩
      simpa [valV, e] using h
    · have h2 : valV kvs k = some v := by simpa [valV, e] using h
      obtain ⟨x, h3, h4⟩ := valV_mem h2
      exact ⟨x, by simp [h3], h4⟩
def refsOf (kvs : List (Key × V)) : List Addr := kvs.filterMap fun kv => match kv.2 with
  | .ref a => some a
  | _ => none
section
variable {X : Cx} {W : Wsh} {ownB : List Nat} {pos spos : Pos} {k : Nat}
theorem s_lc2 {i w : Nat} {st : Stmt} {vs vs1 : List Nat} {S : Sl → Rs (List D)} {g g1 : TG} {T T1 : D → Option Asn} {G Ee : Sl → Rs D}
    (hps : PS X st (tAsg (tLc2 (tI X.K W S) g tYes (iKeys (tDGet (tVar w) (tE X.K W0 G))) g1 tYes (tFr (tE X.K W0 Ee)) vs vs1) (gName i)))
    (hw : w ∉ vs) (ht : TgP X.K g T) (hin : InS vs T) (ht1 : TgP X.K g1 T1) (hin1 : InS vs1 T1) : DS X W [] (sLc2 i w S vs T G vs1 T1 Ee) [] ownB st := ⟨fun H0 => by
  refine ps_imp (ps_lockA hps) fun E σ H hw2 => ?_
  obtain ⟨ρ, r, hw2⟩ := hw2
  unfold sLc2 at hw2
  cases hρ : ρ[w]? with
  | none => rw [hρ] at hw2; exact hw2.elim
  | some o =>
    rw [hρ] at hw2
    cases o with
    | none => exact hw2.elim
    | some dw =>
      cases dw with
      | dct rows =>
        dsimp only at hw2
        cases hS : S ρ with
        | bad => rw [hS] at hw2; exact hw2.elim
        | ex c => rw [hS] at hw2; exact hw2.elim
        | ok ds =>
          rw [hS] at hw2
          dsimp only at hw2
          cases hL : lc2L T (keysAt w G) vs1 T1 Ee (wipeD ρ vs) ds with
          | bad => rw [hL] at hw2; exact hw2.elim
          | ex c => rw [hL] at hw2; exact hw2.elim
          | ok res =>
            rw [hL] at hw2
            dsimp only at hw2
            by_cases hl : res.length ≤ 1000000
            · rw [if_pos hl] at hw2
              have hw2 : ∀ σ' H', R X.K H0 [] σ' H' (ρ.set i (some (.lst res))) → E.nx σ' H' := hw2
              obtain ⟨vw, ew, rw_⟩ := r.slot w _ (by simp) hρ
              have rw2 : Rp X.K H vw (.dct rows) := rw_.mono hide_same
              cases rw2 with
              | @dct p kvs0 _ hpd hk =>
                refine ⟨refsOf kvs0, lock_intro (K := X.K) (refsOf kvs0) E H fun E' H' sim fz kp un => ?_⟩
                refine lc2_read ht hin ht1 hin1 hw (r.r0.sim sim) hS hL hl ew (sim.d _ _ hpd) hρ (fun j kds e => ?_) fun v G' sG rv => ?_
                · rcases hk.val j with ⟨_, e2⟩ | ⟨v, d', q1, q2, rv⟩
                  · rw [e] at e2; cases e2
                  · rw [e] at q2
                    cases q2
                    cases rv with
                    | @dct a kvs _ ha hkv =>
                      obtain ⟨kv, hm, e3⟩ := valV_mem q1
                      obtain ⟨od, hod⟩ := fz a (List.mem_filterMap.mpr ⟨kv, hm, by rw [e3]⟩) kvs ha
                      exact ⟨a, od, kvs, q1, hod, hkv.sim sim⟩
                · obtain ⟨U, u1, u2, u3⟩ := un (σ.set i (some v)) G' sG
                  refine u3 (hw2 _ _ ((r.grow u1).set (by simp) ?_))
                  show Rp X.K (hide [] U) v (.lst res)
                  rw [hide_nil]
                  exact rv.sim u2
            · rw [if_neg hl] at hw2; exact hw2.elim
      | _ => exact hw2.elim⟩
end
end PB

namespace PB
open PySem PySem.Spec PyProof.Rows L2

/-! ### texts -/
def asStrs : List D → Option (List Str)
  | [] => some []
  | .str x :: ds => (asStrs ds).map (x :: ·)
  | _ :: _ => none
theorem asStrs_rp {K : PySem.W.Frag} {H : Hp} : ∀ {vs : List V} {ds : List D} {ys : List Str}, RpAll K H vs ds → asStrs ds = some ys → vs = ys.map V.str
  | _, _, _, .nil, e => by cases e; rfl
  | _, d :: ds, ys, .cons (vs := vs) h t, e => by
    cases d <;> simp only [asStrs] at e <;> try contradiction
    rename_i x
    cases q : asStrs ds with
    | none => rw [q] at e; cases e
    | some zs =>
      rw [q] at e
      cases e
      rw [rp_str h, asStrs_rp t q]
      rfl
theorem asStrs_map : ∀ ys : List Str, asStrs (ys.map .str) = some ys
  | [] => rfl
  | y :: ys => by simp [asStrs, asStrs_map ys]
theorem rp_strs {K : PySem.W.Frag} {H : Hp} : ∀ ys : List Str, RpAll K H (ys.map V.str) (ys.map D.str)
  | [] => .nil
  | y :: ys => .cons (.str y) (rp_strs ys)
def dJoin : D → D → Option D
  | .str a, .lst xs => match asStrs xs with
    | some ys => if (ys.map (·.length)).sum + ys.length * a.length ≤ 1000000 then some (.str (Txt.join a ys)) else none
    | none => none
  | _, _ => none
def dSplit : D → D → Option D
  | .str a, .str b => if (b.length == 0) = false ∧ a.length + 2 ≤ 1000000 then some (.lst ((Txt.split a b).map .str)) else none
  | _, _ => none
def gStr : List D → Option D
  | [.int i] => if i.natAbs < 1000000 then some (.str (toString i)) else none
  | _ => none
def gInt : List D → Option D
  | [.str a] => if a.length ≤ 640 then (intText? a).map .int else none
  | _ => none
def dInS : D → D → Option D
  | .str x, .str z => match x.cps.toList with
    | [c] => some (.bl (decide (c ∈ z.cps.toList)))
    | _ => none
  | _, _ => none
def dCutS (lo hi : Option Int) : D → Option D
  | .str z => if z.length ≤ 1000000 then some (.str (cutS z lo hi)) else none
  | _ => none
def eCutS (F : Sl → Rs D) (P P' : Sl → Rs (Option Int)) : Sl → Rs D := fun ρ => (F ρ).bind fun x => (P ρ).bind fun l => (P' ρ).bind fun h => Rs.of (dCutS l h x)
def dSigns : D → Option (List D)
  | .str z => if z.length ≤ 1000000 then some (z.cps.toList.map fun c => .str ⟨#[c]⟩) else none
  | _ => none
def sSigns (F : Sl → Rs D) : Sl → Rs (List D) := fun ρ => (F ρ).bind fun d => Rs.of (dSigns d)
def eM1 (g : D → D → Option D) (F G : Sl → Rs D) : Sl → Rs D := fun ρ => (F ρ).bind fun x => match x with
  | .str a => (G ρ).bind fun y => Rs.of (g (.str a) y)
  | _ => .bad
section
variable {X : Cx} {W : Wsh} {a b o : Expr} {F G : Sl → Rs D} {A : Sl → Rs (List D)} {p pos apos p2 : Pos} {P P' : Sl → Rs (Option Int)} {lo hi : Option Expr} {tg : Expr}
theorem cd_str {K : PySem.W.Frag} : CallD K (fun xs H Q => ∃ i, xs = [.int i] ∧ i.natAbs.log2 < 1920 ∧ Q (.str (toString i)) H) gStr := by
  intro vs ds d H Q rv e k
  match ds, e with
  | [.int i], e =>
    simp only [gStr] at e
    split at e
    · rename_i h
      cases e
      obtain ⟨v, rfl, r⟩ := rpall1 rv
      rw [rp_int r]
      refine ⟨i, rfl, ?_, k _ H (Same.refl H) (.str _)⟩
      by_cases z : i.natAbs = 0
      · rw [z]; decide
      · exact (Nat.log2_lt z).2 (Nat.lt_of_lt_of_le h (Nat.le_trans (by decide : 1000000 ≤ 2 ^ 20) (Nat.pow_le_pow_right (by decide) (by decide))))
    · cases e
theorem e_strI (hm : X.mg "str" = none) (ha : PA X [a] (tA X.K W A)) (hg : Gl X "str" := by rfl) (he : starEach [a] X.env = (false, eval a X.env) :: starEach [] X.env := by rfl) : PE X (.Call (.Name "str" p) [a] [] pos) (tE X.K W (eCall gStr A)) :=
  e_callTy call_str_int cd_str hm (by decide +kernel) ha hg (he := he)
theorem cd_int {K : PySem.W.Frag} : CallD K (fun xs H Q => ∃ a n, xs = [.str a] ∧ PySem.intText? a = some n ∧ a.length ≤ 640 ∧ Q (.int n) H) gInt := by
  intro vs ds d H Q rv e k
  match ds, e with
  | [.str z], e =>
    simp only [gInt] at e
    split at e
    · rename_i h
      obtain ⟨v, rfl, r⟩ := rpall1 rv
      cases q : intText? z with
      | none => rw [q] at e; cases e
      | some n =>
        rw [q] at e
        cases e
        rw [rp_str r]
        exact ⟨z, n, rfl, q, h, k _ H (Same.refl H) (.int _)⟩
    · cases e
theorem e_intS (hm : X.mg "int" = none) (ha : PA X [a] (tA X.K W A)) (hg : Gl X "int" := by rfl) (he : starEach [a] X.env = (false, eval a X.env) :: starEach [] X.env := by rfl) : PE X (.Call (.Name "int" p) [a] [] pos) (tE X.K W (eCall gInt A)) :=
  e_callTy call_int_str cd_int hm (by decide +kernel) ha hg (he := he)
theorem od_inS {K : PySem.W.Frag} : OpD K (fun x y H Q => ∃ (c : Nat) (z : Str), x = .str ⟨#[c]⟩ ∧ y = .str z ∧ Q (.bl (decide (c ∈ z.cps.toList))) H) dInS := by
  intro x y dx dy d H Q rx ry e k
  cases dx <;> cases dy <;> simp only [dInS] at e <;> try contradiction
  rename_i a z
  split at e
  · rename_i c hc
    cases e
    refine ⟨c, z, ?_, rp_str ry, k _ H (Same.refl H) (.bl _)⟩
    rw [rp_str rx]
    congr 1
    exact TL.ext_tl hc
  · cases e
theorem e_inS (ha : PE X a (tE X.K W F)) (hb : PE X b (tE X.K W G)) (hm : behindInMarks .In b = false := by rfl) : PE X (.Compare a [.In] [b] pos) (tE X.K W (eBin dInS F G)) := e_cmp op_in_sign od_inS ha hb hm
theorem e_cutS (ha : PE X a (tE X.K W F)) (hl : PO X lo (tP X.K W P)) (hh : PO X hi (tP X.K W P')) : PE X (.Subscript a (.Slice lo hi none p2) pos) (tE X.K W (eCutS F P P')) := by
  refine pe_imp (pe_slice sl_str ha hl hh) fun σ H Q h => ?_
  obtain ⟨ρ, rr, h⟩ := h
  refine ⟨ρ, rr, cs_mono (cs_bind h) (fun dx h1 v1 H1 s1 r1 => ?_) fun c q => q⟩
  refine ⟨ρ, rr.mono s1, cs_mono (cs_bind h1) (fun l h2 H2 s2 => ?_) fun c q H' s => q H' (s1.trans s)⟩
  refine ⟨ρ, rr.mono (s1.trans s2), cs_mono (cs_bind h2) (fun u h3 H3 s3 => ?_) fun c q H' s => q H' ((s1.trans s2).trans s)⟩
  obtain ⟨d, e, h4⟩ := cs_of h3
  cases dx <;> simp only [dCutS] at e <;> try contradiction
  rename_i z
  split at e
  · rename_i hz
    cases e
    exact ⟨z, rp_str r1, lb_le hz, h4 _ _ ((s1.trans s2).trans s3) (.str _)⟩
  · cases e
theorem t_m1 {r : V → List V → Hp → VK → Prop} {g : D → D → Option D} (hg : ∀ x y dx dy d H (Q : VK), Rp X.K H x dx → Rp X.K H y dy → g dx dy = some d → (∀ v H', Same H H' → Rp X.K H' v d → Q v H') → r x [y] H Q) {σ : L2.St} {H : Hp} {Q : VK} (h : tE X.K W (eM1 g F G) σ H Q) : tM1 r (tE X.K W F) (tE X.K W G) σ H Q := by
  obtain ⟨ρ, rr, h⟩ := h
  refine ⟨ρ, rr, cs_mono (cs_bind h) (fun dx h1 v1 H1 s1 r1 => ?_) fun c q => q⟩
  cases dx with
  | str z =>
    refine ⟨⟨z, rp_str r1⟩, ρ, rr.mono s1, cs_mono (cs_bind h1) (fun dy h2 v2 H2 s2 r2 => ?_) fun c q H' s => q H' (s1.trans s)⟩
    obtain ⟨d, e, h3⟩ := cs_of h2
    exact hg v1 v2 _ dy d H2 Q (r1.mono s2) r2 e fun v H' s r => h3 v H' ((s1.trans s2).trans s) r
  | _ => exact h1.elim
theorem e_split (ho : PE X o (tE X.K W F)) (ha : PE X a (tE X.K W G)) (hs : starEach [a] X.env = [(false, eval a X.env)] := by rfl) (hbase : attributeBase o "split" X.env (eval o X.env) = eval o X.env := by rfl) (hline : (apos.endLine == pos.line) = true := by rfl) :
    PE X (.Call (.Attribute o "split" apos) [a] [] pos) (tE X.K W (eM1 dSplit F G)) :=
  pe_imp (pe_split ho ha hs hbase hline) fun σ H Q h => t_m1 (fun x y dx dy d H Q rx ry e k => by
    cases dx <;> cases dy <;> simp only [dSplit] at e <;> try contradiction
    rename_i a b
    split at e
    · rename_i hc
      cases e
      exact ⟨a, b, rp_str rx, by rw [rp_str ry], hc.1, lb_le hc.2, fun n hn => k _ _ (same_new hn) (.lst upd_same (rp_strs _))⟩
    · cases e) h
theorem e_join (ho : PE X o (tE X.K W F)) (ha : PE X a (tE X.K W G)) (hs : starEach [a] X.env = [(false, eval a X.env)] := by rfl) (hbase : attributeBase o "join" X.env (eval o X.env) = eval o X.env := by rfl) (hline : (apos.endLine == pos.line) = true := by rfl) :
    PE X (.Call (.Attribute o "join" apos) [a] [] pos) (tE X.K W (eM1 dJoin F G)) :=
  pe_imp (pe_join ho ha hs hbase hline) fun σ H Q h => t_m1 (fun x y dx dy d H Q rx ry e k => by
    cases dx <;> cases dy <;> simp only [dJoin] at e <;> try contradiction
    rename_i a xs
    split at e
    · rename_i ys hy
      split at e
      · rename_i hc
        cases e
        obtain ⟨q, vs, rfl, h1, a1⟩ := rp_lst ry
        rw [asStrs_rp a1 hy] at h1
        exact ⟨a, q, ys, rp_str rx, rfl, .inl (SqL.of h1), Nat.le_trans hc (by decide), k _ _ (Same.refl H) (.str _)⟩
      · cases e
    · cases e) h
theorem wk_s {K : PySem.W.Frag} {H1 : Hp} {z : Str} : WkD K (Its z) H1 (z.cps.toList.map fun c => .str ⟨#[c]⟩) where
  go := fun i H s hi => by
    rw [List.length_map, Array.length_toList] at hi
    exact hi
  stop := fun H s => by
    rw [List.length_map, Array.length_toList]
    exact Nat.le_refl _
  yld := fun i H x H' d s e y => by
    obtain ⟨e1, c, e2, e3⟩ := y
    rw [List.getElem?_map, Array.getElem?_toList, e2] at e
    cases e
    rw [e3]
    exact .inl ⟨e1, .str _⟩
theorem i_signs (ha : PE X a (tE X.K W F)) : PI X tg a (tI X.K W (sSigns F)) := by
  refine pi_imp (pi_str (tg := tg) ha) fun σ H R h => ?_
  obtain ⟨ρ, rr, h⟩ := h
  refine ⟨ρ, rr, cs_mono (cs_bind h) (fun d h1 v H1 s1 r1 => ?_) fun c q => q⟩
  obtain ⟨ds, e, h2⟩ := cs_of h1
  cases d <;> simp only [dSigns] at e <;> try contradiction
  rename_i z
  split at e
  · rename_i hz
    cases e
    rw [rp_str r1]
    first
      | exact ⟨z, rfl, h2 _ _ s1 wk_s⟩
      | exact ⟨z, rfl, lb_le hz, h2 _ _ s1 wk_s⟩
  · cases e
end
end PB

namespace PB
open PySem PySem.Spec PyProof.Rows L2

/-! ### the cells of a frame, told to a callee -/
def IsC (X : Cx) (b : Addr) : Prop := ∃ y, X.env.cells.lookup y = some b
open Classical in
noncomputable def expo (X : Cx) (h : Heap) (H : Hp) : Hp := fun b => if IsC X b then (h.get? b).map (CellX b) else H b
open Classical in
noncomputable def unexpo (X : Cx) (H : Hp) : Hp := fun b => if IsC X b then none else H b
section
variable {X : Cx} {pins : List (Addr × Obj)} {σ : L2.St} {H H' : Hp} {s s' : Shared}
theorem expo_in {h : Heap} {b : Addr} {o : Obj} (c : IsC X b) (e : h.get? b = some o) : expo X h H b = some (CellX b o) := by unfold expo; rw [if_pos c, e]; rfl
theorem expo_out {h : Heap} {b : Addr} (c : ¬ IsC X b) : expo X h H b = H b := by unfold expo; rw [if_neg c]
theorem unexpo_in {b : Addr} (c : IsC X b) : unexpo X H b = none := by unfold unexpo; rw [if_pos c]
theorem unexpo_out {b : Addr} (c : ¬ IsC X b) : unexpo X H b = H b := by unfold unexpo; rw [if_neg c]
theorem isC_obj (I : L2.Inv X pins σ H s) {b : Addr} (c : IsC X b) : ∃ o v, s.heap.get? b = some o ∧ o.data = .cell v := by
  obtain ⟨y, e⟩ := c
  obtain ⟨v, o, ho, hd⟩ := I.cell y b e
  exact ⟨o, v, ho, hd⟩
theorem not_isC (I : L2.Inv X pins σ H s) {b : Addr} {o : HO} (e : H b = some o) : ¬ IsC X b := fun ⟨y, c⟩ => by
  rw [I.freeC y b c] at e; cases e
theorem expo_ext (I : L2.Inv X pins σ H s) : ∀ b o, H b = some o → expo X s.heap H b = some o := fun b o e => by
  rw [expo_out (not_isC I e)]; exact e
theorem same_expo (I : L2.Inv X pins σ H s) : Same H (expo X s.heap H) := .of (expo_ext I)
theorem hok_expo (I : L2.Inv X pins σ H s) : HOk X.prog X.w (expo X s.heap H) s.heap := fun b o e => by
  by_cases c : IsC X b
  · obtain ⟨ob, v, h1, h2⟩ := isC_obj I c
    rw [expo_in c h1] at e
    cases e
    exact ⟨h1, ⟨_, h1⟩, fun h1 h2 q k => k _ q⟩
  · rw [expo_out c] at e
    exact (I.hok b o e).stay (fun _ _ _ q => q) (fun d q => expo_ext I _ _ q) fun d xs q => expo_ext I _ _ q
theorem env0_expo (I : L2.Inv X pins σ H s) (hfn : ∀ x, X.fn x = true) : Env0 X.prog X.w X.K X.mg X.base X.A X.stack s (expo X s.heap H) := by
  have e0 := I.env0
  have big : ∀ b, IsC X b → X.s_0.heap.objs.size ≤ b := fun b ⟨y, c⟩ => I.ok.cab y b (hfn y) c
  refine ⟨e0.frames, e0.mod, fun b o e => ⟨(e0.bs b o e).1, ?_⟩, e0.bsz, e0.funs, fun b hb => ?_, hok_expo I, e0.bare⟩
  · have nc : ¬ IsC X b := fun c => absurd (Nat.lt_of_lt_of_le (Heap.lt_size e) (Nat.le_trans I.ok.bsz (big b c))) (Nat.lt_irrefl _)
    rw [expo_out nc]
    exact (e0.bs b o e).2
  · have nc : ¬ IsC X b := fun c => by
      rcases List.mem_cons.mp (I.stkSub b hb) with z | z
      · obtain ⟨y, c⟩ := c
        exact I.cne y b c z
      · obtain ⟨_, o, ho, _⟩ := I.ok.funs.mem z
        exact absurd (Nat.lt_of_lt_of_le (Heap.lt_size ho) (big b c)) (Nat.lt_irrefl _)
    rw [expo_out nc]
    exact e0.frf b hb
theorem back_expo (I : L2.Inv X pins σ H s) (os : s'.os = s.os) (bare : AllBare s'.gens) (un : Un (frs X.stack) [] (expo X s.heap H) H' s.heap s'.heap) (hok : HOk X.prog X.w H' s'.heap) (sm : Same (expo X s.heap H) H') : L2.Inv X pins σ (unexpo X H') s' := by
  have cellAt : ∀ b o, IsC X b → s.heap.get? b = some o → s'.heap.get? b = some o := fun b o c e => (hok b _ (sm _ _ (expo_in c e))).1
  refine I.call' (ch := []) os ⟨fun b o e n hb hx => ?_, fun b o e n hb hx => ?_, fun b o e n hx => ?_, un.there, fun b xs e => ?_, fun b o u e => ?_, fun b ps e => ?_⟩ (fun b o e => ?_) bare fun b z => absurd z (by simp)
  · by_cases c : IsC X b
    · exact cellAt b o c e
    · exact un.keep b o e (by rw [expo_out c]; exact n) hb hx
  · by_cases c : IsC X b
    · exact ⟨o.slots, cellAt b o c e⟩
    · exact un.slot b o e (by rw [expo_out c]; exact n) hb hx
  · by_cases c : IsC X b
    · exact unexpo_in c
    · rw [unexpo_out c]
      exact un.free b o e (by rw [expo_out c]; exact n) hx
  · rw [unexpo_out (not_isC I e)]
    exact un.tups b xs (expo_ext I _ _ e)
  · rw [unexpo_out (not_isC I e)]
    exact un.frzs b o u (expo_ext I _ _ e)
  · rw [unexpo_out (not_isC I e)]
    exact un.tbls b ps (expo_ext I _ _ e)
  · by_cases c : IsC X b
    · rw [unexpo_in c] at e; cases e
    · rw [unexpo_out c] at e
      have nx : ∀ d u, H' d = some u → (∀ φ, u ≠ .ext φ) → ¬ IsC X d := fun d u q n z => by
        obtain ⟨ob, v, h1, h2⟩ := isC_obj I z
        rw [sm _ _ (expo_in z h1)] at q
        exact n _ (Option.some.inj q).symm
      exact (hok b o e).stay (fun _ _ _ q => q) (fun d q => by rw [unexpo_out (nx d _ q fun _ z => by cases z)]; exact q) fun d xs q => by rw [unexpo_out (nx d _ q fun _ z => by cases z)]; exact q
theorem code_cell {P : Program} {w : World} {h : Heap} {c : Addr} {o : Obj} {q : Str} {v : Option Value} (hok : HOk P w H' h) (e1 : H' c = some (CellX c o)) (e2 : H' c = some (LamX.CodeO c q)) (hd : o.data = .cell v) : False := by
  obtain ⟨z1, _, _⟩ := hok c _ e1
  obtain ⟨⟨oc, vs, t, z2, z3, _⟩, _, _⟩ := hok c _ e2
  rw [z1] at z2
  cases z2
  rw [hd] at z3
  cases z3
theorem same_back (I : L2.Inv X pins σ H s) (hok : HOk X.prog X.w H' s'.heap) (sm : Same (expo X s.heap H) H') : Same H (unexpo X H') := by
  refine ⟨fun b o e n => ?_, fun P t => ?_⟩
  · rw [unexpo_out (not_isC I e)]
    exact sm.o b o (expo_ext I b o e) n
  · obtain ⟨ps, h1, h2, h3⟩ := sm.t P (t.ext (expo_ext I))
    refine ⟨ps, ?_, h2, fun pos cv hc => ?_⟩
    · rw [unexpo_out (fun z => by
        obtain ⟨ob, v, g1, g2⟩ := isC_obj I z
        rw [sm _ _ (expo_in z g1)] at h1
        cases h1)]
      exact h1
    · obtain ⟨c, e1, e2⟩ := h3 pos cv hc
      refine ⟨c, e1, ?_⟩
      rw [unexpo_out (fun z => by
        obtain ⟨ob, v, g1, g2⟩ := isC_obj I z
        exact code_cell hok (sm _ _ (expo_in z g1)) e2 g2)]
      exact e2
/-- a def is called, the frame's cells told to it; it returns -/
theorem call_expo {ec : Nat → Addr} {j : Nat} {g : Addr} {fd : FuncData} {ps : List Str} {m : List D → Rs D} {us : List Value} {vs : List V} {ds : List D} {d : D} {Q : VK} (I : L2.Inv X pins σ H s) (hfn : ∀ x, X.fn x = true) (F : FnOk X.prog X.w X.K X.mg X.base (L2.CX X.prog X.w) j g fd ps (spD X.K ec m)) (hb : Binds X.K fd ps []) (hr : Room j X.A)
    (r : Vals vs us) (ta : AllTab X.K H) (hds : RpAll X.K (expo X s.heap H) vs ds) (hm : m ds = .ok d) (hQ : ∀ v H', Same H (unexpo X H') → Rp X.K H' v d → Q v (unexpo X H')) : wpAny (model X.prog X.w) X.A (call (.ref g) us) (EP X pins σ Q) X.xe s := by
  have hsp : spD X.K ec m vs (expo X s.heap H) (fun v H' => Same (expo X s.heap H) H' ∧ Rp X.K H' v d) (fun _ _ _ => False) := ⟨ta.mono (same_expo I), ds, hds, by rw [hm]; exact fun v H' s r => ⟨s, r⟩⟩
  have hl : us.length = ps.length := by rw [← r.length]; exact F.len _ _ _ _ hsp
  have b := hb s us I.kIn (by rw [List.append_nil]; exact hl)
  rw [List.append_nil] at b
  refine wpAny_call (codeAny_mono (F.run X.A X.stack s _ ⟨us, []⟩ us vs _ _ hr (env0_expo I hfn) b r hsp) fun r s' hq => ?_)
  cases r with
  | error e =>
    obtain ⟨_, _, _, _, _, _, _, _, _, _, _, _, z⟩ := hq
    exact z.elim
  | ok fl =>
    cases fl with
    | ret u =>
      obtain ⟨v, H', os, bare, un, hok, r', sm, rv⟩ := hq
      exact ⟨v, _, back_expo I os bare un hok sm, r', hQ v H' (same_back I hok sm) rv⟩
    | next => exact False.elim hq
    | brk => exact False.elim hq
    | cont => exact False.elim hq
end
/-! ### a lambda is made -/
theorem among_app2 {pos p' : Pos} {c cv : Value} (l : List Value) (h : TriplesOk l) (hc : codeAmong p' (l ++ [rawInt pos.line, rawInt pos.col, c]) = some cv) : codeAmong p' l = some cv ∨ cv = c ∧ p'.line = pos.line := by
  fun_induction TriplesOk l with
  | case1 =>
    simp only [List.nil_append, rawInt, codeAmong] at hc
    split at hc
    · rename_i q
      rw [Bool.and_eq_true] at q
      have q1 : (pos.line : Int) = p'.line := by simpa using q.1
      exact .inr ⟨(Option.some.inj hc).symm, (Int.ofNat.inj q1).symm⟩
    · cases hc
  | case2 a t b u x rest ih =>
    simp only [List.cons_append, codeAmong] at hc ⊢
    split at hc
    · rename_i q
      rw [if_pos q]
      exact .inl hc
    · rename_i q
      rw [if_neg q]
      exact ih h hc
  | case3 l h1 h2 => exact h.elim
section
variable {X : Cx} {pins : List (Addr × Obj)} {σ : L2.St} {H : Hp} {s : Shared}
theorem lam_make3 {c P : Addr} {L : LamD} {pos : Pos} {Q E : Value → Shared → Prop} (I : L2.Inv X pins σ H s) (TB : LamX.TabB X.base X.mg c P) (hcode : X.env.code = .ref c) (hT : TabP H P) (hq : L.qual = X.env.qual ++ "<lambda>") (hl : qOf pos.line = L.qual) (hdef : defaultsOf L.params X.env = ([], [])) (hfree : ∀ y ∈ L.scope.names, y.2 = .free → ∃ c, X.env.cells.lookup y.1 = some c)
    (h : ∀ (f c' : Addr) (H1 : Hp) (s' : Shared), L2.Inv X pins σ H1 s' → Same H H1 → H1 f = some (FunO f L (cloFrom X.env.cells L.scope.names []) c') → H1 c' = some (LamX.CodeO c' L.qual) → Q (.ref f) s') :
    wpAny (model X.prog X.w) X.A (eval (.Lambda L.params L.body L.scope pos) X.env) Q E s := by
  obtain ⟨ps, hP, ht, ha⟩ := hT
  refine PySem.W.kla_eval hdef ?_
  rw [← hq]
  have bP : s.heap.BuiltinsAt X.mg P := TB.bm.keeps I.bk
  have hP' : s.heap.get? P = some { cls := .none, data := .fields ps } := I.hok P _ hP
  have okF : ∀ {H1 : Hp} {h' : Heap} {f c' : Addr} {pm ctv : Value}, h'.get? f = some (PySem.W.kla_obj "<lambda>" L.qual L.params L.body L.scope (cloFrom X.env.cells L.scope.names []) pm c' ctv) → ObjOk X.prog X.w H1 h' f (FunO f L (cloFrom X.env.cells L.scope.names []) c') := fun {H1 h' f c' pm ctv} e => ⟨⟨pm, ctv, e⟩, ⟨_, e⟩, fun h1 h2 ⟨pm, ctv, q⟩ k => ⟨pm, ctv, k _ q⟩⟩
  cases hc : codeAmong pos ps.toList with
  | none =>
    refine PySem.W.kla_makeFunction (mg := X.mg) (c := c) (P := P) (ps := ps) (closure_ok hfree) I.ok.glob (I.mod.glob.keeps I.bk) hcode (TB.code.keeps I.bk) hP' ht hc TB.gP bP fun c' ctv h' tk hx hge hlt hrec htb => ?_
    obtain ⟨c2, oc, vs, t, e2, hoc, hd, hv⟩ := hrec
    cases e2
    have hsz : s.heap.objs.size ≤ h'.objs.size := Nat.le_trans hge (Nat.le_of_lt hlt)
    have nC : H c' = none := I.hok.fresh hge
    have I1 := LamX.inv_table (t' := tk) (q := L.qual) (more := #[rawInt pos.line, rawInt pos.col, .ref c']) (h' := h') I hP hx htb hge ⟨oc, vs, t, hoc, hd, hv⟩
    have I2 := I1.laid (h' := h'.push (PySem.W.kla_obj "<lambda>" L.qual L.params L.body L.scope (cloFrom X.env.cells L.scope.names []) ((X.mg "__name__").getD .none) c' ctv)) (t' := tk) (a := h'.objs.size) (o := FunO h'.objs.size L (cloFrom X.env.cells L.scope.names []) c') (fun b u e => Heap.get?_push_of_some _ e) (Nat.le_refl _) (okF (Heap.get?_push_size _ rfl))
    have nF : upd (upd H P (.tbl (ps ++ #[rawInt pos.line, rawInt pos.col, .ref c']))) c' (LamX.CodeO c' L.qual) h'.objs.size = none := I1.hok.fresh (Nat.le_refl _)
    have nPc : P ≠ c' := ne_of_none hP nC
    have fc : h'.objs.size ≠ c' := Nat.ne_of_gt hlt
    have fP : h'.objs.size ≠ P := Nat.ne_of_gt (Nat.lt_of_lt_of_le (Heap.lt_size hP') hsz)
    have eL : (ps ++ #[rawInt pos.line, rawInt pos.col, .ref c']).toList = ps.toList ++ [rawInt pos.line, rawInt pos.col, .ref c'] := by simp
    have hs : ∀ b o, H b = some o → b ≠ P → upd (upd (upd H P (.tbl (ps ++ #[rawInt pos.line, rawInt pos.col, .ref c']))) c' (LamX.CodeO c' L.qual)) h'.objs.size (FunO h'.objs.size L (cloFrom X.env.cells L.scope.names []) c') b = some o := fun b o e nb => by
      have n1 : b ≠ c' := ne_of_none e nC
      have e1 : upd (upd H P (.tbl (ps ++ #[rawInt pos.line, rawInt pos.col, .ref c']))) c' (LamX.CodeO c' L.qual) b = some o := by rw [upd_ne n1, upd_ne nb]; exact e
      rw [upd_ne (ne_of_none e1 nF)]
      exact e1
    have hC : upd (upd (upd H P (.tbl (ps ++ #[rawInt pos.line, rawInt pos.col, .ref c']))) c' (LamX.CodeO c' L.qual)) h'.objs.size (FunO h'.objs.size L (cloFrom X.env.cells L.scope.names []) c') c' = some (LamX.CodeO c' L.qual) := by rw [upd_ne (Ne.symm fc), upd_same]
    refine h h'.objs.size c' _ _ I2 ⟨fun b o e n => hs b o e fun z => ?_, fun P' t' => ?_⟩ upd_same hC
    · rw [z, hP] at e
      cases e
      cases n
    · by_cases hPP : P' = P
      · subst hPP
        refine ⟨_, by rw [upd_ne (Ne.symm fP), upd_ne nPc, upd_same], by rw [eL]; exact PySem.TriplesOk_snoc _ _ _ _ ht, fun p' cv hcv => ?_⟩
        rw [eL] at hcv
        rcases among_app2 _ ht hcv with z | ⟨z, zl⟩
        · obtain ⟨c0, e1, e2⟩ := ha p' cv z
          exact ⟨c0, e1, hs _ _ e2 fun w => by rw [w, hP] at e2; cases e2⟩
        · refine ⟨c', z, ?_⟩
          rw [zl, hl]
          exact hC
      · obtain ⟨ps2, g1, g2, g3⟩ := t'
        refine ⟨ps2, hs _ _ g1 hPP, g2, fun p' cv hcv => ?_⟩
        obtain ⟨c0, e1, e2⟩ := g3 p' cv hcv
        exact ⟨c0, e1, hs _ _ e2 fun w => by rw [w, hP] at e2; cases e2⟩
  | some cv =>
    obtain ⟨c', e, hco⟩ := ha pos cv hc
    subst e
    rw [hl] at hco
    refine PySem.W.kla_makeFunctionHit (mg := X.mg) (c := c) (P := P) (ps := ps) (closure_ok hfree) I.ok.glob (I.mod.glob.keeps I.bk) hcode (TB.code.keeps I.bk) hP' ht hc bP fun ctv h' tk hx hsz => ?_
    have I1 : L2.Inv X pins σ H { s with heap := h', toks := tk } := I.kept fun b o e => hx b o e
    have I2 := I1.laid (h' := h'.push (PySem.W.kla_obj "<lambda>" L.qual L.params L.body L.scope (cloFrom X.env.cells L.scope.names []) ((X.mg "__name__").getD .none) c' ctv)) (t' := tk) (a := h'.objs.size) (o := FunO h'.objs.size L (cloFrom X.env.cells L.scope.names []) c') (fun b u e => Heap.get?_push_of_some _ e) (Nat.le_refl _) (okF (Heap.get?_push_size _ rfl))
    have nF : H h'.objs.size = none := I1.hok.fresh (Nat.le_refl _)
    have sm : Same H (upd H h'.objs.size (FunO h'.objs.size L (cloFrom X.env.cells L.scope.names []) c')) := same_new nF
    exact h h'.objs.size c' _ _ I2 sm upd_same (sm _ _ hco)
end
/-- the lambda's text, its maker -/
structure LamAt (X : Cx) (x : Str) (L : LamD) (pos : Pos) : Prop where
  mem : x ∈ lamDefs
  hd : PySem.W.codeHdIn X.K (He.cT X.K (x, none)).1 (tabA X.K x) = true
  tb : LamX.TabB X.base X.mg (He.cT X.K (x, none)).1 (tabA X.K x)
  code : X.env.code = .ref (He.cT X.K (x, none)).1
  qual : L.qual = X.env.qual ++ "<lambda>"
  line : qOf pos.line = L.qual
  dfl : defaultsOf L.params X.env = ([], [])
  ls : LamX.LamS X.env.scope L.scope
section
variable {X : Cx} {W : Wsh} {x : Str} {L : LamD} {pos : Pos}
theorem e_lam (is : List Nat) (A : LamAt X x L pos) : PE X (.Lambda L.params L.body L.scope pos) (tE X.K W (eC (.lam L is X.env.cells))) := by
  refine ⟨fun pins s σ H Q I h => ?_⟩
  obtain ⟨ρ, rr, h⟩ := h
  refine lam_make3 I A.tb A.code (rr.1.2 x A.mem A.hd) A.qual A.line A.dfl (A.ls.has I.ok) fun f c' H1 s' I1 sm h1 h2 => ?_
  exact ⟨.ref f, H1, I1, rfl, h _ _ sm (.lam h1 h2)⟩
end
end PB

namespace PB
open PySem PySem.Spec PyProof.Rows L2

/-! ### a lambda that stands in a name is called -/
abbrev envL (L : LamD) (cl : List (Str × Addr)) (a f c' : Addr) : Env := PySem.W.envX L.qual L.scope a f (.ref c') cl
def cxL (P : Program) (w : World) (K : PySem.W.Frag) (mg : Str → Option Value) (base : Heap) (L : LamD) (cl : List (Str × Addr)) (A : Around) (outer : List Env) (s : Shared) (H : Hp) (E : XK) (f c' : Addr) : Cx where
  prog := P
  w := w
  K := K
  mg := mg
  base := base
  A := A.deeper (envL L cl s.heap.objs.size f c')
  N := L.fv
  s_0 := s
  H_0 := H
  env := envL L cl s.heap.objs.size f c'
  outer := outer
  stack := envL L cl s.heap.objs.size f c' :: outer
  ex := []
  fn := fun _ => false
  calm := true
  pn := []
  xe := fun e s' => wpAny (model P w) (A.deeper (envL L cl s.heap.objs.size f c')) (leaving (envL L cl s.heap.objs.size f c') e) (fun _ s'' => L2.CX P w outer H s E e s'') (fun e' s'' => L2.CX P w outer H s E e' s'') s'
structure LamOk (P : Program) (w : World) (K : PySem.W.Frag) (mg : Str → Option Value) (base : Heap) (ec : Nat → Addr) (k : Nat) (L : LamD) (F : Sl → Rs D) : Prop where
  kind : L.scope.kind = .function
  co : L.scope.isCoroutine = false
  gen : L.scope.isGenerator = false
  own : ∀ y ∈ L.scope.names, y.2 ≠ .local ∧ y.2 ≠ .cell
  fr : ∀ y ∈ L.scope.names, y.2 = .free → y.1 ∈ L.fv
  nd : L.fv.Nodup
  bind : ∀ (cl : List (Str × Addr)) (pm cv ctv : Value), bindArgs (PySem.W.kla_fn "<lambda>" L.qual L.params L.body L.scope cl pm cv ctv) ⟨[], []⟩ = pure []
  body : ∀ (A : Around) (outer : List Env) (s : Shared) (H : Hp) (E : XK) (W : Wsh) (f c' : Addr) (cl : List (Str × Addr)), Room k (A.deeper (envL L cl s.heap.objs.size f c')) → Takes (cxL P w K mg base L cl A outer s H E f c') (wx ec W) → PE (cxL P w K mg base L cl A outer s H E f c') L.body (tE K W F)
section
variable {K : PySem.W.Frag} {H : Hp}
theorem RpCl.at {cl : List (Str × Addr)} {ds : List D} (h : RpCl K H cl ds) : ∀ p ∈ cl, ∃ o u, H p.2 = some (CellX p.2 o) ∧ o.data = .cell (some u) := by
  induction cl generalizing ds with
  | nil => intro p hp; simp at hp
  | cons q cl ih =>
    cases h with
    | cons h1 h2 h3 h4 h5 =>
      intro p hp
      rcases List.mem_cons.mp hp with rfl | hp
      · exact ⟨_, _, h1, h2⟩
      · exact ih h5 p hp
theorem RpCl.vals {cl : List (Str × Addr)} {ds : List D} (h : RpCl K H cl ds) : ∃ vs : List V, RpAll K H vs ds ∧ vs.length = cl.length ∧ ∀ (i : Nat) (y : Str) (c : Addr) (v : V), cl[i]? = some (y, c) → vs[i]? = some v → ∃ o u, H c = some (CellX c o) ∧ o.data = .cell (some u) ∧ RelV v u := by
  induction cl generalizing ds with
  | nil => cases h; exact ⟨[], .nil, rfl, fun i y c v e => by simp at e⟩
  | cons q cl ih =>
    cases h with
    | @cons y c o u v d cl ds h1 h2 h3 h4 h5 =>
      obtain ⟨vs, a, b, k⟩ := ih h5
      refine ⟨v :: vs, .cons h4 a, by simp [b], fun i y' c' v' e1 e2 => ?_⟩
      cases i with
      | zero => simp at e1 e2; obtain ⟨rfl, rfl⟩ := e1; subst e2; exact ⟨o, u, h1, h2, h3⟩
      | succ i => exact k i y' c' v' (by simpa using e1) (by simpa using e2)
end
/-- data that no cell, no table is part of -/
theorem sim3_hide {K : PySem.W.Frag} {H : Hp} {as : List Addr} (h : ∀ a ∈ as, ∃ φ, H a = some (.ext φ)) : Sim3 K H (hide as H) where
  l := fun a xs e => by rw [hide_out (fun z => by obtain ⟨φ, q⟩ := h a z; rw [q] at e; cases e)]; exact e
  t := fun a xs e => by rw [hide_out (fun z => by obtain ⟨φ, q⟩ := h a z; rw [q] at e; cases e)]; exact e
  s := fun a xs e => by
    rcases e with (e | ⟨o, e⟩) | e
    · exact .inl (.inl (by rw [hide_out (fun z => by obtain ⟨φ, q⟩ := h a z; rw [q] at e; cases e)]; exact e))
    · exact .inl (.inr ⟨o, by rw [hide_out (fun z => by obtain ⟨φ, q⟩ := h a z; rw [q] at e; cases e)]; exact e⟩)
    · exact .inr e
  i := fun a C dx fs e => by rw [hide_out (fun z => by obtain ⟨φ, q⟩ := h a z; rw [q] at e; cases e)]; exact e
  w := fun a x e => by rw [hide_out (fun z => by obtain ⟨φ, q⟩ := h a z; rw [q] at e; cases e)]; exact e
theorem lookup_of {α : Type} : ∀ {l : List (Str × α)} {i : Nat} {y : Str} {c : α}, (l.map Prod.fst).Nodup → l[i]? = some (y, c) → l.lookup y = some c
  | (k, v) :: r, 0, y, c, nd, e => by simp at e; obtain ⟨rfl, rfl⟩ := e; simp [List.lookup]
  | (k, v) :: r, i + 1, y, c, nd, e => by
    rw [List.map_cons, List.nodup_cons] at nd
    have e' : r[i]? = some (y, c) := by simpa using e
    have hne : y ≠ k := fun z => nd.1 (by rw [← z]; exact List.mem_map.2 ⟨(y, c), List.mem_of_getElem? e', rfl⟩)
    rw [List.lookup_cons]
    have : (y == k) = false := by simpa using hne
    rw [this]
    exact lookup_of nd.2 e'
theorem snd_inj {l : List (Str × Addr)} (nd : (l.map Prod.snd).Nodup) {x y : Str} {c : Addr} (h1 : (x, c) ∈ l) (h2 : (y, c) ∈ l) : x = y := by
  induction l with
  | nil => simp at h1
  | cons p l ih =>
    rw [List.map_cons, List.nodup_cons] at nd
    rcases List.mem_cons.mp h1 with e1 | h1
    · rcases List.mem_cons.mp h2 with e2 | h2
      · rw [← e1] at e2; exact (Prod.mk.inj e2).1.symm
      · exact absurd (List.mem_map.2 ⟨_, h2, by rw [← e1]⟩) nd.1
    · rcases List.mem_cons.mp h2 with e2 | h2
      · exact absurd (List.mem_map.2 ⟨_, h1, by rw [← e2]⟩) nd.1
      · exact ih nd.2 h1 h2
section
variable {P : Program} {w : World} {K : PySem.W.Frag} {mg : Str → Option Value} {base : Heap} {ec : Nat → Addr} {k : Nat} {L : LamD} {F : Sl → Rs D} {A : Around} {outer : List Env} {s : Shared} {H : Hp} {E : XK} {f c' : Addr} {cl : List (Str × Addr)} {ds : List D} {vs : List V}
abbrev cad (cl : List (Str × Addr)) : List Addr := cl.map Prod.snd
theorem cad_ext (h : RpCl K H cl ds) : ∀ a ∈ cad cl, ∃ o u, H a = some (CellX a o) ∧ o.data = .cell (some u) := fun a ha => by
  obtain ⟨p, hp, rfl⟩ := List.mem_map.1 ha
  exact h.at p hp
theorem tab_hideC {h : Heap} {as : List Addr} {P' : Addr} (hok : HOk P w H h) (hx : ∀ a ∈ as, ∃ o u, H a = some (CellX a o) ∧ o.data = .cell (some u)) (t : TabP H P') : TabP (hide as H) P' := by
  obtain ⟨ps, h1, h2, h3⟩ := t
  refine ⟨ps, ?_, h2, fun pos cv hc => ?_⟩
  · rw [hide_out (fun z => by obtain ⟨o, u, q, _⟩ := hx P' z; rw [q] at h1; cases h1)]; exact h1
  · obtain ⟨c, e1, e2⟩ := h3 pos cv hc
    refine ⟨c, e1, ?_⟩
    rw [hide_out (fun z => by obtain ⟨o, u, q, d⟩ := hx c z; exact code_cell hok q e2 d)]; exact e2
theorem hok_hideX {h : Heap} {as : List Addr} (hok : HOk P w H h) (hx : ∀ a ∈ as, ∃ φ, H a = some (.ext φ)) : HOk P w (hide as H) h := fun b o e => by
  by_cases hb : b ∈ as
  · rw [hide_in hb] at e; cases e
  · rw [hide_out hb] at e
    exact (hok b o e).stay (fun _ _ _ q => q) (fun d q => by rw [hide_out (fun z => by obtain ⟨φ, q2⟩ := hx d z; rw [q2] at q; cases q)]; exact q) fun d xs q => by rw [hide_out (fun z => by obtain ⟨φ, q2⟩ := hx d z; rw [q2] at q; cases q)]; exact q
theorem hok_putX {h h' : Heap} {H1 : Hp} {as : List Addr} (hok : HOk P w H1 h') (hx : ∀ a ∈ as, ∃ o u, H a = some (CellX a o) ∧ o.data = .cell (some u) ∧ h'.get? a = some o) (hn : ∀ a ∈ as, H1 a = none) : HOk P w (put as H H1) h' := fun b o e => by
  have p1 : ∀ d u, H1 d = some u → put as H H1 d = some u := fun d u q => by
    rw [put_out (fun z => by rw [hn d z] at q; cases q)]; exact q
  by_cases hb : b ∈ as
  · rw [put_in hb] at e
    obtain ⟨oc, u, q1, q2, q3⟩ := hx b hb
    rw [q1] at e
    cases e
    exact ⟨q3, ⟨_, q3⟩, fun h1 h2 z k => k _ z⟩
  · rw [put_out hb] at e
    exact (hok b o e).stay (fun _ _ _ q => q) (fun d q => p1 _ _ q) fun d xs q => p1 _ _ q
theorem lam_start3 {h₁ : Heap} {tk : Nat} (lo : LamOk P w K mg base ec k L F) (e0 : Env0 P w K mg base A outer s H) (hd : A.handled = none) (hfv : cl.map Prod.fst = L.fv) (hnd : (cad cl).Nodup) (rc : RpCl K H cl ds) (hl : vs.length = cl.length)
    (hv : ∀ (i : Nat) (y : Str) (c : Addr) (v : V), cl[i]? = some (y, c) → vs[i]? = some v → ∃ o u, H c = some (CellX c o) ∧ o.data = .cell (some u) ∧ RelV v u)
    (hns : h₁.Ns s.heap.objs.size fun y => ([] : List (Str × Value)).reverse.lookup y) (kp : ∀ b o, s.heap.get? b = some o → h₁.get? b = some o) :
    L2.Inv (cxL P w K mg base L cl A outer s (hide (cad cl) H) E f c') [] (vs.map some) (hide (cad cl) H) { s with heap := h₁, toks := tk } := by
  have hx := cad_ext rc
  have hxe : ∀ a ∈ cad cl, ∃ φ, H a = some (.ext φ) := fun a ha => by
    obtain ⟨o, u, q, _⟩ := hx a ha
    exact ⟨_, q⟩
  have hn : ∀ b, H b = none → hide (cad cl) H b = none := fun b e => by
    by_cases hb : b ∈ cad cl
    · exact hide_in hb
    · rw [hide_out hb]; exact e
  have noA : ∀ b : Addr, b ∉ (cxL P w K mg base L cl A outer s (hide (cad cl) H) E f c').ex := fun b z => absurd (show b ∈ ([] : List Addr) from z) (by simp)
  have nd1 : (cl.map Prod.fst).Nodup := by rw [hfv]; exact lo.nd
  have mem : ∀ {y c}, cl.lookup y = some c → (y, c) ∈ cl := fun e => PySem.mem_of_lookup e
  have cellAt : ∀ y c, cl.lookup y = some c → ∃ v, h₁.IsCell c v := fun y c e => by
    obtain ⟨o, u, q1, q2⟩ := rc.at _ (mem e)
    exact ⟨some u, o, kp _ _ (e0.hok c _ q1).1, q2⟩
  refine ⟨⟨e0.mod, lo.kind, rfl, rfl, Nat.le_refl _, fun y z c e1 e2 => snd_inj hnd (mem e1) (mem e2), fun y hy => ?_, fun y c z _ => (by cases z), fun _ => hd, Around.frames_deeper e0.frames, .inr ⟨rfl, rfl⟩, fun b z => absurd z (noA b), fun b o e => ⟨(e0.bs b o e).1, hn b (e0.bs b o e).2⟩, e0.bsz, fun b _ _ => noA b,
      fun b z => absurd z (noA b), e0.funs, fun b hb => hn b (e0.frf b hb)⟩,
    rfl, e0.bare, Un.kept kp, ⟨_, hns, fun i y v e1 e2 e3 => ?_⟩, fun y c e => cellAt y c e, hn _ (e0.hok.fresh (Nat.le_refl _)), fun y c e => hide_in (List.mem_map.2 ⟨_, mem e, rfl⟩), fun q hq => absurd (show q ∈ ([] : List (Addr × Obj)) ++ [] from hq) (by simp), (hok_hideX e0.hok hxe).kept kp, ?_⟩
  · have hy : L.scope.names.lookup y = some .cell ∨ L.scope.names.lookup y = some .free := hy
    rcases hy with hy | hy
    · exact absurd rfl (lo.own _ (PySem.mem_of_lookup hy)).2
    · have := lo.fr _ (PySem.mem_of_lookup hy) rfl
      rw [← hfv] at this
      obtain ⟨p, hp, ep⟩ := List.mem_map.1 this
      have ep : p.1 = y := ep
      exact L2.mem_lookup (n := y) (c := p.2) (show (y, p.2) ∈ cl by rw [← ep]; exact hp)
  · have e3 : Vis L.scope y := e3
    have e1 : L.fv[i]? = some y := e1
    rw [← hfv, List.getElem?_map] at e1
    rw [List.getElem?_map] at e2
    cases hc : cl[i]? with
    | none => rw [hc] at e1; cases e1
    | some p =>
      rw [hc] at e1
      cases hvi : vs[i]? with
      | none => rw [hvi] at e2; cases e2
      | some v' =>
        rw [hvi] at e2
        have ev : v' = v := by simpa using e2
        subst ev
        have ep : p.1 = y := by simpa using e1
        obtain ⟨y', c⟩ := p
        have ep : y' = y := ep
        subst ep
        obtain ⟨o, u, q1, q2, q3⟩ := hv i y' c v' hc hvi
        rcases e3 with z | z | z
        · exact absurd rfl (lo.own _ (PySem.mem_of_lookup z)).1
        · exact absurd rfl (lo.own _ (PySem.mem_of_lookup z)).2
        · exact ⟨u, q3, .inr ⟨.inr z, c, lookup_of nd1 hc, o, kp _ _ (e0.hok c _ q1).1, q2⟩⟩
  · show (vs.map some).length = L.fv.length
    rw [List.length_map, hl, ← hfv, List.length_map]
end
def eCallC (β : LamD → List D → Rs D) (i : Nat) : Sl → Rs D := fun ρ => match ρ[i]? with
  | some (some (.clo L ds)) => if ndcs ds = true then β L ds else .bad
  | _ => .bad
section
variable {P : Program} {w : World} {K : PySem.W.Frag} {outer : List Env} {s s' : Shared} {H H1 : Hp} {as : List Addr}
/-- back in the frame that called, the cells as before -/
theorem un_put (un : Un (frs outer) [] (hide as H) H1 s.heap s'.heap) (hx : ∀ a ∈ as, ∃ o u, H a = some (CellX a o) ∧ o.data = .cell (some u)) : Un (frs outer) [] H (put as H H1) s.heap s'.heap := by
  have nb : ∀ b, H b = none → b ∉ as := fun b e z => by obtain ⟨o, u, q, _⟩ := hx b z; rw [q] at e; cases e
  have nt : ∀ b o, H b = some o → (∀ φ, o ≠ .ext φ) → b ∉ as := fun b o e n z => by
    obtain ⟨oc, u, q, _⟩ := hx b z
    rw [q] at e
    exact n _ (Option.some.inj e).symm
  refine ⟨fun b o e n hb hx' => un.keep b o e (by rw [hide_out (nb b n)]; exact n) hb hx', fun b o e n hb hx' => un.slot b o e (by rw [hide_out (nb b n)]; exact n) hb hx', fun b o e n hx' => ?_, un.there, fun b xs e => ?_, fun b o u e => ?_, fun b ps e => ?_⟩
  · rw [put_out (nb b n)]
    exact un.free b o e (by rw [hide_out (nb b n)]; exact n) hx'
  · have z := nt b _ e fun _ z => by cases z
    rw [put_out z]
    exact un.tups b xs (by rw [hide_out z]; exact e)
  · have z := nt b _ e fun _ z => by cases z
    rw [put_out z]
    exact un.frzs b o u (by rw [hide_out z]; exact e)
  · have z := nt b _ e fun _ z => by cases z
    rw [put_out z]
    exact un.tbls b ps (by rw [hide_out z]; exact e)
theorem cx_put {E : XK} {u : Value} (hok0 : HOk P w H s.heap) (frf : ∀ b ∈ frs outer, H b = none) (hx : ∀ a ∈ as, ∃ o u, H a = some (CellX a o) ∧ o.data = .cell (some u))
    (c : L2.CX P w outer (hide as H) s (fun cls d H' => (∀ b ∈ as, H' b = none) → E cls d (put as H H')) u s') : L2.CX P w outer H s E u s' := by
  obtain ⟨a, B, H', cls, d, rfl, fl, hok, ub, na, os, ag, hE⟩ := c
  have nb : ∀ b, H b = none → b ∉ as := fun b e z => by obtain ⟨o, u, q, _⟩ := hx b z; rw [q] at e; cases e
  have nt : ∀ b o, H b = some o → (∀ φ, o ≠ .ext φ) → b ∉ as := fun b o e n z => by
    obtain ⟨oc, u, q, _⟩ := hx b z
    rw [q] at e
    exact n _ (Option.some.inj e).symm
  have nf : ∀ b ∈ as, b ∉ frs outer := fun b hb z => nb b (frf b z) hb
  have hn : ∀ b ∈ as, H' b = none := fun b hb => by
    obtain ⟨o, u, q, _⟩ := hx b hb
    exact ub.free b o (hok0 b _ q).1 (hide_in hb)
  have hB : ∀ b ∈ as, ∃ o u, H b = some (CellX b o) ∧ o.data = .cell (some u) ∧ B.get? b = some o := fun b hb => by
    obtain ⟨o, u, q, q2⟩ := hx b hb
    exact ⟨o, u, q, q2, ub.keep b o (hok0 b _ q).1 (hide_in hb) (nf b hb)⟩
  refine ⟨a, B, put as H H', cls, d, rfl, fl, hok_putX (h := B) hok hB hn, ⟨fun b o e n hb => ub.keep b o e (by rw [hide_out (nb b n)]; exact n) hb, ub.slot, fun b o e n => ?_, ub.there, fun b xs e => ?_, fun b o u e => ?_, fun b ps e => ?_⟩, ?_, os, ag, hE hn⟩
  · rw [put_out (nb b n)]
    exact ub.free b o e (by rw [hide_out (nb b n)]; exact n)
  · have z := nt b _ e fun _ z => by cases z
    rw [put_out z]
    exact ub.tups b xs (by rw [hide_out z]; exact e)
  · have z := nt b _ e fun _ z => by cases z
    rw [put_out z]
    exact ub.frzs b o u (by rw [hide_out z]; exact e)
  · have z := nt b _ e fun _ z => by cases z
    rw [put_out z]
    exact ub.tbls b ps (by rw [hide_out z]; exact e)
  · rw [put_out (fun z => by
      obtain ⟨o, u, _, _, q⟩ := hB a z
      rw [fl.2.1] at q
      cases q)]
    exact na
end
section
variable {X : Cx} {W : Wsh} {ec : Nat → Addr} {k : Nat}
theorem e_callC {a : Str} {i : Nat} {p1 p2 : Pos} {β : LamD → List D → Rs D} (hβ : ∀ L ds, β L ds = .bad ∨ ∃ F, LamOk X.prog X.w X.K X.mg X.base ec k L F ∧ β L ds = F (ds.map some)) (hr : Room (k + 1) X.A) (tk : Takes X (wx ec W))
    (hN : X.N[i]? = some a := by rfl) (hv : Vis X.env.scope a := by first | exact Or.inl rfl | exact Or.inr (Or.inl rfl) | exact Or.inr (Or.inr rfl)) (hd : (a == ("__debug__" : Str)) = false := by decide) (hcd : (a == ("__classdict__" : Str)) = false := by decide) :
    PE X (.Call (.Name a p1) [] [] p2) (tE X.K W (eCallC β i)) := by
  refine ⟨fun pins s σ H Q I h => ?_⟩
  obtain ⟨ρ, rr, h⟩ := h
  unfold eCallC at h
  cases e : ρ[i]? with
  | none => rw [e] at h; exact h.elim
  | some o =>
    rw [e] at h
    cases o with
    | none => exact h.elim
    | some dv =>
      cases dv with
      | clo L ds =>
        have h : cs (if ndcs ds = true then β L ds else .bad) (fun d => ∀ v H', Same H H' → Rp X.K H' v d → Q v H') (fun c => ∀ H', Same H H' → W c σ H') := h
        by_cases hnd : ndcs ds = true
        · rw [if_pos hnd] at h
          rcases hβ L ds with z | ⟨F, lo, eF⟩
          · rw [z] at h; exact h.elim
          · rw [eF] at h
            obtain ⟨v, hs, rv⟩ := rr.2 i _ e
            cases rv with
            | @clo f c' cl _ _ hf hc hcl rc =>
              refine wpAny_Call_Name_kw (thn ((pe_var (pos := p1) (i := i) hN hv hd hcd).run pins s σ H (fun v H1 => v = .ref f ∧ H1 = H) I ⟨.ref f, hs, rfl, rfl⟩) fun u s1 ⟨v, H1, I1, r1, q1⟩ => ?_)
              obtain ⟨ev, eH⟩ := q1
              subst ev
              subst eH
              obtain rfl : u = Value.ref f := r1
              obtain ⟨⟨pm, ctv, of1⟩, _, _⟩ := I1.hok f _ hf
              obtain ⟨⟨oc, vc, t, hoc, hdc, hvc⟩, _, _⟩ := I1.hok c' _ hc
              refine PySem.W.callWith_F0 ⟨_, _, _, _, of1⟩ ?_
              obtain ⟨vs, rvs, hlen, hat⟩ := rc.vals
              have hx := cad_ext rc
              have hxe : ∀ a ∈ cad cl, ∃ φ, H1 a = some (.ext φ) := fun a ha => by
                obtain ⟨o, u, q, _⟩ := hx a ha
                exact ⟨_, q⟩
              have e0 := I1.env0
              have rcd : codeAny (model X.prog X.w) X.A (.call (.ref f) ⟨[], []⟩) (CR (L2.CX X.prog X.w) X.stack X.prog X.w H1 s1 Q (fun cls d H' => wx ec W cls d σ H')) s1 := by
                refine PySem.W.kla_callFunE hr.depth of1 rfl lo.co lo.gen rfl ⟨c', oc, vc, t, rfl, hoc, hdc, hvc⟩ ?_
                rw [lo.bind]
                refine wpAny_pure (wpAny_newFunctionEnv (fun y hy => (lo.own y hy).2) (fun y hy => absurd hy (by simp)) (fun h₁ hns hsb => ⟨I1.nolimit.fresh _ hsb, ?_⟩) lo.kind)
                show codeAny _ _ (.expr L.body (envL L cl s1.heap.objs.size f c')) _ _
                have kp : ∀ b o, s1.heap.get? b = some o → h₁.get? b = some o := fun b o e => hsb.extBut b o (Nat.ne_of_lt (Heap.lt_size e)) (Heap.get?_push_of_some _ e)
                have J := lam_start3 (E := fun cls d H' => (∀ b ∈ cad cl, H' b = none) → wx ec W cls d σ (put (cad cl) H1 H')) (f := f) (c' := c') (tk := s1.toks + ([] : List (Str × Value)).length) lo e0 hr.hd hcl.1 hcl.2 rc hlen hat hns kp
                have bd := lo.body X.A X.stack s1 (hide (cad cl) H1) (fun cls d H' => (∀ b ∈ cad cl, H' b = none) → wx ec W cls d σ (put (cad cl) H1 H')) (fun c _ H' => (∀ b ∈ cad cl, H' b = none) → W c σ (put (cad cl) H1 H')) f c' cl (hr.deeper _) ((takes_of rfl rfl rfl rfl).imp fun cls d _ H' ⟨c, e1, e2, q⟩ => fun hb => ⟨c, e1, e2, q hb⟩)
                have r0 : R0 X.K (vs.map some) (hide (cad cl) H1) (ds.map some) := by
                  have rvs' := rvs.sim3 (sim3_hide hxe) hnd
                  refine ⟨⟨by rw [List.length_map, List.length_map, rvs'.length]; exact Nat.le_refl _, fun x hx' hh => tab_hideC I1.hok hx (rr.1.2 x hx' hh)⟩, fun i d e => ?_⟩
                  rw [List.getElem?_map] at e
                  cases q : ds[i]? with
                  | none => rw [q] at e; cases e
                  | some d' =>
                    rw [q] at e
                    have ed : d' = d := by simpa using e
                    subst ed
                    obtain ⟨v, e1, r1⟩ := rvs'.get q
                    exact ⟨v, by rw [List.getElem?_map, e1]; rfl, r1⟩
                have put_up : ∀ {H' : Hp}, (∀ b ∈ cad cl, H' b = none) → ∀ b o, H' b = some o → put (cad cl) H1 H' b = some o := fun {H'} hn b o e => by
                  rw [put_out (fun z => by rw [hn b z] at e; cases e)]
                  exact e
                have same_put : ∀ {H' : Hp}, (∀ b ∈ cad cl, H' b = none) → Same (hide (cad cl) H1) H' → Same H1 (put (cad cl) H1 H') := fun {H'} hn sm => ⟨fun b o e n => by
                  by_cases hb : b ∈ cad cl
                  · rw [put_in hb]; exact e
                  · rw [put_out hb]; exact sm.o b o (by rw [hide_out hb]; exact e) n, fun P' t => (sm.t P' (tab_hideC I1.hok hx t)).ext (put_up hn)⟩
                have ht : tE X.K (fun c _ H' => (∀ b ∈ cad cl, H' b = none) → W c σ (put (cad cl) H1 H')) F (vs.map some) (hide (cad cl) H1) (fun v H' => (∀ b ∈ cad cl, H' b = none) → Q v (put (cad cl) H1 H')) := by
                  refine ⟨_, r0, cs_mono h (fun d q v H' sm rv hn => q v _ (same_put hn sm) (rv.mono (.of (put_up hn)))) fun c q H' sm hn => q _ (same_put hn sm)⟩
                refine PySem.W.kla_codeExpr (wpAny_mono (bd.run [] _ _ _ _ J ht) (fun v s' hq => ?_) fun e s' hq => ?_)
                · obtain ⟨w', H', J', rv, q⟩ := hq
                  have hn : ∀ b ∈ cad cl, H' b = none := fun b hb => by
                    obtain ⟨o, u, q1, _⟩ := hx b hb
                    exact J'.base.free b o (e0.hok b _ q1).1 (hide_in hb) (by simp [cxL])
                  have hB : ∀ b ∈ cad cl, ∃ o u, H1 b = some (CellX b o) ∧ o.data = .cell (some u) ∧ s'.heap.get? b = some o := fun b hb => by
                    obtain ⟨o, u, q1, q2⟩ := hx b hb
                    exact ⟨o, u, q1, q2, J'.base.keep b o (e0.hok b _ q1).1 (hide_in hb) (fun z => by have := e0.frf b z; rw [q1] at this; cases this) (by simp [cxL])⟩
                  exact ⟨w', put (cad cl) H1 H', J'.os, J'.bare, un_put J'.base hx, hok_putX (h := s'.heap) J'.hok hB hn, rv, q hn⟩
                · exact wpAny_mono hq (fun _ s'' q => cx_put e0.hok e0.frf hx q) fun e' s'' q => cx_put e0.hok e0.frf hx q
              refine wpAny_call (codeAny_mono rcd fun r s' hq => ?_)
              cases r with
              | error e => exact passAt tk σ pins H1 s1 e s' I1 hq
              | ok fl =>
                cases fl with
                | ret u => exact I1.after hq
                | next => exact False.elim hq
                | brk => exact False.elim hq
                | cont => exact False.elim hq
        · rw [if_neg hnd] at h; exact h.elim
      | _ => exact h.elim
end
end PB

namespace PB
open PySem PySem.Spec PyProof.Rows L2

/-! ### xs.count(y) of flat things -/
def cntV (y : V) (ys : List V) : Nat := ys.countP fun z => eqV z y
theorem cnt_vals {y : V} : ∀ {ys : List V} {us : List Value}, Vals ys us → ys.all flatV = true → us.countP (eqU y) = cntV y ys
  | _, _, .nil, _ => rfl
  | _, _, .cons r t, f => by
    rw [List.all_cons, Bool.and_eq_true] at f
    unfold cntV
    rw [List.countP_cons, List.countP_cons, cnt_vals t f.2, eqU_of r f.1]
    rfl
def rCntF (K : PySem.W.Frag) : V → List V → Hp → VK → Prop := fun x xs H Q => ∃ (a : Addr) (ys : List V) (y : V), x = V.ref a ∧ xs = [y] ∧ SqL K H a ys ∧ flatV y = true ∧ ys.all flatV = true ∧ Q (.int (cntV y ys : Nat)) H
theorem mt_cntF {X : Cx} : MtR X "list.count" (rCntF X.K) := by
  intro pins s σ H x xs v us Q I rx rxs h
  obtain ⟨a, ys, y, rfl, rfl, hl, fy, fys, hq⟩ := h
  cases rx
  cases rxs with
  | @cons _ uy _ _ ry rt =>
    cases rt
    obtain ⟨its, rv, ⟨⟨cls, dd, data, sl⟩, n, ho, hc, hdn, hd⟩, hlen⟩ := I.list hl
    dsimp only at hc hd
    subst hc
    subst hd
    refine call_meets PySem.F.slot_list_count ⟨_, ho, rfl⟩ PySem.F.entry_list_count (PySem.F.args_list_count_2 _ _) (SeqAt.list_countAt a its.toArray n dd sl uy (eqU y)) ⟨ho, fun u hu => mem_eqAt ry fy rv fys u (by simpa using hu), ?_⟩
    refine ⟨.int (cntV y ys : Nat), H, I.tok _, ⟨s.toks, ?_⟩, hq⟩
    have e : its.toArray.toList.countP (eqU y) = cntV y ys := cnt_vals rv fys
    show Value.int ((its.toArray.toList.countP (eqU y) : Nat) : Int) s.toks = _
    rw [e]

/-! ### a def that is called while an exception is handled -/
theorem inv_xe {X : Cx} {pins : List (Addr × Obj)} {σ : L2.St} {H : Hp} {s : Shared} (I : L2.Inv X pins σ H s) (xe : Value → Shared → Prop) : L2.Inv { X with xe := xe } pins σ H s :=
  ⟨⟨I.ok.mod, I.ok.kind, I.ok.glob, I.ok.blt, I.ok.above, I.ok.inj, I.ok.has, I.ok.cab, I.ok.hd, I.ok.frames, I.ok.stk, I.ok.exf, I.ok.bs, I.ok.bsz, I.ok.noex, I.ok.exfs, I.ok.funs, I.ok.frf⟩, I.os, I.bare, I.base, I.loc, I.cell, I.free, I.freeC, I.pin, I.hok, I.len⟩
abbrev cxS (P : Program) (w : World) (K : PySem.W.Frag) (mg : Str → Option Value) (base : Heap) (N : List Str) (x : Str) (scope : Scope) (f : Addr) (cdv : Value) (A : Around) (outer : List Env) (s : Shared) (H : Hp) (a : Addr) (oe : Obj) : Cx :=
  (cxOf (L2.CX P w) P w K mg base N x scope f cdv A outer s H (fun _ _ _ => False)).suite a [(a, oe)]
theorem hot_run {P : Program} {w : World} {K : PySem.W.Frag} {mg : Str → Option Value} {base : Heap} {x : Str} {params : Arguments} {body : List Stmt} {scope : Scope} {N ps : List Str} {f : Addr} {fd : FuncData} (F : FunD K x x params body scope [] [] f fd) (S : FnScope N ps scope) {k : Nat} {A : Around} {outer : List Env} {s : Shared} {H : Hp} {a : Addr} {oe : Obj}
    {args : Args} {us : List Value} {vs : List V} {Q : VK} (hr : L2H.RoomH (k + 1) A) (hp : L2H.PinOk outer H s (a, oe)) (e0 : Env0 P w K mg base (A.mark (some (.ref a))) outer s H) (hb : BindsTo s fd args (ps.zip us)) (rv : Vals vs us) (hl : vs.length = ps.length)
    (hbody : ∀ cdv, ∃ t, PSs (cxS P w K mg base N x scope f cdv A outer s H a oe) body t ∧ t { nx := fun _ H' => Q .non H', rt := Q } (L2.start N vs) H) :
    codeAny (model P w) (A.mark (some (.ref a))) (.call (.ref f) args) (CR (L2.CX P w) outer P w H s Q (fun _ _ _ => False)) s := by
  obtain ⟨oc, od, dV, kV, doc, pm, an, cdv, ct, osl, rfl, lk, hcd, _, _⟩ := F.ex
  have kin : K.In s.heap := e0.mod.kin.keeps fun b o e => (e0.bs b o e).1
  have kinds : ∀ y ∈ ps.zip us, scope.names.lookup y.1 = some .local ∨ (scope.names.lookup y.1 = some .cell ∧ ((cellsFrom (s.heap.objs.size + 1) scope.names []).lookup y.1).isSome = true) := fun y hy => by
    obtain ⟨n, v⟩ := y
    rcases S.par n (List.of_mem_zip hy).1 with z | z
    · exact .inl z
    · exact .inr ⟨z, PySem.W.cellsFrom_some _ _ _ (.inl z)⟩
  refine codeAny_call_function (show (A.mark (some (.ref a))).depth < recursionLimit from hr.depth) (kin _ _ lk) rfl S.co S.gen rfl (PySem.W.codeRec_of kin hcd) (hb _ _ _ _ (wpAny_newFunctionEnv_cells S.kind kinds fun env he s1 ic => ?_))
  subst he
  have nl : s.heap.NoLimit := e0.mod.nolimit.keeps fun b o e => (e0.bs b o e).1
  refine ⟨nl.keeps ic.toInCall.keep, codeAny_func ?_⟩
  obtain ⟨t, ht, hq⟩ := hbody cdv
  have I0 : L2.Inv (L2H.cxH (L2.CX P w) P w K mg base N x scope f cdv (A.mark (some (.ref a))) outer s H (fun _ _ _ => False) (a, oe)) [] (L2.start N vs) H s1 := L2H.inv_startH S hp e0 hl rv ic
  have I : L2.Inv (cxS P w K mg base N x scope f cdv A outer s H a oe) [] (L2.start N vs) H s1 := inv_xe I0 (fun _ _ => False)
  refine wpAny_mono (ht.run [] s1 (L2.start N vs) H _ I hq) (fun fl s' hs => ?_) fun e s' hs => False.elim hs
  cases fl with
  | ret u =>
    obtain ⟨v, σ', H', J, r2, q⟩ := hs
    exact ⟨v, H', J.os, J.bare, J.base, J.hok, r2, q⟩
  | next =>
    obtain ⟨σ', H', J, q⟩ := hs
    exact ⟨.non, H', J.os, J.bare, J.base, J.hok, rfl, q⟩
  | brk =>
    obtain ⟨_, _, _, q⟩ := hs
    exact False.elim q
  | cont =>
    obtain ⟨_, _, _, q⟩ := hs
    exact False.elim q
end PB

namespace PB
open PySem PySem.Spec PyProof.Rows L2
theorem same_over {H0 H : Hp} {l : Addr} {o o' : HO} (s : Same H0 H) (h0 : H0 l = none) (hl : H l = some o) (n : isX o = false) : Same H0 (upd H l o') :=
  ⟨fun b u e k => by rw [upd_ne (ne_of_none e h0)]; exact s.o b u e k, fun P t => tab_upd hl n (s.t P t)⟩
structure LcS (a : Addr) (H0 : Hp) (σ : L2.St) (H : Hp) (ks : List V) : Prop where
  e : σ[0]? = some (some (.ref a))
  len : σ.length = 3
  sm : Same H0 H
  k : ∃ l, σ[1]? = some (some (.ref l)) ∧ H l = some (.lst ks) ∧ H0 l = none
section
variable {X : Cx} {ec : Nat → Addr} {nm kn : Str} {a : Addr} {oe : Obj} {c : Nat}
theorem lc_ext {els : List Expr} {cl : List Nat} {p1 ap lp cp pos : Pos} (L : IsL X nm ec els cl) (C : ExcC X.K (ec c)) (hz : Zc (.ref (ec c)) none oe) (hf : ∃ vs, oe.data = .fields vs) (kk : ∀ b ∈ cl, PySem.W.kitOne X.K (.ref (ec c)) (.ref (ec b)) = some (c == b)) (hm : X.mg "isinstance" = none)
    (hN : X.N[0]? = some nm := by rfl) (hv : Vis X.env.scope nm := by exact Or.inl rfl) (hd : (nm == ("__debug__" : Str)) = false := by decide) (hcd : (nm == ("__classdict__" : Str)) = false := by decide) (hg : Gl X "isinstance" := by rfl)
    (hNk : X.N[1]? = some kn := by rfl) (hvk : Vis X.env.scope kn := by exact Or.inl rfl) (hdk : (kn == ("__debug__" : Str)) = false := by decide) (hcdk : (kn == ("__classdict__" : Str)) = false := by decide) (hline : (ap.endLine == cp.line) = true := by rfl)
    (hs : swapsWith (.Call (.Attribute (.Name kn p1) "extend" ap) [.List els lp] [] cp) none pos.line X.env = pure false := by rfl) :
    PS (X.suite a [(a, oe)]) (.Expr (.Call (.Attribute (.Name kn p1) "extend" ap) [.List els lp] [] cp) pos) (fun E σ H => ∃ H0 ks, LcS a H0 σ H ks ∧ ks.length + cl.length ≤ 1000 ∧ ∀ H', LcS a H0 σ H' (ks ++ cl.map fun b => V.bl (c == b)) → E.nx σ H') := by
  have pa := L.pa (i := 0) (a := a) (oe := oe) (pn := []) C hz hf kk hN hv hd hcd hg hm
  refine ps_imp (ps_expr (X := X.suite a [(a, oe)]) (pe_bm (X := X.suite a [(a, oe)]) PySem.F.plainAttrs_list PySem.F.slot_list_extend PySem.F.type_list_extend mt_extend (pe_var (X := X.suite a [(a, oe)]) (pos := p1) (i := 1) hNk hvk hdk hcdk) (pa_cons (pe_lst (pos := lp) pa) pa_nil rfl) (hbase := rfl) (hfew := rfl) (hline := hline) (hs := rfl) (hplain := rfl)) hs) fun E σ H h => ?_
  obtain ⟨H0, ks, S, hl, h⟩ := h
  obtain ⟨l, e1, e2, e3⟩ := S.k
  refine ⟨.ref l, e1, .inl ⟨rfl, ks, SqL.of e2⟩, ?_⟩
  refine ⟨S.e, lb_le (by rw [List.length_map]; omega), fun p hp => ?_⟩
  have nlp : l ≠ p := ne_of_none e2 hp
  have s1 : Same H0 (upd H p (.lst (cl.map fun b => V.bl (c == b)))) := S.sm.trans (same_new hp)
  have e2' : upd H p (.lst (cl.map fun b => V.bl (c == b))) l = some (.lst ks) := by rw [upd_ne nlp]; exact e2
  refine ⟨l, p, ks, _, rfl, rfl, e2', upd_same, lb_le (by rw [List.length_map]; omega), ?_⟩
  exact h _ ⟨S.e, S.len, same_over s1 e3 e2' rfl, l, e1, upd_same, e3⟩
/-- isinstance(error, ValueError) -/
theorem lc_isV {p p2 p3 pos : Pos} (C : ExcC X.K (ec c)) (hz : Zc (.ref (ec c)) none oe) (hf : ∃ vs, oe.data = .fields vs) (kv : PySem.W.kitOne X.K (.ref (ec c)) (.type "ValueError") = some true) (hm : X.mg "isinstance" = none) (hmv : X.mg "ValueError" = none)
    (hN : X.N[0]? = some nm := by rfl) (hv : Vis X.env.scope nm := by exact Or.inl rfl) (hd : (nm == ("__debug__" : Str)) = false := by decide) (hcd : (nm == ("__classdict__" : Str)) = false := by decide) (hg : Gl X "isinstance" := by rfl) (hgv : Gl X "ValueError" := by rfl) :
    PE (X.suite a [(a, oe)]) (.Call (.Name "isinstance" p) [.Name nm p2, .Name "ValueError" p3] [] pos) (fun σ H Q => σ[0]? = some (some (.ref a)) ∧ Q (.bl true) H) := by
  refine pe_imp (pe_callB (X := X.suite a [(a, oe)]) (call_isE C hz hf) hg hm (by decide +kernel) (pa_cons (pe_var (X := X.suite a [(a, oe)]) (i := 0) hN hv hd hcd) (pa_cons (pe_bltn (X := X.suite a [(a, oe)]) (v := .ty "ValueError") hgv hmv (by decide +kernel) rfl) pa_nil rfl) rfl) (he := rfl) (hpl := rfl)) fun σ H Q h => ?_
  exact ⟨.ref a, h.1, .ty "ValueError", .type "ValueError", true, rfl, fun u r => r, kv, h.2⟩
theorem pa_strs {Y : Cx} {ws : List Str} {es : List Expr} (h : ∀ i : Nat, ∃ j p, es[i]? = (ws[i]?).map fun w => Expr.Constant (.str w) j p) : PA Y es (fun _ H Q => Q (ws.map V.str) H) := by
  induction ws generalizing es with
  | nil =>
    obtain ⟨_, _, e⟩ := h 0
    cases es with
    | nil => exact pa_nil
    | cons _ _ => cases e
  | cons w ws ih =>
    cases es with
    | nil => obtain ⟨_, _, e⟩ := h 0; cases e
    | cons x es =>
      obtain ⟨j, p, e⟩ := h 0
      have e : some x = some (Expr.Constant (.str w) j p) := e
      cases e
      refine ⟨fun pos pins s σ H Q I hw => (pa_cons pe_str (ih (es := es) fun i => ?_) rfl).run pos pins s σ H Q I hw⟩
      have := h (i + 1)
      simpa using this
theorem cnt_flags {c : Nat} : ∀ {cl : List Nat} {j : Nat}, cl.Nodup → cl.findIdx? (fun b => c == b) = some j → cntV (.bl true) (cl.map fun b => V.bl (c == b)) = 1 := by
  intro cl
  have none0 : ∀ l : List Nat, c ∉ l → cntV (.bl true) (l.map fun b => V.bl (c == b)) = 0 := by
    intro l hl
    unfold cntV
    rw [List.countP_map]
    refine List.countP_eq_zero.2 fun b hb => ?_
    have : (c == b) = false := by simpa using fun z : c = b => hl (z ▸ hb)
    simp [this, eqV]
  induction cl with
  | nil => intro j _ h; cases h
  | cons b cl ih =>
    intro j nd h
    rw [List.nodup_cons] at nd
    by_cases e : c = b
    · subst e
      have := none0 cl nd.1
      unfold cntV at this ⊢
      rw [List.map_cons, List.countP_cons, this]
      simp [eqV]
    · rw [List.findIdx?_cons] at h
      have e' : (c == b) = false := by simpa using e
      rw [e'] at h
      cases h2 : cl.findIdx? (fun b => c == b) with
      | none => rw [h2] at h; cases h
      | some k =>
        have := ih nd.2 h2
        unfold cntV at this ⊢
        rw [List.map_cons, List.countP_cons, this, e']
        simp [eqV]
end
end PB

namespace PB
open PySem PySem.Spec PyProof.Rows L2

/-! ### the def that tells an exception's class -/
section
variable {X : Cx} {ec : Nat → Addr} {nm kn rn : Str} {a : Addr} {oe : Obj} {c : Nat}
theorem flat_flags {c : Nat} (cl : List Nat) : (cl.map fun b => V.bl (c == b)).all flatV = true := by
  rw [List.all_eq_true]
  intro y hy
  obtain ⟨b, _, rfl⟩ := List.mem_map.1 hy
  rfl
theorem lc_body {els1 els2 els3 els4 els5 els6 els7 st1 st2 st3 : List Expr} {cl1 cl2 cl3 cl4 cl5 cl6 cl7 : List Nat} {w1 w2 w3 : List Str} {wr : Str} {l1 l2 l3 l4 l5 l6 l7 a2 a3 a4 a5 a6 a7 c2 c3 c4 c5 c6 c7 n1 n2 n3 n4 n5 n6 n7 q1 q2 q3 q4 q5 q6 q7 : Pos}
    {ai ci ni ki ii oi vi bi e1 e2 e3 pi rp rz rw : Pos} {ji jk jw : Nat} {b1 b2 b3 d1 d2 d3 u2 u3 v2 v3 r1 r2 r3 ra rb rc rd re rf rg : Pos} {jr : Nat}
    (L1 : IsL X nm ec els1 cl1) (L2' : IsL X nm ec els2 cl2) (L3 : IsL X nm ec els3 cl3) (L4 : IsL X nm ec els4 cl4) (L5 : IsL X nm ec els5 cl5) (L6 : IsL X nm ec els6 cl6) (L7 : IsL X nm ec els7 cl7)
    (S1 : ∀ i : Nat, ∃ j p, st1[i]? = (w1[i]?).map fun w => Expr.Constant (.str w) j p) (S2 : ∀ i : Nat, ∃ j p, st2[i]? = (w2[i]?).map fun w => Expr.Constant (.str w) j p) (S3 : ∀ i : Nat, ∃ j p, st3[i]? = (w3[i]?).map fun w => Expr.Constant (.str w) j p)
    (EX : ExF X.K ec (cl1 ++ (cl2 ++ (cl3 ++ (cl4 ++ (cl5 ++ (cl6 ++ cl7))))))) (hcm : c ∈ (cl1 ++ (cl2 ++ (cl3 ++ (cl4 ++ (cl5 ++ (cl6 ++ cl7))))))) (hz : Zc (.ref (ec c)) none oe) (hf : ∃ vs, oe.data = .fields vs) (kv : PySem.W.kitOne X.K (.ref (ec c)) (.type "ValueError") = some true)
    (hm : X.mg "isinstance" = none) (hmv : X.mg "ValueError" = none) (hnd : X.N.Nodup)
    (hnc : (cl1 ++ (cl2 ++ (cl3 ++ (cl4 ++ (cl5 ++ (cl6 ++ cl7)))))).Nodup := by decide) (hlc : (cl1 ++ (cl2 ++ (cl3 ++ (cl4 ++ (cl5 ++ (cl6 ++ cl7)))))).length ≤ 100 := by decide) (hlw : (w1 ++ (w2 ++ w3)).length ≤ 100 := by decide)
    (hN : X.N[0]? = some nm := by rfl) (hv : Vis X.env.scope nm := by exact Or.inl rfl) (hd : (nm == ("__debug__" : Str)) = false := by decide) (hcd : (nm == ("__classdict__" : Str)) = false := by decide) (hg : Gl X "isinstance" := by rfl) (hgv : Gl X "ValueError" := by rfl)
    (hNk : X.N[1]? = some kn := by rfl) (hlk : X.env.kindOf kn = some .local := by rfl) (hdk : (kn == ("__debug__" : Str)) = false := by decide) (hcdk : (kn == ("__classdict__" : Str)) = false := by decide)
    (hNr : X.N[2]? = some rn := by rfl) (hlr : X.env.kindOf rn = some .local := by rfl) (hdr : (rn == ("__debug__" : Str)) = false := by decide) (hcdr : (rn == ("__classdict__" : Str)) = false := by decide)
    (hln2 : (a2.endLine == c2.line) = true := by rfl) (hln3 : (a3.endLine == c3.line) = true := by rfl) (hln4 : (a4.endLine == c4.line) = true := by rfl) (hln5 : (a5.endLine == c5.line) = true := by rfl) (hln6 : (a6.endLine == c6.line) = true := by rfl) (hln7 : (a7.endLine == c7.line) = true := by rfl)
    (hlni : (ai.endLine == ci.line) = true := by rfl) (hlnu : (u2.endLine == v2.line) = true := by rfl) (hlnv : (u3.endLine == v3.line) = true := by rfl) (hlnr : (ra.endLine == rb.line) = true := by rfl)
    (hw1 : swapsWith (.List els1 l1) (some (.Name kn n1)) q1.line X.env = pure false := by rfl) (hw2 : swapsWith (.Call (.Attribute (.Name kn n2) "extend" a2) [.List els2 l2] [] c2) none q2.line X.env = pure false := by rfl) (hw3 : swapsWith (.Call (.Attribute (.Name kn n3) "extend" a3) [.List els3 l3] [] c3) none q3.line X.env = pure false := by rfl)
    (hw4 : swapsWith (.Call (.Attribute (.Name kn n4) "extend" a4) [.List els4 l4] [] c4) none q4.line X.env = pure false := by rfl) (hw5 : swapsWith (.Call (.Attribute (.Name kn n5) "extend" a5) [.List els5 l5] [] c5) none q5.line X.env = pure false := by rfl)
    (hw6 : swapsWith (.Call (.Attribute (.Name kn n6) "extend" a6) [.List els6 l6] [] c6) none q6.line X.env = pure false := by rfl) (hw7 : swapsWith (.Call (.Attribute (.Name kn n7) "extend" a7) [.List els7 l7] [] c7) none q7.line X.env = pure false := by rfl)
    (hx1 : swapsWith (.List st1 d1) (some (.Name rn b1)) r1.line X.env = pure false := by rfl) (hx2 : swapsWith (.Call (.Attribute (.Name rn b2) "extend" u2) [.List st2 d2] [] v2) none r2.line X.env = pure false := by rfl) (hx3 : swapsWith (.Call (.Attribute (.Name rn b3) "extend" u3) [.List st3 d3] [] v3) none r3.line X.env = pure false := by rfl) :
    PSs (X.suite a [(a, oe)]) [.Assign [.Name kn n1] (.List els1 l1) q1, .Expr (.Call (.Attribute (.Name kn n2) "extend" a2) [.List els2 l2] [] c2) q2, .Expr (.Call (.Attribute (.Name kn n3) "extend" a3) [.List els3 l3] [] c3) q3, .Expr (.Call (.Attribute (.Name kn n4) "extend" a4) [.List els4 l4] [] c4) q4,
      .Expr (.Call (.Attribute (.Name kn n5) "extend" a5) [.List els5 l5] [] c5) q5, .Expr (.Call (.Attribute (.Name kn n6) "extend" a6) [.List els6 l6] [] c6) q6, .Expr (.Call (.Attribute (.Name kn n7) "extend" a7) [.List els7 l7] [] c7) q7,
      .If (.BoolOp .Or [.Compare (.Call (.Attribute (.Name kn ni) "count" ai) [.Constant (.bool true) ji ki] [] ci) [.NotEq] [.Constant (.int 1) jk ii] oi, .UnaryOp .Not (.Call (.Name "isinstance" e1) [.Name nm e2, .Name "ValueError" e3] [] vi) bi] pi) [.Return (some (.Constant (.str wr) jw rw)) rz] [] rc,
      .Assign [.Name rn b1] (.List st1 d1) r1, .Expr (.Call (.Attribute (.Name rn b2) "extend" u2) [.List st2 d2] [] v2) r2, .Expr (.Call (.Attribute (.Name rn b3) "extend" u3) [.List st3 d3] [] v3) r3,
      .Return (some (.Subscript (.Name rn rd) (.Call (.Attribute (.Name kn re) "index" ra) [.Constant (.bool true) jr rf] [] rb) rg)) rp]
      (fun D σ H => σ = [some (.ref a), none, none] ∧ ∃ (j : Nat) (w : Str), (cl1 ++ (cl2 ++ (cl3 ++ (cl4 ++ (cl5 ++ (cl6 ++ cl7)))))).findIdx? (fun b => c == b) = some j ∧ (w1 ++ (w2 ++ w3))[j]? = some w ∧ ∀ H', Same H H' → D.rt (.str w) H') := by
  have hvk : Vis X.env.scope kn := .inl hlk
  have hvr : Vis X.env.scope rn := .inl hlr
  have C := EX.c c hcm
  have K := EX.k c hcm
  have pa1 := L1.pa (i := 0) (a := a) (oe := oe) (pn := []) C hz hf (fun b hb => K b (by simp [hb])) hN hv hd hcd hg hm
  have x2 := lc_ext (a := a) (p1 := n2) (ap := a2) (lp := l2) (cp := c2) (pos := q2) L2' C hz hf (fun b hb => K b (by simp [hb])) hm hN hv hd hcd hg hNk hvk hdk hcdk hln2 hw2
  have x3 := lc_ext (a := a) (p1 := n3) (ap := a3) (lp := l3) (cp := c3) (pos := q3) L3 C hz hf (fun b hb => K b (by simp [hb])) hm hN hv hd hcd hg hNk hvk hdk hcdk hln3 hw3
  have x4 := lc_ext (a := a) (p1 := n4) (ap := a4) (lp := l4) (cp := c4) (pos := q4) L4 C hz hf (fun b hb => K b (by simp [hb])) hm hN hv hd hcd hg hNk hvk hdk hcdk hln4 hw4
  have x5 := lc_ext (a := a) (p1 := n5) (ap := a5) (lp := l5) (cp := c5) (pos := q5) L5 C hz hf (fun b hb => K b (by simp [hb])) hm hN hv hd hcd hg hNk hvk hdk hcdk hln5 hw5
  have x6 := lc_ext (a := a) (p1 := n6) (ap := a6) (lp := l6) (cp := c6) (pos := q6) L6 C hz hf (fun b hb => K b (by simp [hb])) hm hN hv hd hcd hg hNk hvk hdk hcdk hln6 hw6
  have x7 := lc_ext (a := a) (p1 := n7) (ap := a7) (lp := l7) (cp := c7) (pos := q7) L7 C hz hf (fun b hb => K b (by simp [hb])) hm hN hv hd hcd hg hNk hvk hdk hcdk hln7 hw7
  have kv' : ∀ pp, PE (X.suite a [(a, oe)]) (.Name kn pp) (tVar 1) := fun pp => pe_var (X := X.suite a [(a, oe)]) (pos := pp) hNk hvk hdk hcdk
  have rv' : ∀ pp, PE (X.suite a [(a, oe)]) (.Name rn pp) (tVar 2) := fun pp => pe_var (X := X.suite a [(a, oe)]) (pos := pp) hNr hvr hdr hcdr
  have cnt : PE (X.suite a [(a, oe)]) (.Call (.Attribute (.Name kn ni) "count" ai) [.Constant (.bool true) ji ki] [] ci) _ := pe_bm (X := X.suite a [(a, oe)]) PySem.F.plainAttrs_list PySem.F.slot_list_count PySem.F.type_list_count mt_cntF (kv' ni) (pa_cons pe_bl pa_nil rfl) (hbase := rfl) (hfew := rfl) (hline := hlni) (hs := rfl) (hplain := rfl)
  have tst : PT (X.suite a [(a, oe)]) (.BoolOp .Or [.Compare (.Call (.Attribute (.Name kn ni) "count" ai) [.Constant (.bool true) ji ki] [] ci) [.NotEq] [.Constant (.int 1) jk ii] oi, .UnaryOp .Not (.Call (.Name "isinstance" e1) [.Name nm e2, .Name "ValueError" e3] [] vi) bi] pi) _ :=
    PW.pt (pw_or (pt_cmpR (X := X.suite a [(a, oe)]) op_ne cnt (pe_int (i := 1)) (nomark _)) (pw_or1 (pt_not (pt_val (X := X.suite a [(a, oe)]) (lc_isV (a := a) C hz hf kv hm hmv hN hv hd hcd hg hgv)))))
  have idx : PE (X.suite a [(a, oe)]) (.Call (.Attribute (.Name kn re) "index" ra) [.Constant (.bool true) jr rf] [] rb) _ := pe_bm (X := X.suite a [(a, oe)]) PySem.F.plainAttrs_list PySem.F.slot_list_index PySem.F.type_list_index mt_index (kv' re) (pa_cons pe_bl pa_nil rfl) (hbase := rfl) (hfew := rfl) (hline := hlnr) (hs := rfl) (hplain := rfl)
  have s1 : PS (X.suite a [(a, oe)]) (.Assign [.Name kn n1] (.List els1 l1) q1) _ := ps_set (X := X.suite a [(a, oe)]) (i := 1) hnd hNk (.inl hlk) (pe_lst (pos := l1) pa1) hw1 (.inr hlk)
  have r1' : PS (X.suite a [(a, oe)]) (.Assign [.Name rn b1] (.List st1 d1) r1) _ := ps_set (X := X.suite a [(a, oe)]) (i := 2) hnd hNr (.inl hlr) (pe_lst (pos := d1) (pa_strs S1)) hx1 (.inr hlr)
  have r2' : PS (X.suite a [(a, oe)]) (.Expr (.Call (.Attribute (.Name rn b2) "extend" u2) [.List st2 d2] [] v2) r2) _ := ps_expr (X := X.suite a [(a, oe)]) (pe_bm (X := X.suite a [(a, oe)]) PySem.F.plainAttrs_list PySem.F.slot_list_extend PySem.F.type_list_extend mt_extend (rv' b2) (pa_cons (pe_lst (pos := d2) (pa_strs S2)) pa_nil rfl) (hbase := rfl) (hfew := rfl) (hline := hlnu) (hs := rfl) (hplain := rfl)) hx2
  have r3' : PS (X.suite a [(a, oe)]) (.Expr (.Call (.Attribute (.Name rn b3) "extend" u3) [.List st3 d3] [] v3) r3) _ := ps_expr (X := X.suite a [(a, oe)]) (pe_bm (X := X.suite a [(a, oe)]) PySem.F.plainAttrs_list PySem.F.slot_list_extend PySem.F.type_list_extend mt_extend (rv' b3) (pa_cons (pe_lst (pos := d3) (pa_strs S3)) pa_nil rfl) (hbase := rfl) (hfew := rfl) (hline := hlnv) (hs := rfl) (hplain := rfl)) hx3
  have ret : PS (X.suite a [(a, oe)]) (.Return (some (.Subscript (.Name rn rd) (.Call (.Attribute (.Name kn re) "index" ra) [.Constant (.bool true) jr rf] [] rb) rg)) rp) _ := ps_ret (pos := rp) (pe_ix (X := X.suite a [(a, oe)]) ix_list (rv' rd) idx (fun _ _ => rfl))
  refine pss_imp (pss_cons s1 (pss_cons x2 (pss_cons x3 (pss_cons x4 (pss_cons x5 (pss_cons x6 (pss_cons x7 (pss_cons (ps_if tst (pss_one (ps_ret (pos := rz) pe_str)) pss_nil) (pss_cons r1' (pss_cons r2' (pss_cons r3' (pss_one ret)))))))))))) fun D σ H h => ?_
  obtain ⟨rfl, j, w, hj, hjw, h⟩ := h
  have len : cl1.length + (cl2.length + (cl3.length + (cl4.length + (cl5.length + (cl6.length + cl7.length))))) ≤ 100 := by simpa using hlc
  have lenw : w1.length + (w2.length + w3.length) ≤ 100 := by simpa using hlw
  refine ⟨rfl, lb_le (by rw [List.length_map]; omega), fun p1 hp1 => ?_⟩
  refine ⟨H, _, ⟨rfl, rfl, same_new hp1, p1, rfl, upd_same, hp1⟩, by rw [List.length_map]; omega, fun H2 S2 => ?_⟩
  refine ⟨H, _, S2, by simp only [List.length_append, List.length_map]; omega, fun H3 S3 => ?_⟩
  refine ⟨H, _, S3, by simp only [List.length_append, List.length_map]; omega, fun H4 S4 => ?_⟩
  refine ⟨H, _, S4, by simp only [List.length_append, List.length_map]; omega, fun H5 S5 => ?_⟩
  refine ⟨H, _, S5, by simp only [List.length_append, List.length_map]; omega, fun H6 S6 => ?_⟩
  refine ⟨H, _, S6, by simp only [List.length_append, List.length_map]; omega, fun H7 S7 => ?_⟩
  simp only [List.append_assoc, ← List.map_append] at S7
  generalize hcl : cl1 ++ (cl2 ++ (cl3 ++ (cl4 ++ (cl5 ++ (cl6 ++ cl7))))) = cl at *
  obtain ⟨l, g1, g2, g3⟩ := S7.k
  refine ⟨.ref l, g1, .inl ⟨rfl, _, SqL.of g2⟩, l, _, .bl true, rfl, rfl, SqL.of g2, rfl, flat_flags cl, ?_⟩
  rw [cnt_flags hnc hj]
  refine ⟨rfl, false, rfl, ?_⟩
  refine ⟨S7.e, true, rfl, ?_⟩
  refine ⟨lb_le (by rw [List.length_map]; omega), fun p2 hp2 => ?_⟩
  have np2 : l ≠ p2 := ne_of_none g2 hp2
  have t2 : Same H7 (upd H7 p2 (.lst (w1.map V.str))) := same_new hp2
  -- rows.extend
  refine ⟨.ref p2, rfl, .inl ⟨rfl, _, SqL.of upd_same⟩, lb_le (by rw [List.length_map]; omega), fun p3 hp3 => ?_⟩
  have n23 : p2 ≠ p3 := ne_of_none upd_same hp3
  have u2' : upd (upd H7 p2 (.lst (w1.map V.str))) p3 (.lst (w2.map V.str)) p2 = some (.lst (w1.map V.str)) := by rw [upd_ne n23, upd_same]
  refine ⟨p2, p3, _, _, rfl, rfl, u2', upd_same, lb_le (by rw [List.length_map, List.length_map]; omega), ?_⟩
  have t3 : Same H7 (upd (upd (upd H7 p2 (.lst (w1.map V.str))) p3 (.lst (w2.map V.str))) p2 (.lst (w1.map V.str ++ w2.map V.str))) := same_over (t2.trans (same_new hp3)) hp2 u2' rfl
  have u3' : upd (upd (upd H7 p2 (.lst (w1.map V.str))) p3 (.lst (w2.map V.str))) p2 (.lst (w1.map V.str ++ w2.map V.str)) p2 = some (.lst (w1.map V.str ++ w2.map V.str)) := upd_same
  generalize upd (upd (upd H7 p2 (.lst (w1.map V.str))) p3 (.lst (w2.map V.str))) p2 (.lst (w1.map V.str ++ w2.map V.str)) = H9 at *
  refine ⟨.ref p2, rfl, .inl ⟨rfl, _, SqL.of u3'⟩, lb_le (by rw [List.length_map]; omega), fun p4 hp4 => ?_⟩
  have n24 : p2 ≠ p4 := ne_of_none u3' hp4
  have u4 : upd H9 p4 (.lst (w3.map V.str)) p2 = some (.lst (w1.map V.str ++ w2.map V.str)) := by rw [upd_ne n24]; exact u3'
  refine ⟨p2, p4, _, _, rfl, rfl, u4, upd_same, lb_le (by simp only [List.length_append, List.length_map]; omega), ?_⟩
  have t4 : Same H7 (upd (upd H9 p4 (.lst (w3.map V.str))) p2 (.lst (w1.map V.str ++ w2.map V.str ++ w3.map V.str))) := same_over (t3.trans (same_new hp4)) hp2 u4 rfl
  have u5 : upd (upd H9 p4 (.lst (w3.map V.str))) p2 (.lst (w1.map V.str ++ w2.map V.str ++ w3.map V.str)) p2 = some (.lst (w1.map V.str ++ w2.map V.str ++ w3.map V.str)) := upd_same
  generalize upd (upd H9 p4 (.lst (w3.map V.str))) p2 (.lst (w1.map V.str ++ w2.map V.str ++ w3.map V.str)) = HE at *
  have gl : HE l = some (.lst (cl.map fun b => V.bl (c == b))) := t4 _ _ g2
  refine ⟨.ref p2, rfl, .ref l, ?_, .inl ⟨rfl, _, SqL.of gl⟩, ?_⟩
  · rw [List.getElem?_set_ne (by decide)]; exact g1
  obtain ⟨hjl, hj3, hj4⟩ := List.findIdx?_eq_some_iff_getElem.1 hj
  refine ⟨l, _, .bl true, j, .bl true, rfl, rfl, SqL.of gl, rfl, flat_flags cl, ?_, rfl, ?_, ?_⟩
  · rw [List.getElem?_map, List.getElem?_eq_getElem hjl]
    simp only [Option.map_some, hj3]
  · intro m z hm2 hz2
    have q := hj4 m hm2
    rw [List.getElem?_map, List.getElem?_eq_getElem (by omega)] at hz2
    simp only [Option.map_some, Option.some.injEq] at hz2
    subst hz2
    have q2 : (c == cl[m]) = false := by
      cases e : (c == cl[m]) with
      | false => rfl
      | true => exact absurd e q
    rw [q2]
    rfl
  · refine ⟨p2, _, (j : Nat), .str w, rfl, rfl, SqL.of u5, atI_nat ?_, h _ (S7.sm.trans t4)⟩
    rw [← List.map_append, ← List.map_append, List.getElem?_map, List.append_assoc, hjw]
    rfl
end
end PB

namespace PB
open PySem PySem.Spec PyProof.Rows L2

/-! ### try: .. except X as n: return ("..", f(n)), f the def that tells the class -/
def lcW (cl : List Nat) (ws : List Str) (c : Nat) : Option Str := (cl.findIdx? fun b => c == b).bind fun j => ws[j]?
structure ClsOk (P : Program) (w : World) (K : PySem.W.Frag) (mg : Str → Option Value) (base : Heap) (ec : Nat → Addr) (x : Str) (cl : List Nat) (ws : List Str) : Prop where
  ex : ∃ (fd : FuncData) (N : List Str) (nm : Str) (params : Arguments) (body : List Stmt) (scope : Scope), FunD K x x params body scope [] [] (He.ga K x) fd ∧ FnScope N [nm] scope ∧ N.length = 3 ∧ Binds K fd [nm] [] ∧
    ∀ (cdv : Value) (A : Around) (outer : List Env) (s : Shared) (H : Hp) (a : Addr) (oe : Obj) (c : Nat) (wd : Str), lcW cl ws c = some wd → Zc (.ref (ec c)) none oe → (∃ vs, oe.data = .fields vs) →
      PSs (cxS P w K mg base N x scope (He.ga K x) cdv A outer s H a oe) body (fun D σ H => σ = [some (.ref a), none, none] ∧ ∀ H', Same H H' → D.rt (.str wd) H')
  kp : PySem.W.keepIn K (.ref (He.ga K x)) = true
  mg_ : mg x = some (.ref (He.ga K x))
  m : ∀ a ∈ cl, PySem.W.exmOne K (.ref (ec a)) (.ref (ec 0)) = some true
section
variable {X : Cx} {ec : Nat → Addr} {nm x : Str} {i k : Nat} {cl : List Nat} {ws : List Str}
theorem pe_cls {a : Addr} {oe : Obj} {pn : List (Addr × Obj)} {c : Nat} {wd : Str} {p p2 pos : Pos} (O : ClsOk X.prog X.w X.K X.mg X.base ec x cl ws) (hr : Room (k + 1) X.A) (hw : lcW cl ws c = some wd) (hz : Zc (.ref (ec c)) none oe) (hf : ∃ vs, oe.data = .fields vs)
    (hN : X.N[i]? = some nm) (hv : Vis X.env.scope nm) (hd : (nm == ("__debug__" : Str)) = false) (hcd : (nm == ("__classdict__" : Str)) = false) (hg : Gl X x) (hdx : (x == ("__debug__" : Str)) = false) :
    PE (X.suite a ((a, oe) :: pn)) (.Call (.Name x p) [.Name nm p2] [] pos) (fun σ H Q => σ[i]? = some (some (.ref a)) ∧ ∀ H', Same H H' → Q (.str wd) H') := by
  obtain ⟨fd, N, nm', params, body, scope, F, sc, hl3, hb, hbody⟩ := O.ex
  refine ⟨fun pins s σ H Q I h => ?_⟩
  refine wpAny_Call_Name_kw (ld_glob (X := X.suite a ((a, oe) :: pn)) I hg O.mg_ ?_ hdx)
  refine PySem.W.callWith_K (h₀ := X.base) I.ok.mod.kin O.kp (thn ((pa_cons (pe_var (X := X.suite a ((a, oe) :: pn)) (pos := p2) (i := i) hN hv hd hcd) pa_nil rfl).run pos pins s σ H (fun vs H2 => vs = [V.ref a] ∧ H2 = H) I ⟨.ref a, h.1, rfl, rfl⟩) fun us s1 ⟨vs, H1, I1, r, q⟩ => ⟨I1.kIn, ?_⟩) rfl rfl
  obtain ⟨q1, q2⟩ := q
  subst q1
  subst q2
  have pin := I1.pin (a, oe) (List.mem_append_left _ List.mem_cons_self)
  have hpin : L2H.PinOk (X.suite a ((a, oe) :: pn)).stack H1 s1 (a, oe) := ⟨pin.1, pin.2.1, fun z => (List.mem_cons.mp (I1.stkSub a z)).elim pin.2.2.1 pin.2.2.2.1, pin.2.2.2.2⟩
  have hlu : us.length = 1 := r.length.symm
  have b := hb s1 us I1.kIn (by rw [List.append_nil]; exact hlu)
  rw [List.append_nil] at b
  refine wpAny_call (codeAny_mono (hot_run (k := k) (a := a) (oe := oe) (Q := Q) F sc (L2H.roomH_of hr) hpin I1.env0 b r rfl fun cdv => ⟨_, hbody cdv _ _ s1 H1 a oe c wd hw hz hf, ?_, fun H' sm => h.2 H' sm⟩) fun r' s' hq => ?_)
  · unfold L2.start
    simp [hl3]
  · cases r' with
    | error e =>
      obtain ⟨_, _, _, _, _, _, _, _, _, _, _, _, z⟩ := hq
      exact z.elim
    | ok fl =>
      cases fl with
      | ret u => exact I1.after hq
      | next => exact False.elim hq
      | brk => exact False.elim hq
      | cont => exact False.elim hq
def sTryC (S : Sl → Rs Out) (cl : List Nat) (ws : List Str) (er : Str) : Sl → Rs Out := fun ρ => match S ρ with
  | .ok o => .ok o
  | .ex c => (match lcW cl ws c with
    | some w => .ok (.rt (.tup [.str er, .str w]))
    | none => .bad)
  | .bad => .bad
def tsC (K : PySem.W.Frag) (ec : Nat → Addr) (cl : List Nat) (ws : List Str) (er : Str) (i : Nat) (a : Addr) (cls : Value) (d : Option Addr) : TS := fun D σ H => ∃ c w, cls = .ref (ec c) ∧ d = none ∧ lcW cl ws c = some w ∧ (∃ σ0 : L2.St, σ = σ0.set i (some (.ref a))) ∧ ∀ v H', Same H H' → Rp K H' v (.tup [.str er, .str w]) → D.rt v H'
theorem s_tryC {W : Wsh} {S : Sl → Rs Out} {body : List Stmt} {xe er : Str} {ownB : List Nat} {np cp fp ap tp rp rq pos pos' : Pos} {j1 j2 : Nat} (i : Nat) (O : ClsOk X.prog X.w X.K X.mg X.base ec x cl ws) (hr : Room (k + 1) X.A) (hcx : X.mg xe = some (.ref (ec 0)))
    (hb : ∀ (W' : Wsh) (pn : List (Addr × Obj)) (xe : Value → Shared → Prop), Takes (X.tr pn xe) (wx ec W') → DSs (X.tr pn xe) W' [] S [] ownB body)
    (hnd : X.N.Nodup) (hN : X.N[i]? = some nm := by rfl) (hln : X.env.kindOf nm = some .local := by rfl) (hgx : Gl X xe := by rfl) (hdx : (xe == ("__debug__" : Str)) = false := by decide)
    (hd : (nm == ("__debug__" : Str)) = false := by decide) (hcd : (nm == ("__classdict__" : Str)) = false := by decide) (hg : Gl X x := by rfl) (hdf : (x == ("__debug__" : Str)) = false := by decide)
    (hs : X.stack = X.env :: X.outer := by rfl) (hf : X.env.frame = some X.env.locals := by rfl) :
    DS X W [] (sTryC S cl ws er) [] ownB (.Try body [.ExceptHandler (some (.Name xe np)) (some nm) [.Return (some (.Tuple [.Constant (.str er) j1 cp, .Call (.Name x fp) [.Name nm ap] [] tp] j2 rp)) rq] pos'] [] [] pos) := ⟨fun H0 => by
  have hsu : ∀ (a : Addr) (oe : Obj) (cls : Value) (d : Option Addr) (pn : List (Addr × Obj)), Zc cls d oe → (∃ vs, oe.data = .fields vs) → PSs (X.suite a ((a, oe) :: pn)) [.Return (some (.Tuple [.Constant (.str er) j1 cp, .Call (.Name x fp) [.Name nm ap] [] tp] j2 rp)) rq] (tsC X.K ec cl ws er i a cls d) := by
    intro a oe cls d pn hz hfd
    refine ⟨fun pins s σ H D I h => ?_⟩
    obtain ⟨c, w, rfl, rfl, hw, ⟨σ0, rfl⟩, h⟩ := h
    have hlen := I.len
    have hii : i < X.N.length := by
      rcases Nat.lt_or_ge i X.N.length with q | q
      · exact q
      · rw [List.getElem?_eq_none q] at hN; cases hN
    have hget : (σ0.set i (some (V.ref a)))[i]? = some (some (V.ref a)) := by
      rw [List.getElem?_set_self]
      rw [List.length_set] at hlen
      rw [hlen]; exact hii
    refine (pss_one (ps_ret (pos := rq) (pe_tup (X := X.suite a ((a, oe) :: pn)) (pos := rp) (pa_cons pe_str (pa_cons (pe_cls (i := i) (a := a) (oe := oe) (pn := pn) (p := fp) (p2 := ap) (pos := tp) O hr hw hz hfd hN (.inl hln) hd hcd hg hdf) pa_nil rfl) rfl)))).run pins s _ H D I ?_
    refine ⟨hget, fun H' sm => ⟨lb_le (show 2 ≤ 1000000 by decide), fun p hp => ?_⟩⟩
    exact h _ _ (sm.trans (same_new hp)) (.tup upd_same (.cons (.str _) (.cons (.str _) .nil)))
  refine ps_imp (ps_try_as (X := X) (i := i) (c := .ref (ec 0)) (tb := fun W0 => tS X.K (fun c σ H => W0 (.ref (ec c)) none σ H) H0 [] S [] ownB) (ts := tsC X.K ec cl ws er i) (Wout := fun _ _ _ _ => False) hs hf hnd hN hln ⟨hgx, hdx, .inl hcx⟩ takes0 (fun W1 pn xe tk _ => (hb (fun c σ H => W1 (.ref (ec c)) none σ H) pn xe (tk.imp fun cls d σ H ⟨c, e1, e2, w⟩ => by rw [e1, e2]; exact w)).ps H0) hsu) fun E σ H hw => ?_
  obtain ⟨ρ, r, hw⟩ := hw
  refine ⟨ρ, r, ?_⟩
  unfold sTryC at hw
  cases e : S ρ with
  | ok o =>
    rw [e] at hw
    cases o with
    | nx ρ' => exact hw
    | rt d => exact hw
    | bk ρ' => exact hw
    | ct ρ' => exact hw
  | bad => rw [e] at hw; exact hw.elim
  | ex c =>
    rw [e] at hw
    cases ej : lcW cl ws c with
    | none =>
      simp only [ej] at hw
      exact hw.elim
    | some w =>
      simp only [ej] at hw
      have hcm : c ∈ cl := by
        unfold lcW at ej
        cases q : cl.findIdx? (fun b => c == b) with
        | none => rw [q] at ej; cases ej
        | some j =>
          obtain ⟨hjl, hj3, _⟩ := List.findIdx?_eq_some_iff_getElem.1 q
          have : c = cl[j] := eq_of_beq hj3
          rw [this]; exact List.getElem_mem _
      intro σ' H' sm
      exact ⟨true, O.m c hcm, fun _ a ha => ⟨c, w, rfl, rfl, ej, ⟨σ', rfl⟩, fun v H2 s2 rv => hw _ _ (sm.trans s2) rv⟩, fun q => Bool.noConfusion q⟩⟩
end
end PB

namespace PB
open PySem PySem.Spec PyProof.Rows L2

/-! ### the parts of a text -/
def kidsE : Expr → List Expr
  | .Call f as _ _ => f :: as
  | .List es _ => es
  | .Tuple es _ _ => es
  | .UnaryOp _ e _ => [e]
  | .BoolOp _ es _ => es
  | .Compare a _ bs _ => a :: bs
  | .BinOp a _ b _ => [a, b]
  | .Subscript a b _ => [a, b]
  | _ => []
def partsS : Stmt → List Expr
  | .Return (some e) _ => [e]
  | .Expr e _ => [e]
  | .Assign _ e _ => [e]
  | .If t _ _ _ => [t]
  | .For _ e _ _ _ => [e]
  | _ => []
def kidsS : Stmt → List Stmt
  | .If _ b c _ => b ++ c
  | .For _ _ b _ _ => b
  | .FunctionDef _ _ b _ _ _ _ _ _ _ => b
  | _ => []
def kS (s : Stmt) (i : Nat) : Stmt := (kidsS s).getD i s
def kX (s : Stmt) (i : Nat) : Expr := (partsS s).getD i (.Constant .none 0 ⟨0, 0, 0, 0⟩)
def kE (e : Expr) (i : Nat) : Expr := (kidsE e).getD i e
def cloFst : List (Str × NameKind) → List Str → List Str
  | [], acc => acc
  | (n, k) :: r, acc => if k == .free then cloFst r (n :: acc) else cloFst r acc
def mkLam (q : Str) : Expr → LamD
  | .Lambda p b s _ => ⟨q, p, b, s, cloFst s.names []⟩
  | e => ⟨q, { posonlyargs := [], args := [], vararg := none, kwonlyargs := [], kw_defaults := [], kwarg := none, defaults := [] }, e, { kind := .function, names := [], isGenerator := false, isCoroutine := false }, []⟩

/-! ### a def is called with lambdas of the frame -/
def statB (N : List Str) (sc : Scope) (L : LamD) (is : List Nat) : Bool := decide (cloFst L.scope.names [] = L.fv) && (decide L.fv.Nodup && (decide (is.map (fun i => N[i]?) = L.fv.map some) && L.fv.all fun y => decide (sc.names.lookup y = some .cell)))
def captD (ρ : Sl) : List Nat → Option (List D)
  | [] => some []
  | i :: is => match ρ[i]? with
    | some (some d) => (captD ρ is).map (d :: ·)
    | _ => none
def res1 (N : List Str) (sc : Scope) (g : List (Str × Addr)) (ρ : Sl) : D → Option D
  | .lam L is g' => if g' = g ∧ statB N sc L is = true then (captD ρ is).map (.clo L ·) else none
  | d => some d
def resL (N : List Str) (sc : Scope) (g : List (Str × Addr)) (ρ : Sl) : List D → Option (List D)
  | [] => some []
  | d :: ds => (res1 N sc g ρ d).bind fun x => (resL N sc g ρ ds).map (x :: ·)
def resv (N : List Str) (sc : Scope) (g : List (Str × Addr)) (ρ : Sl) : D → Option D
  | .lst xs => (resL N sc g ρ xs).map .lst
  | d => res1 N sc g ρ d
def resA (N : List Str) (sc : Scope) (g : List (Str × Addr)) (ρ : Sl) : List D → Option (List D)
  | [] => some []
  | d :: ds => (resv N sc g ρ d).bind fun x => (resA N sc g ρ ds).map (x :: ·)
def eFX (N : List Str) (sc : Scope) (g : List (Str × Addr)) (m : List D → Rs D) (A : Sl → Rs (List D)) : Sl → Rs D := fun ρ => (A ρ).bind fun ds => match resA N sc g ρ ds with
  | some es => (match m es with
    | .ok d => if scl d = true then .ok d else .bad
    | _ => .bad)
  | none => .bad
theorem cloFrom_fst {g : List (Str × Addr)} : ∀ (names : List (Str × NameKind)) (acc : List (Str × Addr)), (cloFrom g names acc).map Prod.fst = cloFst names (acc.map Prod.fst)
  | [], _ => rfl
  | (n, k) :: r, acc => by
    unfold cloFrom cloFst
    by_cases h : (k == NameKind.free) = true
    · rw [if_pos h, if_pos h, cloFrom_fst r]
      rfl
    · rw [if_neg h, if_neg h, cloFrom_fst r]
section
variable {X : Cx} {pins : List (Addr × Obj)} {σ : L2.St} {H : Hp} {s : Shared} {ρ : Sl}
theorem capt_rp (I : L2.Inv X pins σ H s) (rr : R0 X.K σ H ρ) : ∀ {cl : List (Str × Addr)} {is : List Nat} {ds : List D}, (∀ p ∈ cl, X.env.cells.lookup p.1 = some p.2 ∧ X.env.scope.names.lookup p.1 = some .cell) → is.map (fun i => X.N[i]?) = (cl.map Prod.fst).map some → captD ρ is = some ds → RpCl X.K (expo X s.heap H) cl ds := by
  intro cl
  induction cl with
  | nil =>
    intro is ds _ e c
    cases is with
    | nil => cases c; exact .nil
    | cons _ _ => cases e
  | cons p cl ih =>
    intro is ds h e c
    cases is with
    | nil => cases e
    | cons i is =>
      obtain ⟨y, a⟩ := p
      rw [List.map_cons, List.map_cons, List.map_cons] at e
      have e1 : X.N[i]? = some y := List.head_eq_of_cons_eq e
      have e2 := List.tail_eq_of_cons_eq e
      unfold captD at c
      cases q : ρ[i]? with
      | none => rw [q] at c; cases c
      | some o =>
        rw [q] at c
        cases o with
        | none => cases c
        | some d =>
          have c : (captD ρ is).map (d :: ·) = some ds := c
          cases q2 : captD ρ is with
          | none => rw [q2] at c; cases c
          | some ds' =>
            rw [q2] at c
            cases c
            obtain ⟨v, hv, rv⟩ := rr.2 i d q
            obtain ⟨hc, hk⟩ := h (y, a) (by simp)
            obtain ⟨m, hm, hloc⟩ := I.loc
            obtain ⟨u, ru, hL⟩ := hloc i y v e1 hv (.inr (.inl hk))
            rcases hL with ⟨z, _⟩ | ⟨_, c', hc', o, ho, hd⟩
            · have z : X.env.scope.names.lookup y = some .local := z
              rw [hk] at z; cases z
            · rw [hc] at hc'
              cases hc'
              exact .cons (expo_in ⟨y, hc⟩ ho) hd ru (rv.mono (same_expo I)) (ih (fun p hp => h p (by simp [hp])) e2 q2)
theorem snd_nodup {g : List (Str × Addr)} (inj : ∀ x y c, g.lookup x = some c → g.lookup y = some c → x = y) : ∀ {cl : List (Str × Addr)}, (∀ p ∈ cl, g.lookup p.1 = some p.2) → (cl.map Prod.fst).Nodup → (cl.map Prod.snd).Nodup
  | [], _, _ => List.nodup_nil
  | (y, a) :: cl, h, nd => by
    rw [List.map_cons, List.nodup_cons] at nd ⊢
    refine ⟨fun z => ?_, snd_nodup inj (fun p hp => h p (by simp [hp])) nd.2⟩
    obtain ⟨p, hp, e⟩ := List.mem_map.1 z
    have h1 := h p (by simp [hp])
    have h2 := h (y, a) (by simp)
    have e : p.2 = a := e
    rw [e] at h1
    have := inj _ _ _ h1 h2
    exact nd.1 (List.mem_map.2 ⟨p, hp, this⟩)
theorem res1_rp (I : L2.Inv X pins σ H s) (rr : R0 X.K σ H ρ) {v : V} {d d' : D} (h : Rp X.K H v d) (e : res1 X.N X.env.scope X.env.cells ρ d = some d') : Rp X.K (expo X s.heap H) v d' := by
  cases d with
  | lam L is g =>
    replace e : (if g = X.env.cells ∧ statB X.N X.env.scope L is = true then (captD ρ is).map (.clo L ·) else none) = some d' := e
    by_cases hc : g = X.env.cells ∧ statB X.N X.env.scope L is = true
    · rw [if_pos hc] at e
      obtain ⟨rfl, hs⟩ := hc
      cases q : captD ρ is with
      | none => rw [q] at e; cases e
      | some ds =>
        rw [q] at e
        cases e
        unfold statB at hs
        simp only [Bool.and_eq_true, decide_eq_true_eq, List.all_eq_true] at hs
        obtain ⟨h1, h2, h3, h4⟩ := hs
        cases h with
        | @lam f c' _ _ _ hf hc' =>
          have ef : (cloFrom X.env.cells L.scope.names []).map Prod.fst = L.fv := by rw [cloFrom_fst]; exact h1
          have cells : ∀ p ∈ cloFrom X.env.cells L.scope.names [], X.env.cells.lookup p.1 = some p.2 ∧ X.env.scope.names.lookup p.1 = some .cell := fun p hp => by
            obtain ⟨y, a⟩ := p
            have hk : X.env.scope.names.lookup y = some .cell := h4 y (by rw [← ef]; exact List.mem_map.2 ⟨_, hp, rfl⟩)
            rcases cloFrom_mem hp with z | ⟨_, z⟩
            · cases z
            · obtain ⟨c0, e0⟩ := I.ok.has y (.inl hk)
              refine ⟨?_, hk⟩
              show X.env.cells.lookup y = some a
              rw [z, e0]
              rfl
          have sm := same_expo I
          exact .clo (sm _ _ hf) (sm _ _ hc') ⟨ef, snd_nodup I.ok.inj (fun p hp => (cells p hp).1) (by rw [ef]; exact h2)⟩ (capt_rp I rr cells (by rw [ef]; exact h3) q)
    · rw [if_neg hc] at e; cases e
  | _ => cases e; exact h.mono (same_expo I)
theorem resL_rp (I : L2.Inv X pins σ H s) (rr : R0 X.K σ H ρ) : ∀ {vs : List V} {ds es : List D}, RpAll X.K H vs ds → resL X.N X.env.scope X.env.cells ρ ds = some es → RpAll X.K (expo X s.heap H) vs es
  | _, _, _, .nil, e => by cases e; exact .nil
  | _, d :: ds, es, .cons h t, e => by
    unfold resL at e
    cases q : res1 X.N X.env.scope X.env.cells ρ d with
    | none => rw [q] at e; cases e
    | some x =>
      rw [q] at e
      have e : (resL X.N X.env.scope X.env.cells ρ ds).map (x :: ·) = some es := e
      cases q2 : resL X.N X.env.scope X.env.cells ρ ds with
      | none => rw [q2] at e; cases e
      | some xs =>
        rw [q2] at e
        cases e
        exact .cons (res1_rp I rr h q) (resL_rp I rr t q2)
theorem resv_rp (I : L2.Inv X pins σ H s) (rr : R0 X.K σ H ρ) {v : V} {d d' : D} (h : Rp X.K H v d) (e : resv X.N X.env.scope X.env.cells ρ d = some d') : Rp X.K (expo X s.heap H) v d' := by
  cases d with
  | lst xs =>
    have e : (resL X.N X.env.scope X.env.cells ρ xs).map .lst = some d' := e
    cases q : resL X.N X.env.scope X.env.cells ρ xs with
    | none => rw [q] at e; cases e
    | some es =>
      rw [q] at e
      cases e
      obtain ⟨a, vs, rfl, h1, h2⟩ := rp_lst h
      exact .lst (same_expo I _ _ h1) (resL_rp I rr h2 q)
  | _ => exact res1_rp I rr h e
theorem resA_rp (I : L2.Inv X pins σ H s) (rr : R0 X.K σ H ρ) : ∀ {vs : List V} {ds es : List D}, RpAll X.K H vs ds → resA X.N X.env.scope X.env.cells ρ ds = some es → RpAll X.K (expo X s.heap H) vs es
  | _, _, _, .nil, e => by cases e; exact .nil
  | _, d :: ds, es, .cons h t, e => by
    unfold resA at e
    cases q : resv X.N X.env.scope X.env.cells ρ d with
    | none => rw [q] at e; cases e
    | some x =>
      rw [q] at e
      have e : (resA X.N X.env.scope X.env.cells ρ ds).map (x :: ·) = some es := e
      cases q2 : resA X.N X.env.scope X.env.cells ρ ds with
      | none => rw [q2] at e; cases e
      | some xs =>
        rw [q2] at e
        cases e
        exact .cons (resv_rp I rr h q) (resA_rp I rr t q2)
end
section
variable {X : Cx} {W : Wsh} {x : Str} {e : Expr} {es : List Expr} {A : Sl → Rs (List D)} {p pos : Pos} {k : Nat}
theorem e_callX {ec : Nat → Addr} {j : Nat} {ps : List Str} {m : List D → Rs D} (O : FOk X.prog X.w X.K X.mg X.base ec j x ps m) (hr : Room k X.A) (ha : PA X (e :: es) (tA X.K W A)) (hfn : ∀ x, X.fn x = true) (hjk : j ≤ k := by decide) (hg : Gl X x := by rfl)
    (hdb : (x == ("__debug__" : Str)) = false := by decide) (he : starEach (e :: es) X.env = (false, eval e X.env) :: starEach es X.env := by rfl) (hpl : (backTo pos (starEach es X.env)).any (·.1) = false := by rfl) :
    PE X (.Call (.Name x p) (e :: es) [] pos) (tE X.K W (eFX X.N X.env.scope X.env.cells m A)) := by
  obtain ⟨fd, Fk, Bd⟩ := O.ex
  refine ⟨fun pins s σ H Q I h => ?_⟩
  obtain ⟨ρ, rr, h⟩ := h
  refine wpAny_Call_Name_kw (ld_glob I hg O.mg_ ?_ hdb)
  refine PySem.W.callWith_K (h₀ := X.base) I.ok.mod.kin O.kp (thn (ha.run pos pins s σ H (fun vs H1 => ∃ ds es d, Same H H1 ∧ RpAll X.K H1 vs ds ∧ resA X.N X.env.scope X.env.cells ρ ds = some es ∧ m es = .ok d ∧ scl d = true ∧ ∀ v H', Same H H' → Rp X.K H' v d → Q v H') I ⟨ρ, rr, cs_mono (cs_bind h) (fun ds h1 vs H1 s1 r1 => ?_) fun c q => q⟩) fun us s1 ⟨vs, H1, I1, r, ds, es, d, s1', r1, hres, hm, hsc, hQ⟩ => ⟨I1.kIn, ?_⟩) he hpl
  · cases hres : resA X.N X.env.scope X.env.cells ρ ds with
    | none => rw [hres] at h1; exact h1.elim
    | some es =>
      rw [hres] at h1
      cases hm : m es with
      | ex c => simp only [hm] at h1; exact h1.elim
      | bad => simp only [hm] at h1; exact h1.elim
      | ok d =>
        simp only [hm] at h1
        by_cases hsc : scl d = true
        · rw [if_pos hsc] at h1
          exact ⟨ds, es, d, s1, r1, hres, hm, hsc, h1⟩
        · rw [if_neg hsc] at h1; exact h1.elim
  · exact call_expo I1 hfn Fk Bd (hr.mono hjk) r (rr.1.2.mono s1') (resA_rp I1 (rr.mono s1') r1 hres) hm fun v H' sm rv => hQ v _ (s1'.trans sm) (scl_rp rv hsc)
end
/-! ### a def that makes lambdas -/
section
variable {P : Program} {w : World} {K : PySem.W.Frag} {mg : Str → Option Value} {base : Heap} {ec : Nat → Addr}
theorem mk_fnG {x : Str} {params : Arguments} {body : List Stmt} {scope : Scope} {N ps : List Str} {k : Nat} {S : List (Str × Addr) → Sl → Rs Out} {m : List D → Rs D} {own1 : List Nat} {fd : FuncData} (F : FunD K x x params body scope [] [] (He.ga K x) fd) (sc : FnScope N ps scope)
    (hm : ∀ g ds, m ds = .bad ∨ runF ps.length N.length (S g) ds = m ds)
    (hb : ∀ (cdv : Value) (A : Around) (outer : List Env) (s : Shared) (H : Hp) (E : XK) (W : Wsh), cdv = .ref (He.cT K (x, none)).1 → Room k (A.deeper (envOfC x scope s.heap.objs.size (He.ga K x) cdv)) →
      Takes (cxOf (L2.CX P w) P w K mg base N x scope (He.ga K x) cdv A outer s H E) (wx ec W) → PassesOwn (model P w) (A.deeper (envOfC x scope s.heap.objs.size (He.ga K x) cdv)) (envOfC x scope s.heap.objs.size (He.ga K x) cdv) (cxOf (L2.CX P w) P w K mg base N x scope (He.ga K x) cdv A outer s H E).xe →
      DSs (cxOf (L2.CX P w) P w K mg base N x scope (He.ga K x) cdv A outer s H E) W [] (S (envOfC x scope s.heap.objs.size (He.ga K x) cdv).cells) own1 [] body) : FnOk P w K mg base (L2.CX P w) (k + 1) (He.ga K x) fd ps (spD K ec m) := by
  obtain ⟨oc, od, dV, kV, doc, pm, an, cdv, ct, osl, rfl, lk, hcd, _, _⟩ := F.ex
  have hc : cdv = .ref (He.cT K (x, none)).1 := by
    obtain ⟨c, e⟩ := He.codeIn_ref hcd
    have := He.codeOf_eq (K := K) (p := (x, none)) (c := c) lk e
    rw [e]
    show Value.ref c = Value.ref (He.codeOf K (x, none))
    rw [this]
  refine fn_of lk hcd sc (fun vs H Q E h => ?_) fun A outer s H vs Q E hr h => ?_
  · obtain ⟨_, ds, r, h⟩ := h
    rw [r.length]
    rcases hm [] ds with z | z
    · rw [z] at h; exact h.elim
    · rw [← z] at h
      unfold runF at h
      by_cases hl : ds.length = ps.length
      · exact hl
      · rw [if_neg hl] at h; exact h.elim
  · obtain ⟨ta, ds, r, h⟩ := h
    rcases hm (envOfC x scope s.heap.objs.size (He.ga K x) cdv).cells ds with z | z
    · rw [z] at h; exact h.elim
    · rw [← z] at h
      unfold runF at h
      by_cases hl : ds.length = ps.length
      · rw [if_pos hl] at h
        refine ⟨_, (hb cdv A outer s H E (fun c _ H' => E (.ref (ec c)) none H') hc hr ((takes_of rfl rfl rfl rfl).imp ?_) (passes_of rfl)).ps H, _, init_r ta r, cs_mono (cs_bind h) (fun o h1 => ?_) fun c q σ' H' s => q H' s⟩
        · rintro c d σ H' ⟨n, rfl, rfl, z⟩
          exact z
        · cases o with
          | nx ρ => exact fun σ' H' r' => h1 .non H' (r'.base.trans hide_same) .non
          | rt d => exact h1
          | bk ρ => exact h1.elim
          | ct ρ => exact h1.elim
      · rw [if_neg hl] at h; exact h.elim
end
end PB

namespace PB
open PySem PySem.Spec PyProof.Rows L2

/-! ### what the head tells of errors and tables -/
def exV (l : List Str) (K : PySem.W.Frag) : Bool := l.all fun x => decide (PySem.W.kitOne K (.ref (He.ga K x)) (.type "ValueError") = some true)
def lamB (tf : List He.Defn) (K : PySem.W.Frag) : Bool := lamDefs.all fun x => tf.contains (x, none) || !PySem.W.codeHdIn K (He.cT K (x, none)).1 (tabA K x)
def exA (l : List Str) (tf : List He.Defn) (K : PySem.W.Frag) : Bool := exB l K && (exV l K && lamB tf K)
section
variable {l : List Str} {tf : List He.Defn} {K : PySem.W.Frag} {H : Hp}
theorem exA_b (Z : exA l tf K = true) : exB l K = true := (He.ba Z).1
theorem exA_v (Z : exA l tf K = true) {excN : List Str} {c : Nat} (h : l.contains (excN.getD c "") = true) : PySem.W.kitOne K (.ref (He.ga K (excN.getD c ""))) (.type "ValueError") = some true :=
  of_decide_eq_true (List.all_eq_true.1 (He.ba (He.ba Z).2).1 _ (List.contains_iff_mem.1 h))
theorem exA_t (Z : exA l tf K = true) (h : ∀ p ∈ tf.map (He.cT K), H p.2 = some (.tbl #[])) : AllTab K H := fun x hx e => by
  have z := List.all_eq_true.1 (He.ba (He.ba Z).2).2 x hx
  rw [Bool.or_eq_true] at z
  rcases z with z | z
  · exact TabP.nil (h _ (List.mem_map.2 ⟨_, List.contains_iff_mem.1 z, rfl⟩))
  · rw [e] at z; cases z
end
/-- the tables of the defs that make lambdas, over a base -/
def TBs (tf : List He.Defn) (K : PySem.W.Frag) (mg : Str → Option Value) (base : Heap) : Prop := ∀ p ∈ tf, PySem.W.codeHdIn K (He.cT K p).1 (He.cT K p).2 = true ∧ LamX.TabB base mg (He.cT K p).1 (He.cT K p).2
/-! ### which lambda -/
def keyL (L : LamD) : Nat := L.body.pos.line * 1000 + L.body.pos.col
open Classical in
noncomputable def betaT : List (Nat × LamD × (Sl → Rs D)) → LamD → List D → Rs D
  | [], _, _ => .bad
  | (k, l, F) :: r, L, ds => if keyL L = k then (if L = l then F (ds.map some) else .bad) else betaT r L ds
theorem betaT_at {k : Nat} {l : LamD} {F : Sl → Rs D} {r : List (Nat × LamD × (Sl → Rs D))} {ds : List D} (h : keyL l = k) : betaT ((k, l, F) :: r) l ds = F (ds.map some) := by
  unfold betaT
  rw [if_pos h, if_pos rfl]
theorem betaT_ne {k k' : Nat} {l L : LamD} {F : Sl → Rs D} {r : List (Nat × LamD × (Sl → Rs D))} {ds : List D} (h : keyL L = k') (hk : (k' == k) = false) : betaT ((k, l, F) :: r) L ds = betaT r L ds := by
  have : ¬ keyL L = k := fun z => by
    rw [h] at z
    rw [z] at hk
    simp at hk
  rw [betaT, if_neg this]
theorem betaT_ok {P : Program} {w : World} {K : PySem.W.Frag} {mg : Str → Option Value} {base : Heap} {ec : Nat → Addr} {k : Nat} : ∀ {tb : List (Nat × LamD × (Sl → Rs D))}, (∀ q ∈ tb, LamOk P w K mg base ec k q.2.1 q.2.2) → ∀ L ds, betaT tb L ds = .bad ∨ ∃ F, LamOk P w K mg base ec k L F ∧ betaT tb L ds = F (ds.map some)
  | [], _, L, ds => .inl rfl
  | (n, l, F) :: r, h, L, ds => by
    by_cases h1 : keyL L = n
    · by_cases h2 : L = l
      · subst h2
        exact .inr ⟨F, h (n, L, F) (by simp), betaT_at h1⟩
      · refine .inl ?_
        unfold betaT
        rw [if_pos h1, if_neg h2]
    · have e : betaT ((n, l, F) :: r) L ds = betaT r L ds := by rw [betaT, if_neg h1]
      rw [e]
      exact betaT_ok (fun q hq => h q (by simp [hq])) L ds
theorem lcW_mem {cl : List Nat} {ws : List Str} {c : Nat} {w : Str} (h : lcW cl ws c = some w) : c ∈ cl ∧ ∃ j, cl.findIdx? (fun b => c == b) = some j ∧ ws[j]? = some w := by
  unfold lcW at h
  cases q : cl.findIdx? (fun b => c == b) with
  | none => rw [q] at h; cases h
  | some j =>
    rw [q] at h
    obtain ⟨hjl, hj3, _⟩ := List.findIdx?_eq_some_iff_getElem.1 q
    have : c = cl[j] := eq_of_beq hj3
    exact ⟨by rw [this]; exact List.getElem_mem _, j, rfl, h⟩
end PB

namespace LW
open PySem PySem.Spec PyProof.Rows L2 PB
def top (i : Nat) : Stmt := PySem.Challenge.pw_pagebreaks_k64_formats.main.body.getD i (.Pass ⟨0, 0, 0, 0⟩)
abbrev s_is_int : Stmt := top 23
abbrev s_is_block : Stmt := top 24
abbrev s_size_of : Stmt := top 25
abbrev s_is_document : Stmt := top 26
abbrev s_is_rule : Stmt := top 27
abbrev s_check_document : Stmt := top 28
abbrev s_check_both : Stmt := top 29
abbrev s_check_three : Stmt := top 30
abbrev s_find_ends : Stmt := top 31
abbrev s_find_parts : Stmt := top 32
abbrev s_find_longest : Stmt := top 33
abbrev s_has_pagination : Stmt := top 35
abbrev s_has_room : Stmt := top 36
abbrev s_find_filled : Stmt := top 37
abbrev s_filled : Stmt := top 38
abbrev s_check_pagination : Stmt := top 40
abbrev s_block_text : Stmt := top 46
abbrev s_document_text : Stmt := top 47
abbrev s_format_document : Stmt := top 48
abbrev s_read_number : Stmt := top 49
abbrev s_read_block : Stmt := top 50
abbrev s_check_text : Stmt := top 51
abbrev s_parse_document : Stmt := top 52
abbrev s_pagination_text : Stmt := top 53
abbrev s_format_pagination : Stmt := top 54
abbrev s_parse_pagination : Stmt := top 55
abbrev s__law_pick : Stmt := top 57
abbrev s__law_paper : Stmt := top 58
abbrev s__law_rule : Stmt := top 59
abbrev s__law_class : Stmt := top 60
abbrev s__law_result : Stmt := top 61
abbrev s__law_all : Stmt := top 62
abbrev s_law : Stmt := top 63
def d_is_int : He.DefD := ⟨("is_int", none), "is_int", "is_int", defArgs s_is_int, defBody s_is_int, defScope s_is_int, [], []⟩
def d_is_block : He.DefD := ⟨("is_block", none), "is_block", "is_block", defArgs s_is_block, defBody s_is_block, defScope s_is_block, [], []⟩
def d_size_of : He.DefD := ⟨("size_of", none), "size_of", "size_of", defArgs s_size_of, defBody s_size_of, defScope s_size_of, [], []⟩
def d_is_document : He.DefD := ⟨("is_document", none), "is_document", "is_document", defArgs s_is_document, defBody s_is_document, defScope s_is_document, [], []⟩
def d_is_rule : He.DefD := ⟨("is_rule", none), "is_rule", "is_rule", defArgs s_is_rule, defBody s_is_rule, defScope s_is_rule, [], []⟩
def d_check_document : He.DefD := ⟨("check_document", none), "check_document", "check_document", defArgs s_check_document, defBody s_check_document, defScope s_check_document, [], []⟩
def d_check_both : He.DefD := ⟨("check_both", none), "check_both", "check_both", defArgs s_check_both, defBody s_check_both, defScope s_check_both, [], []⟩
def d_check_three : He.DefD := ⟨("check_three", none), "check_three", "check_three", defArgs s_check_three, defBody s_check_three, defScope s_check_three, [], []⟩
def d_find_ends : He.DefD := ⟨("find_ends", none), "find_ends", "find_ends", defArgs s_find_ends, defBody s_find_ends, defScope s_find_ends, [], []⟩
def d_find_parts : He.DefD := ⟨("find_parts", none), "find_parts", "find_parts", defArgs s_find_parts, defBody s_find_parts, defScope s_find_parts, [], []⟩
def d_find_longest : He.DefD := ⟨("find_longest", none), "find_longest", "find_longest", defArgs s_find_longest, defBody s_find_longest, defScope s_find_longest, [], []⟩
def d_has_pagination : He.DefD := ⟨("has_pagination", none), "has_pagination", "has_pagination", defArgs s_has_pagination, defBody s_has_pagination, defScope s_has_pagination, [], []⟩
def d_has_room : He.DefD := ⟨("has_room", none), "has_room", "has_room", defArgs s_has_room, defBody s_has_room, defScope s_has_room, [], []⟩
def d_find_filled : He.DefD := ⟨("find_filled", none), "find_filled", "find_filled", defArgs s_find_filled, defBody s_find_filled, defScope s_find_filled, [], []⟩
def d_filled : He.DefD := ⟨("filled", none), "filled", "filled", defArgs s_filled, defBody s_filled, defScope s_filled, [], []⟩
def d_check_pagination : He.DefD := ⟨("check_pagination", none), "check_pagination", "check_pagination", defArgs s_check_pagination, defBody s_check_pagination, defScope s_check_pagination, [], []⟩
def d_block_text : He.DefD := ⟨("block_text", none), "block_text", "block_text", defArgs s_block_text, defBody s_block_text, defScope s_block_text, [], []⟩
def d_document_text : He.DefD := ⟨("document_text", none), "document_text", "document_text", defArgs s_document_text, defBody s_document_text, defScope s_document_text, [], []⟩
def d_format_document : He.DefD := ⟨("format_document", none), "format_document", "format_document", defArgs s_format_document, defBody s_format_document, defScope s_format_document, [], []⟩
def d_read_number : He.DefD := ⟨("read_number", none), "read_number", "read_number", defArgs s_read_number, defBody s_read_number, defScope s_read_number, [], []⟩
def d_read_block : He.DefD := ⟨("read_block", none), "read_block", "read_block", defArgs s_read_block, defBody s_read_block, defScope s_read_block, [], []⟩
def d_check_text : He.DefD := ⟨("check_text", none), "check_text", "check_text", defArgs s_check_text, defBody s_check_text, defScope s_check_text, [], []⟩
def d_parse_document : He.DefD := ⟨("parse_document", none), "parse_document", "parse_document", defArgs s_parse_document, defBody s_parse_document, defScope s_parse_document, [], []⟩
def d_pagination_text : He.DefD := ⟨("pagination_text", none), "pagination_text", "pagination_text", defArgs s_pagination_text, defBody s_pagination_text, defScope s_pagination_text, [], []⟩
def d_format_pagination : He.DefD := ⟨("format_pagination", none), "format_pagination", "format_pagination", defArgs s_format_pagination, defBody s_format_pagination, defScope s_format_pagination, [], []⟩
def d_parse_pagination : He.DefD := ⟨("parse_pagination", none), "parse_pagination", "parse_pagination", defArgs s_parse_pagination, defBody s_parse_pagination, defScope s_parse_pagination, [], []⟩
def d__law_pick : He.DefD := ⟨("_law_pick", none), "_law_pick", "_law_pick", defArgs s__law_pick, defBody s__law_pick, defScope s__law_pick, [], []⟩
def d__law_paper : He.DefD := ⟨("_law_paper", none), "_law_paper", "_law_paper", defArgs s__law_paper, defBody s__law_paper, defScope s__law_paper, [], []⟩
def d__law_rule : He.DefD := ⟨("_law_rule", none), "_law_rule", "_law_rule", defArgs s__law_rule, defBody s__law_rule, defScope s__law_rule, [], []⟩
def d__law_class : He.DefD := ⟨("_law_class", none), "_law_class", "_law_class", defArgs s__law_class, defBody s__law_class, defScope s__law_class, [], []⟩
def d__law_result : He.DefD := ⟨("_law_result", none), "_law_result", "_law_result", defArgs s__law_result, defBody s__law_result, defScope s__law_result, [], []⟩
def d__law_all : He.DefD := ⟨("_law_all", none), "_law_all", "_law_all", defArgs s__law_all, defBody s__law_all, defScope s__law_all, [], []⟩
def d_law : He.DefD := ⟨("law", none), "law", "law", defArgs s_law, defBody s_law, defScope s_law, [], []⟩
def fn0 : List He.DefD := [d_is_int, d_is_block, d_size_of, d_is_document, d_is_rule, d_check_document, d_check_both, d_check_three, d_find_ends, d_find_parts, d_find_longest, d_has_pagination, d_has_room, d_find_filled, d_filled, d_check_pagination, d_block_text, d_document_text, d_format_document, d_read_number, d_read_block, d_check_text, d_parse_document, d_pagination_text, d_format_pagination, d_parse_pagination, d__law_pick, d__law_paper, d__law_rule, d__law_class]
def fn1 : List He.DefD := [d__law_result, d__law_all, d_law]
def fn : List He.DefD := fn0 ++ fn1
def fa0 : List He.Fa := [.glo "is_int", .glo "is_block", .glo "size_of", .glo "is_document", .glo "is_rule", .glo "check_document", .glo "check_both", .glo "check_three", .glo "find_ends", .glo "find_parts", .glo "find_longest", .glo "has_pagination", .glo "has_room", .glo "find_filled", .glo "filled", .glo "check_pagination", .glo "block_text", .glo "document_text", .glo "format_document", .glo "read_number", .glo "read_block", .glo "check_text", .glo "parse_document", .glo "pagination_text", .glo "format_pagination", .glo "parse_pagination", .glo "_law_pick", .glo "_law_paper", .glo "_law_rule", .glo "_law_class"]
def fa1 : List He.Fa := [.glo "_law_result", .glo "_law_all", .glo "law", .glo "PageError", .glo "InvalidDocument", .glo "InvalidRule", .glo "InvalidHeight", .glo "InvalidNumber", .glo "InvalidPagination", .glo "TooLarge", .glo "InvalidStarts", .glo "InvalidNotes", .glo "InvalidBlock", .glo "LastBlock", .glo "InvalidMark", .glo "NothingToUndo", .glo "ParseError", .free "ValueError", .free "all", .free "bool", .free "enumerate", .free "int", .free "isinstance", .free "len", .free "list", .free "max", .free "range", .free "str", .free "sum", .free "tuple"]
def fa2 : List He.Fa := [.free "zip", .int "MAX_LINES" 12, .int "MAX_BLOCKS" 8, .int "MAX_SIZE" 40, .int "MAX_KEPT" 4, .int "MAX_DIGITS" 2, .str "PLAIN" "", .str "SOLID" "solid", .str "HEAD" "head", .str "DIGITS" "0123456789", .str "BETWEEN" " ", .str "PLUS" "+", .exc "PageError", .exc "InvalidDocument", .exc "InvalidRule", .exc "InvalidHeight", .exc "InvalidNumber", .exc "InvalidPagination", .exc "TooLarge", .exc "InvalidStarts", .exc "InvalidNotes", .exc "InvalidBlock", .exc "LastBlock", .exc "InvalidMark", .exc "NothingToUndo", .exc "ParseError", .exm "PageError" "PageError" true, .exm "InvalidDocument" "PageError" true, .exm "InvalidRule" "PageError" true, .exm "InvalidHeight" "PageError" true]
def fa3 : List He.Fa := [.exm "InvalidNumber" "PageError" true, .exm "InvalidPagination" "PageError" true, .exm "TooLarge" "PageError" true, .exm "InvalidStarts" "PageError" true, .exm "InvalidNotes" "PageError" true, .exm "InvalidBlock" "PageError" true, .exm "LastBlock" "PageError" true, .exm "InvalidMark" "PageError" true, .exm "NothingToUndo" "PageError" true, .exm "ParseError" "PageError" true]
def fa : List He.Fa := fa0 ++ fa1 ++ fa2 ++ fa3
def lo0 : List PySem.Str := ["PageError", "InvalidDocument", "InvalidRule", "InvalidHeight", "InvalidNumber", "InvalidPagination", "TooLarge", "InvalidStarts", "InvalidNotes", "InvalidBlock", "LastBlock", "InvalidMark", "NothingToUndo", "ParseError", "MAX_LINES", "MAX_BLOCKS", "MAX_SIZE", "MAX_KEPT", "PLAIN", "SOLID", "HEAD", "is_int", "is_block", "size_of", "is_document", "is_rule", "check_document", "check_both", "check_three", "find_ends"]
def lo1 : List PySem.Str := ["find_parts", "find_longest", "has_pagination", "has_room", "find_filled", "filled", "check_pagination", "DIGITS", "MAX_DIGITS", "BETWEEN", "PLUS", "block_text", "document_text", "format_document", "read_number", "read_block", "check_text", "parse_document", "pagination_text", "format_pagination", "parse_pagination", "_law_pick", "_law_paper", "_law_rule", "_law_class", "_law_result", "_law_all"]
def loose : List PySem.Str := lo0 ++ lo1
def excN : List PySem.Str := ["PageError", "InvalidDocument", "InvalidRule", "InvalidHeight", "InvalidNumber", "InvalidPagination", "TooLarge", "InvalidStarts", "InvalidNotes", "InvalidBlock", "LastBlock", "InvalidMark", "NothingToUndo", "ParseError"]
def ecs (K : PySem.W.Frag) (c : Nat) : Addr := He.ga K (excN.getD c "")
abbrev x_PageError : Nat := 0
abbrev x_InvalidDocument : Nat := 1
abbrev x_InvalidRule : Nat := 2
abbrev x_InvalidHeight : Nat := 3
abbrev x_InvalidNumber : Nat := 4
abbrev x_InvalidPagination : Nat := 5
abbrev x_TooLarge : Nat := 6
abbrev x_InvalidStarts : Nat := 7
abbrev x_InvalidNotes : Nat := 8
abbrev x_InvalidBlock : Nat := 9
abbrev x_LastBlock : Nat := 10
abbrev x_InvalidMark : Nat := 11
abbrev x_NothingToUndo : Nat := 12
abbrev x_ParseError : Nat := 13
def exL : List PySem.Str := ["InvalidDocument", "InvalidRule", "InvalidHeight", "InvalidNumber", "InvalidPagination", "TooLarge", "InvalidStarts", "InvalidNotes", "InvalidBlock", "LastBlock", "InvalidMark", "NothingToUndo", "ParseError"]
def tf : List He.Defn := [("law", none)]
theorem exf {K : PySem.W.Frag} (Z : exA exL tf K = true) (cl : List Nat) (h1 : (cl.all fun a => exL.contains (excN.getD a "")) = true) (h2 : (cl.all fun a => cl.all fun b => (excN.getD a "" == excN.getD b "") == (a == b)) = true) : ExF K (ecs K) cl := exf_of (exA_b Z) rfl h1 h2
section
variable {K : PySem.W.Frag} {mg : Str → Option Value}
theorem g_ValueError (T : Tx fa fn K mg) : mg "ValueError" = none := tx_free T 47 rfl
theorem g_all (T : Tx fa fn K mg) : mg "all" = none := tx_free T 48 rfl
theorem g_bool (T : Tx fa fn K mg) : mg "bool" = none := tx_free T 49 rfl
theorem g_enumerate (T : Tx fa fn K mg) : mg "enumerate" = none := tx_free T 50 rfl
theorem g_int (T : Tx fa fn K mg) : mg "int" = none := tx_free T 51 rfl
theorem g_isinstance (T : Tx fa fn K mg) : mg "isinstance" = none := tx_free T 52 rfl
theorem g_len (T : Tx fa fn K mg) : mg "len" = none := tx_free T 53 rfl
theorem g_list (T : Tx fa fn K mg) : mg "list" = none := tx_free T 54 rfl
theorem g_max (T : Tx fa fn K mg) : mg "max" = none := tx_free T 55 rfl
theorem g_range (T : Tx fa fn K mg) : mg "range" = none := tx_free T 56 rfl
theorem g_str (T : Tx fa fn K mg) : mg "str" = none := tx_free T 57 rfl
theorem g_sum (T : Tx fa fn K mg) : mg "sum" = none := tx_free T 58 rfl
theorem g_tuple (T : Tx fa fn K mg) : mg "tuple" = none := tx_free T 59 rfl
theorem g_zip (T : Tx fa fn K mg) : mg "zip" = none := tx_free T 60 rfl
theorem g_MAX_LINES (T : Tx fa fn K mg) : ∃ t, mg "MAX_LINES" = some (.int 12 t) := tx_int T 61 rfl
theorem g_MAX_BLOCKS (T : Tx fa fn K mg) : ∃ t, mg "MAX_BLOCKS" = some (.int 8 t) := tx_int T 62 rfl
theorem g_MAX_SIZE (T : Tx fa fn K mg) : ∃ t, mg "MAX_SIZE" = some (.int 40 t) := tx_int T 63 rfl
theorem g_MAX_KEPT (T : Tx fa fn K mg) : ∃ t, mg "MAX_KEPT" = some (.int 4 t) := tx_int T 64 rfl
theorem g_MAX_DIGITS (T : Tx fa fn K mg) : ∃ t, mg "MAX_DIGITS" = some (.int 2 t) := tx_int T 65 rfl
theorem g_PLAIN (T : Tx fa fn K mg) : ∃ t, mg "PLAIN" = some (.str "" t) := tx_str T 66 rfl
theorem g_SOLID (T : Tx fa fn K mg) : ∃ t, mg "SOLID" = some (.str "solid" t) := tx_str T 67 rfl
theorem g_HEAD (T : Tx fa fn K mg) : ∃ t, mg "HEAD" = some (.str "head" t) := tx_str T 68 rfl
theorem g_DIGITS (T : Tx fa fn K mg) : ∃ t, mg "DIGITS" = some (.str "0123456789" t) := tx_str T 69 rfl
theorem g_BETWEEN (T : Tx fa fn K mg) : ∃ t, mg "BETWEEN" = some (.str " " t) := tx_str T 70 rfl
theorem g_PLUS (T : Tx fa fn K mg) : ∃ t, mg "PLUS" = some (.str "+" t) := tx_str T 71 rfl
theorem mk_PageError (T : Tx fa fn K mg) {X : Cx} (eK : X.K = K) (eM : X.mg = mg) {m : Str} {jj : Nat} {p p2 pos : Pos} (hg : Gl X "PageError" := by rfl) : PMk X (.Call (.Name "PageError" p) [.Constant (.str m) jj p2] [] pos) (fun _ H Q => Q (.ref (ecs K 0)) none H) := tx_mk T 72 33 eK eM rfl rfl hg
theorem mk_InvalidDocument (T : Tx fa fn K mg) {X : Cx} (eK : X.K = K) (eM : X.mg = mg) {m : Str} {jj : Nat} {p p2 pos : Pos} (hg : Gl X "InvalidDocument" := by rfl) : PMk X (.Call (.Name "InvalidDocument" p) [.Constant (.str m) jj p2] [] pos) (fun _ H Q => Q (.ref (ecs K 1)) none H) := tx_mk T 73 34 eK eM rfl rfl hg
theorem mk_InvalidRule (T : Tx fa fn K mg) {X : Cx} (eK : X.K = K) (eM : X.mg = mg) {m : Str} {jj : Nat} {p p2 pos : Pos} (hg : Gl X "InvalidRule" := by rfl) : PMk X (.Call (.Name "InvalidRule" p) [.Constant (.str m) jj p2] [] pos) (fun _ H Q => Q (.ref (ecs K 2)) none H) := tx_mk T 74 35 eK eM rfl rfl hg
theorem mk_InvalidHeight (T : Tx fa fn K mg) {X : Cx} (eK : X.K = K) (eM : X.mg = mg) {m : Str} {jj : Nat} {p p2 pos : Pos} (hg : Gl X "InvalidHeight" := by rfl) : PMk X (.Call (.Name "InvalidHeight" p) [.Constant (.str m) jj p2] [] pos) (fun _ H Q => Q (.ref (ecs K 3)) none H) := tx_mk T 75 36 eK eM rfl rfl hg
theorem mk_InvalidNumber (T : Tx fa fn K mg) {X : Cx} (eK : X.K = K) (eM : X.mg = mg) {m : Str} {jj : Nat} {p p2 pos : Pos} (hg : Gl X "InvalidNumber" := by rfl) : PMk X (.Call (.Name "InvalidNumber" p) [.Constant (.str m) jj p2] [] pos) (fun _ H Q => Q (.ref (ecs K 4)) none H) := tx_mk T 76 37 eK eM rfl rfl hg
theorem mk_InvalidPagination (T : Tx fa fn K mg) {X : Cx} (eK : X.K = K) (eM : X.mg = mg) {m : Str} {jj : Nat} {p p2 pos : Pos} (hg : Gl X "InvalidPagination" := by rfl) : PMk X (.Call (.Name "InvalidPagination" p) [.Constant (.str m) jj p2] [] pos) (fun _ H Q => Q (.ref (ecs K 5)) none H) := tx_mk T 77 38 eK eM rfl rfl hg
theorem mk_TooLarge (T : Tx fa fn K mg) {X : Cx} (eK : X.K = K) (eM : X.mg = mg) {m : Str} {jj : Nat} {p p2 pos : Pos} (hg : Gl X "TooLarge" := by rfl) : PMk X (.Call (.Name "TooLarge" p) [.Constant (.str m) jj p2] [] pos) (fun _ H Q => Q (.ref (ecs K 6)) none H) := tx_mk T 78 39 eK eM rfl rfl hg
theorem mk_InvalidStarts (T : Tx fa fn K mg) {X : Cx} (eK : X.K = K) (eM : X.mg = mg) {m : Str} {jj : Nat} {p p2 pos : Pos} (hg : Gl X "InvalidStarts" := by rfl) : PMk X (.Call (.Name "InvalidStarts" p) [.Constant (.str m) jj p2] [] pos) (fun _ H Q => Q (.ref (ecs K 7)) none H) := tx_mk T 79 40 eK eM rfl rfl hg
theorem mk_InvalidNotes (T : Tx fa fn K mg) {X : Cx} (eK : X.K = K) (eM : X.mg = mg) {m : Str} {jj : Nat} {p p2 pos : Pos} (hg : Gl X "InvalidNotes" := by rfl) : PMk X (.Call (.Name "InvalidNotes" p) [.Constant (.str m) jj p2] [] pos) (fun _ H Q => Q (.ref (ecs K 8)) none H) := tx_mk T 80 41 eK eM rfl rfl hg
theorem mk_InvalidBlock (T : Tx fa fn K mg) {X : Cx} (eK : X.K = K) (eM : X.mg = mg) {m : Str} {jj : Nat} {p p2 pos : Pos} (hg : Gl X "InvalidBlock" := by rfl) : PMk X (.Call (.Name "InvalidBlock" p) [.Constant (.str m) jj p2] [] pos) (fun _ H Q => Q (.ref (ecs K 9)) none H) := tx_mk T 81 42 eK eM rfl rfl hg
theorem mk_LastBlock (T : Tx fa fn K mg) {X : Cx} (eK : X.K = K) (eM : X.mg = mg) {m : Str} {jj : Nat} {p p2 pos : Pos} (hg : Gl X "LastBlock" := by rfl) : PMk X (.Call (.Name "LastBlock" p) [.Constant (.str m) jj p2] [] pos) (fun _ H Q => Q (.ref (ecs K 10)) none H) := tx_mk T 82 43 eK eM rfl rfl hg
theorem mk_InvalidMark (T : Tx fa fn K mg) {X : Cx} (eK : X.K = K) (eM : X.mg = mg) {m : Str} {jj : Nat} {p p2 pos : Pos} (hg : Gl X "InvalidMark" := by rfl) : PMk X (.Call (.Name "InvalidMark" p) [.Constant (.str m) jj p2] [] pos) (fun _ H Q => Q (.ref (ecs K 11)) none H) := tx_mk T 83 44 eK eM rfl rfl hg
theorem mk_NothingToUndo (T : Tx fa fn K mg) {X : Cx} (eK : X.K = K) (eM : X.mg = mg) {m : Str} {jj : Nat} {p p2 pos : Pos} (hg : Gl X "NothingToUndo" := by rfl) : PMk X (.Call (.Name "NothingToUndo" p) [.Constant (.str m) jj p2] [] pos) (fun _ H Q => Q (.ref (ecs K 12)) none H) := tx_mk T 84 45 eK eM rfl rfl hg
theorem mk_ParseError (T : Tx fa fn K mg) {X : Cx} (eK : X.K = K) (eM : X.mg = mg) {m : Str} {jj : Nat} {p p2 pos : Pos} (hg : Gl X "ParseError" := by rfl) : PMk X (.Call (.Name "ParseError" p) [.Constant (.str m) jj p2] [] pos) (fun _ H Q => Q (.ref (ecs K 13)) none H) := tx_mk T 85 46 eK eM rfl rfl hg
end
noncomputable section
def S_is_int : Sl → Rs Out := (sRet (eAnd (eUn (dIsi .int) (eVar 0)) (eAnd (eNot (eUn (dIsi .bool) (eVar 0))) (eChain dLe dLe (eVar 1) (eVar 0) (eVar 2)))))
def m_is_int : List D → Rs D := runF 3 3 S_is_int
def S_is_block : Sl → Rs Out := (seqS (sIf (cOr (cNot (cE (eUn (dIsi .tuple) (eVar 0)))) (cOr (cE (eBin dNe (eCall gLen (aCons (eVar 0) aNil)) (eC (.int 2)))) (cNot (cE (eF m_is_int (aCons (eBin dIx (eVar 0) (eC (.int 0))) (aCons (eC (.int 1)) (aCons (eC (.int 12)) aNil)))))))) (sRet (eC (.bl false))) sNil)
    (sRet (eAnd (eUn (dIsi .str) (eBin dIx (eVar 0) (eC (.int 1)))) (eBin dIn (eBin dIx (eVar 0) (eC (.int 1))) (eTup (aCons (eC (.str "")) (aCons (eC (.str "solid")) (aCons (eC (.str "head")) aNil))))))))
def m_is_block : List D → Rs D := runF 1 1 S_is_block
def S_size_of : Sl → Rs Out := (sRet (eCall gSum (aCons (eLc (sSeq (eVar 0)) [1, 2] (tgTup (tgCons (tgName 1) (tgCons (tgName 2) tgNil))) cYes (eVar 1)) aNil)))
def m_size_of : List D → Rs D := runF 1 3 S_size_of
def S_is_document : Sl → Rs Out := (seqS (sIf (cOr (cNot (cE (eUn (dIsi .tuple) (eVar 0)))) (cNot (cE (eChain dLe dLe (eC (.int 1)) (eCall gLen (aCons (eVar 0) aNil)) (eC (.int 8)))))) (sRet (eC (.bl false))) sNil)
    (sRet (eAnd (eCall gAll (aCons (eLc (sSeq (eVar 0)) [1] (tgName 1) cYes (eF m_is_block (aCons (eVar 1) aNil))) aNil)) (eBin dLe (eF m_size_of (aCons (eVar 0) aNil)) (eC (.int 40))))))
def m_is_document : List D → Rs D := runF 1 2 S_is_document
def S_is_rule : Sl → Rs Out := (seqS (sIf (cOr (cNot (cE (eUn (dIsi .tuple) (eVar 0)))) (cE (eBin dNe (eCall gLen (aCons (eVar 0) aNil)) (eC (.int 2))))) (sRet (eC (.bl false))) sNil)
    (sRet (eCall gAll (aCons (eLc (sSeq (eVar 0)) [1] (tgName 1) cYes (eF m_is_int (aCons (eVar 1) (aCons (eC (.int 1)) (aCons (eC (.int 4)) aNil))))) aNil))))
def m_is_rule : List D → Rs D := runF 1 2 S_is_rule
def S_check_document : Sl → Rs Out := (sIf (cNot (cE (eF m_is_document (aCons (eVar 0) aNil)))) (sRaise 1) sNil)
def m_check_document : List D → Rs D := runF 1 1 S_check_document
def S_check_both : Sl → Rs Out := (seqS (sExpr (eF m_check_document (aCons (eVar 0) aNil)))
    (sIf (cNot (cE (eF m_is_rule (aCons (eVar 1) aNil)))) (sRaise 2) sNil))
def m_check_both : List D → Rs D := runF 2 2 S_check_both
def S_check_three : Sl → Rs Out := (seqS (sExpr (eF m_check_both (aCons (eVar 0) (aCons (eVar 1) aNil))))
    (sIf (cNot (cE (eF m_is_int (aCons (eVar 2) (aCons (eC (.int 1)) (aCons (eC (.int 40)) aNil)))))) (sRaise 3) sNil))
def m_check_three : List D → Rs D := runF 3 3 S_check_three
def S_find_ends : Sl → Rs Out := (seqS (sAsg [] (tgTup (tgCons (tgName 2) (tgCons (tgName 3) tgNil))) (eVar 1))
    (seqS (sNew2 [] 4 5 (aCons (eC (.int 0)) aNil))
    (seqS (sFor [4] (sEnum (aCons (eVar 0) aNil)) (tgTup (tgCons (tgName 6) (tgCons (tgTup (tgCons (tgName 7) (tgCons (tgName 8) tgNil))) tgNil))) (seqS (sIf (cE (eBin dEq (eVar 8) (eC (.str "")))) (sExt [4] 4 (aCons (eBin dRg (eBin dAdd (eVar 5) (eVar 2)) (eBin dAdd (eBin dSub (eBin dAdd (eVar 5) (eVar 7)) (eVar 3)) (eC (.int 1)))) aNil)) sNil)
    (seqS (sAsg [4] (tgName 5) (eBin dAdd (eVar 5) (eVar 7)))
    (sIf (cOr (cE (eBin dNe (eVar 8) (eC (.str "head")))) (cE (eBin dEq (eVar 6) (eBin dSub (eCall gLen (aCons (eVar 0) aNil)) (eC (.int 1)))))) (sApp [4] 4 (aCons (eVar 5) aNil)) sNil))))
    (sRet (eVar 4)))))
def m_find_ends : List D → Rs D := runF 2 9 S_find_ends
def S_find_parts : Sl → Rs Out := (seqS (sAsg [] (tgName 2) (eF m_find_ends (aCons (eVar 0) (aCons (eVar 1) aNil))))
    (sRet (eBin dZip (eBin dAdd (eLst (aCons (eC (.int 0)) aNil)) (eCut (eVar 2) pNone (pSome (eUn dNeg (eC (.int 1)))))) (eVar 2))))
def m_find_parts : List D → Rs D := runF 2 3 S_find_parts
def S_find_longest : Sl → Rs Out := (sRet (eCall gMax (aCons (eLc (sSeq (eF m_find_parts (aCons (eVar 0) (aCons (eVar 1) aNil)))) [2, 3] (tgTup (tgCons (tgName 2) (tgCons (tgName 3) tgNil))) cYes (eBin dSub (eVar 3) (eVar 2))) aNil)))
def m_find_longest : List D → Rs D := runF 2 4 S_find_longest
def S_has_pagination : Sl → Rs Out := (seqS (sAsg [] (tgName 4) (eF m_find_ends (aCons (eVar 0) (aCons (eVar 1) aNil))))
    (seqS (sIf (cOr (cNot (cE (eUn (dIsi .tuple) (eVar 3)))) (cE (eBin dEq (eVar 3) (eTup aNil)))) (sRet (eC (.bl false))) sNil)
    (seqS (sIf (cNot (cE (eCall gAll (aCons (eLc (sSeq (eVar 3)) [5] (tgName 5) cYes (eF m_is_int (aCons (eVar 5) (aCons (eC (.int 1)) (aCons (eBin dIx (eVar 4) (eUn dNeg (eC (.int 1)))) aNil))))) aNil)))) (sRet (eC (.bl false))) sNil)
    (seqS (sIf (cOr (cE (eBin dNe (eBin dIx (eVar 3) (eUn dNeg (eC (.int 1)))) (eBin dIx (eVar 4) (eUn dNeg (eC (.int 1)))))) (cNot (cE (eCall gAll (aCons (eLc (sSeq (eVar 3)) [5] (tgName 5) cYes (eBin dIn (eVar 5) (eVar 4))) aNil))))) (sRet (eC (.bl false))) sNil)
    (sRet (eCall gAll (aCons (eLc (sZip (aCons (eBin dAdd (eTup (aCons (eC (.int 0)) aNil)) (eVar 3)) (aCons (eVar 3) aNil))) [6, 5] (tgTup (tgCons (tgName 6) (tgCons (tgName 5) tgNil))) cYes (eChain dLt dLe (eC (.int 0)) (eBin dSub (eVar 5) (eVar 6)) (eVar 2))) aNil)))))))
def m_has_pagination : List D → Rs D := runF 4 7 S_has_pagination
def S_has_room : Sl → Rs Out := (sRet (eBin dLe (eF m_find_longest (aCons (eVar 0) (aCons (eVar 1) aNil))) (eVar 2)))
def m_has_room : List D → Rs D := runF 3 3 S_has_room
def S_find_filled : Sl → Rs Out := (seqS (sIf (cNot (cE (eF m_has_room (aCons (eVar 0) (aCons (eVar 1) (aCons (eVar 2) aNil)))))) (sRet (eC .non)) sNil)
    (seqS (sAsg [] (tgTup (tgCons (tgName 3) (tgCons (tgName 4) (tgCons (tgName 5) tgNil)))) (eTup (aCons (eF m_find_ends (aCons (eVar 0) (aCons (eVar 1) aNil))) (aCons (eTup aNil) (aCons (eC (.int 0)) aNil)))))
    (seqS (sWhile 100000 (cE (eBin dLt (eVar 5) (eF m_size_of (aCons (eVar 0) aNil)))) (seqS (sAsg [] (tgName 5) (eCall gMax (aCons (eLc (sSeq (eVar 3)) [6] (tgName 6) (cE (eBin dLe (eVar 6) (eBin dAdd (eVar 5) (eVar 2)))) (eVar 6)) aNil)))
    (sAsg [] (tgName 4) (eBin dAdd (eVar 4) (eTup (aCons (eVar 5) aNil))))))
    (sRet (eVar 4)))))
def m_find_filled : List D → Rs D := runF 3 7 S_find_filled
def S_filled : Sl → Rs Out := (seqS (sExpr (eF m_check_three (aCons (eVar 0) (aCons (eVar 1) (aCons (eVar 2) aNil)))))
    (sRet (eF m_find_filled (aCons (eVar 0) (aCons (eVar 1) (aCons (eVar 2) aNil))))))
def m_filled : List D → Rs D := runF 3 3 S_filled
def S_check_pagination : Sl → Rs Out := (seqS (sExpr (eF m_check_three (aCons (eVar 0) (aCons (eVar 1) (aCons (eVar 2) aNil)))))
    (sIf (cNot (cE (eF m_has_pagination (aCons (eVar 0) (aCons (eVar 1) (aCons (eVar 2) (aCons (eVar 3) aNil))))))) (sRaise 5) sNil))
def m_check_pagination : List D → Rs D := runF 4 4 S_check_pagination
def S_block_text : Sl → Rs Out := (seqS (sAsg [] (tgTup (tgCons (tgName 1) (tgCons (tgName 2) tgNil))) (eVar 0))
    (sRet (eBin dAdd (eCall gStr (aCons (eVar 1) aNil)) (eIf (cE (eBin dEq (eVar 2) (eC (.str "solid")))) (eC (.str "s")) (eIf (cE (eBin dEq (eVar 2) (eC (.str "head")))) (eC (.str "h")) (eC (.str "")))))))
def m_block_text : List D → Rs D := runF 1 3 S_block_text
def S_document_text : Sl → Rs Out := (sRet (eM1 dJoin (eC (.str " ")) (eLc (sSeq (eVar 0)) [1] (tgName 1) cYes (eF m_block_text (aCons (eVar 1) aNil)))))
def m_document_text : List D → Rs D := runF 1 2 S_document_text
def S_format_document : Sl → Rs Out := (seqS (sExpr (eF m_check_document (aCons (eVar 0) aNil)))
    (sRet (eF m_document_text (aCons (eVar 0) aNil))))
def m_format_document : List D → Rs D := runF 1 1 S_format_document
def S_read_number : Sl → Rs Out := (seqS (sIf (cOr (cNot (cE (eChain dLe dLe (eC (.int 1)) (eCall gLen (aCons (eVar 0) aNil)) (eC (.int 2))))) (cNot (cE (eCall gAll (aCons (eLc (sSigns (eVar 0)) [1] (tgName 1) cYes (eBin dInS (eVar 1) (eC (.str "0123456789")))) aNil))))) (sRet (eC .non)) sNil)
    (sRet (eCall gInt (aCons (eVar 0) aNil))))
def m_read_number : List D → Rs D := runF 1 2 S_read_number
def S_read_block : Sl → Rs Out := (seqS (sIf (cE (eBin dEq (eCutS (eVar 0) (pSome (eUn dNeg (eC (.int 1)))) pNone) (eC (.str "s")))) (sRet (eTup (aCons (eF m_read_number (aCons (eCutS (eVar 0) pNone (pSome (eUn dNeg (eC (.int 1))))) aNil)) (aCons (eC (.str "solid")) aNil)))) sNil)
    (sRet (eIf (cE (eBin dEq (eCutS (eVar 0) (pSome (eUn dNeg (eC (.int 1)))) pNone) (eC (.str "h")))) (eTup (aCons (eF m_read_number (aCons (eCutS (eVar 0) pNone (pSome (eUn dNeg (eC (.int 1))))) aNil)) (aCons (eC (.str "head")) aNil))) (eTup (aCons (eF m_read_number (aCons (eVar 0) aNil)) (aCons (eC (.str "")) aNil))))))
def m_read_block : List D → Rs D := runF 1 1 S_read_block
def S_check_text : Sl → Rs Out := (sIf (cNot (cE (eUn (dIsi .str) (eVar 0)))) (sRaise 13) sNil)
def m_check_text : List D → Rs D := runF 1 1 S_check_text
def S_parse_document : Sl → Rs Out := (seqS (sExpr (eF m_check_text (aCons (eVar 0) aNil)))
    (seqS (sAsg [] (tgName 1) (eCall gTuple (aCons (eLc (sSeq (eM1 dSplit (eVar 0) (eC (.str " ")))) [2] (tgName 2) cYes (eF m_read_block (aCons (eVar 2) aNil))) aNil)))
    (seqS (sIf (cOr (cNot (cE (eF m_is_document (aCons (eVar 1) aNil)))) (cE (eBin dNe (eF m_document_text (aCons (eVar 1) aNil)) (eVar 0)))) (sRaise 13) sNil)
    (sRet (eVar 1)))))
def m_parse_document : List D → Rs D := runF 1 3 S_parse_document
def S_pagination_text : Sl → Rs Out := (sRet (eM1 dJoin (eC (.str "+")) (eLc (sZip (aCons (eBin dAdd (eTup (aCons (eC (.int 0)) aNil)) (eVar 0)) (aCons (eVar 0) aNil))) [1, 2] (tgTup (tgCons (tgName 1) (tgCons (tgName 2) tgNil))) cYes (eCall gStr (aCons (eBin dSub (eVar 2) (eVar 1)) aNil)))))
def m_pagination_text : List D → Rs D := runF 1 3 S_pagination_text
def S_format_pagination : Sl → Rs Out := (seqS (sExpr (eF m_check_pagination (aCons (eVar 0) (aCons (eVar 1) (aCons (eVar 2) (aCons (eVar 3) aNil))))))
    (sRet (eF m_pagination_text (aCons (eVar 3) aNil))))
def m_format_pagination : List D → Rs D := runF 4 4 S_format_pagination
def S_parse_pagination : Sl → Rs Out := (seqS (sExpr (eF m_check_three (aCons (eVar 0) (aCons (eVar 1) (aCons (eVar 2) aNil)))))
    (seqS (sExpr (eF m_check_text (aCons (eVar 3) aNil)))
    (seqS (sAsg [] (tgTup (tgCons (tgName 4) (tgCons (tgName 5) tgNil))) (eTup (aCons (eTup aNil) (aCons (eC (.int 0)) aNil))))
    (seqS (sFor [] (sSeq (eM1 dSplit (eVar 3) (eC (.str "+")))) (tgName 6) (seqS (sAsg [] (tgName 7) (eF m_read_number (aCons (eVar 6) aNil)))
    (seqS (sAsg [] (tgName 5) (eBin dAdd (eVar 5) (eIf (cE (eBin dNotN (eVar 7) (eC .non))) (eVar 7) (eC (.int 0)))))
    (sAsg [] (tgName 4) (eBin dAdd (eVar 4) (eTup (aCons (eVar 5) aNil)))))))
    (seqS (sIf (cOr (cNot (cE (eF m_has_pagination (aCons (eVar 0) (aCons (eVar 1) (aCons (eVar 2) (aCons (eVar 4) aNil))))))) (cE (eBin dNe (eF m_pagination_text (aCons (eVar 4) aNil)) (eVar 3)))) (sRaise 13) sNil)
    (sRet (eVar 4)))))))
def m_parse_pagination : List D → Rs D := runF 4 8 S_parse_pagination
def S__law_pick : Sl → Rs Out := (seqS (sAsg [] (tgName 3) (eIf (cE (eBin dNe (eVar 0) (eLst aNil))) (eBin dIx (eVar 0) (eBin dMod (eVar 1) (eCall gLen (aCons (eVar 0) aNil)))) (eC (.int 0))))
    (seqS (sAsg [] (tg2 4 5) (eTup (aCons (eBin dDiv (eVar 3) (eBin dPow (eC (.int 10)) (eC (.int 18)))) (aCons (eBin dDiv (eVar 1) (eCall gMax (aCons (eCall gLen (aCons (eVar 0) aNil)) (aCons (eC (.int 1)) aNil)))) aNil))))
    (seqS (sWhile 100000 (cAnd (cE (eBin dGt (eVar 4) (eC (.int 0)))) (cE (eBin dGt (eVar 5) (eC (.int 0))))) (sAsg [] (tg2 4 5) (eTup (aCons (eBin dDiv (eVar 4) (eC (.int 840))) (aCons (eBin dSub (eVar 5) (eC (.int 1))) aNil)))))
    (seqS (sIf (cE (eBin dGt (eVar 4) (eC (.int 0)))) (sRet (eBin dMod (eBin dMod (eVar 4) (eC (.int 840))) (eVar 2))) sNil)
    (seqS (sAsg [] (tgName 6) (eBin dMod (eBin dMul (eBin dAdd (eBin dMul (eVar 3) (eC (.int 31))) (eBin dMul (eC (.int 6151)) (eBin dAdd (eVar 1) (eC (.int 1))))) (eC (.int 40692))) (eC (.int 2147483399))))
    (sRet (eBin dMod (eBin dMod (eBin dAdd (eBin dMul (eVar 6) (eVar 6)) (eBin dDiv (eVar 6) (eC (.int 31)))) (eC (.int 2147483629))) (eVar 2))))))))
def m__law_pick : List D → Rs D := runF 3 7 S__law_pick
def S__law_paper : Sl → Rs Out := (seqS (sNew [] 3 aNil)
    (seqS (sFor [3] (sRg1 (aCons (eBin dAdd (eC (.int 1)) (eF m__law_pick (aCons (eVar 0) (aCons (eVar 1) (aCons (eVar 2) aNil))))) aNil)) (tgName 4) (seqS (sAsg [3] (tgName 5) (eBin dIx (eTup (aCons (eC (.str "")) (aCons (eC (.str "")) (aCons (eC (.str "")) (aCons (eC (.str "solid")) (aCons (eC (.str "head")) aNil)))))) (eF m__law_pick (aCons (eVar 0) (aCons (eBin dAdd (eBin dAdd (eVar 1) (eC (.int 1))) (eBin dMul (eC (.int 2)) (eVar 4))) (aCons (eC (.int 5)) aNil))))))
    (sApp [3] 3 (aCons (eTup (aCons (eBin dAdd (eC (.int 1)) (eF m__law_pick (aCons (eVar 0) (aCons (eBin dAdd (eBin dAdd (eVar 1) (eC (.int 2))) (eBin dMul (eC (.int 2)) (eVar 4))) (aCons (eC (.int 5)) aNil))))) (aCons (eVar 5) aNil))) aNil))))
    (sRet (eCall gTuple (aCons (eVar 3) aNil)))))
def m__law_paper : List D → Rs D := runF 3 6 S__law_paper
def S__law_rule : Sl → Rs Out := (sRet (eTup (aCons (eBin dAdd (eC (.int 1)) (eF m__law_pick (aCons (eVar 0) (aCons (eVar 1) (aCons (eC (.int 3)) aNil))))) (aCons (eBin dAdd (eC (.int 1)) (eF m__law_pick (aCons (eVar 0) (aCons (eBin dAdd (eVar 1) (eC (.int 1))) (aCons (eC (.int 3)) aNil))))) aNil))))
def m__law_rule : List D → Rs D := runF 2 2 S__law_rule
abbrev clsL : List Nat := [1, 2, 3, 4, 5, 6, 7, 8, 9, 10, 11, 12, 13]
abbrev clsW : List Str := ["InvalidDocument", "InvalidRule", "InvalidHeight", "InvalidNumber", "InvalidPagination", "TooLarge", "InvalidStarts", "InvalidNotes", "InvalidBlock", "LastBlock", "InvalidMark", "NothingToUndo", "ParseError"]
def lam_law_0 : LamD := mkLam "law.<locals>.<lambda>" (kE (kE (kE (kX (kS (kS (kS (kS s_law 0) 5) 3) 0) 0) 0) 1) 0)
def f_law_0 : Sl → Rs D := (eF m_parse_pagination (aCons (eVar 1) (aCons (eVar 0) (aCons (eVar 2) (aCons (eVar 3) aNil)))))
def lam_law_1 : LamD := mkLam "law.<locals>.<lambda>" (kE (kE (kE (kX (kS (kS s_law 4) 0) 0) 0) 1) 0)
def f_law_1 : Sl → Rs D := (eF m_parse_document (aCons (eVar 0) aNil))
def tblL : List (Nat × LamD × (Sl → Rs D)) := [(208041, lam_law_0, f_law_0), (214033, lam_law_1, f_law_1)]
def beta : LamD → List D → Rs D := betaT tblL
def S__law_result : Sl → Rs Out := sTryC (sRet (eCallC beta 0)) clsL clsW "error"
def m__law_result : List D → Rs D := runF 1 2 S__law_result
def S__law_all : Sl → Rs Out := (sRet (eCall gAll (aCons (eLc (sSeq (eVar 0)) [2] (tgName 2) cYes (eBin dEq (eF m__law_result (aCons (eVar 2) aNil)) (eTup (aCons (eC (.str "error")) (aCons (eVar 1) aNil))))) aNil)))
def m__law_all : List D → Rs D := runF 2 3 S__law_all
def S_law (g : List (Str × Addr)) : Sl → Rs Out := (seqS (sFor [] (sRg1 (aCons (eC (.int 3)) aNil)) (tgName 1) (seqS (sAsg [] (tgTup (tgCons (tgName 2) (tgCons (tgName 3) tgNil))) (eTup (aCons (eF m__law_paper (aCons (eVar 0) (aCons (eBin dMul (eC (.int 60)) (eVar 1)) (aCons (eC (.int 6)) aNil)))) (aCons (eF m__law_rule (aCons (eVar 0) (aCons (eBin dAdd (eBin dMul (eC (.int 60)) (eVar 1)) (eC (.int 20))) aNil))) aNil))))
    (seqS (sAsg [] (tgName 4) (eM1 dJoin (eC (.str " ")) (eLc (sSeq (eVar 2)) [10, 11] (tgTup (tgCons (tgName 10) (tgCons (tgName 11) tgNil))) cYes (eBin dAdd (eCall gStr (aCons (eVar 10) aNil)) (eCutS (eVar 11) pNone (pSome (eC (.int 1))))))))
    (seqS (sIf (cOr (cE (eBin dNe (eF m_format_document (aCons (eVar 2) aNil)) (eVar 4))) (cE (eBin dNe (eF m_parse_document (aCons (eVar 4) aNil)) (eVar 2)))) (sRet (eC (.bl false))) sNil)
    (seqS (sAsg [] (tgName 5) (eBin dAdd (eC (.int 1)) (eF m__law_pick (aCons (eVar 0) (aCons (eBin dAdd (eBin dMul (eC (.int 60)) (eVar 1)) (eC (.int 22))) (aCons (eC (.int 8)) aNil))))))
    (seqS (sAsg [] (tgName 6) (eF m_filled (aCons (eVar 2) (aCons (eVar 3) (aCons (eVar 5) aNil)))))
    (sIf (cE (eBin dNotN (eVar 6) (eC .non))) (seqS (sAsg [] (tgName 7) (eM1 dJoin (eC (.str "+")) (eLc (sZip (aCons (eBin dAdd (eTup (aCons (eC (.int 0)) aNil)) (eVar 6)) (aCons (eVar 6) aNil))) [12, 13] (tgTup (tgCons (tgName 12) (tgCons (tgName 13) tgNil))) cYes (eCall gStr (aCons (eBin dSub (eVar 13) (eVar 12)) aNil)))))
    (seqS (sIf (cE (eBin dNe (eF m_format_pagination (aCons (eVar 2) (aCons (eVar 3) (aCons (eVar 5) (aCons (eVar 6) aNil))))) (eVar 7))) (sRet (eC (.bl false))) sNil)
    (seqS (sIf (cE (eBin dNe (eF m_parse_pagination (aCons (eVar 2) (aCons (eVar 3) (aCons (eVar 5) (aCons (eVar 7) aNil))))) (eVar 6))) (sRet (eC (.bl false))) sNil)
    (sFor [] (sSeq (eTup (aCons (eBin dAdd (eVar 7) (eC (.str "+"))) (aCons (eBin dAdd (eC (.str "+")) (eVar 7)) (aCons (eBin dAdd (eVar 7) (eC (.str "+1"))) (aCons (eBin dAdd (eVar 7) (eC (.str " "))) (aCons (eBin dAdd (eC (.str "0")) (eVar 7)) (aCons (eBin dAdd (eC (.str "0+")) (eVar 7)) (aCons (eC (.str "")) (aCons (eC .non) (aCons (eC (.int 5)) (aCons (eBin dAdd (eC (.str "1a+")) (eVar 7)) aNil)))))))))))) (tgName 8) (sIf (cNot (cE (eFX ["script", "i", "paper", "rule", "text", "height", "some", "row", "bad", "value", "lines", "word", "start", "end"] (defScope s_law) g m__law_all (aCons (eLst (aCons (eC (.lam lam_law_0 [3, 2, 5, 8] g)) aNil)) (aCons (eC (.str "ParseError")) aNil))))) (sRet (eC (.bl false))) sNil))))) sNil)))))))
    (seqS (sNew [] 8 (aCons (eC .non) (aCons (eC (.int 5)) (aCons (eC (.str "")) (aCons (eC (.str " ")) (aCons (eC (.str "0")) (aCons (eC (.str "13")) (aCons (eC (.str "05")) (aCons (eC (.str "5 ")) (aCons (eC (.str " 5")) (aCons (eC (.str "5  4")) (aCons (eC (.str "5S")) (aCons (eC (.str "s")) (aCons (eC (.str "s5")) (aCons (eC (.str "5sh")) (aCons (eC (.str "5x")) (aCons (eC (.str "5,4")) (aCons (eC (.str "-1")) aNil))))))))))))))))))
    (seqS (sExt [8] 8 (aCons (eLst (aCons (eC (.str "5\n")) (aCons (eC (.str "5+4")) aNil))) aNil))
    (seqS (sExt [8] 8 (aCons (eLst (aCons (eM1 dJoin (eC (.str " ")) (eBin dMul (eLst (aCons (eC (.str "1")) aNil)) (eC (.int 9)))) (aCons (eC (.str "12 12 12 5")) aNil))) aNil))
    (seqS (sFor [] (sSeq (eVar 8)) (tgName 9) (sIf (cNot (cE (eFX ["script", "i", "paper", "rule", "text", "height", "some", "row", "bad", "value", "lines", "word", "start", "end"] (defScope s_law) g m__law_all (aCons (eLst (aCons (eC (.lam lam_law_1 [9] g)) aNil)) (aCons (eC (.str "ParseError")) aNil))))) (sRet (eC (.bl false))) sNil))
    (sRet (eBin dEq (eF m_parse_document (aCons (eC (.str "5 1h 4 3s")) aNil)) (eTup (aCons (eTup (aCons (eC (.int 5)) (aCons (eC (.str "")) aNil))) (aCons (eTup (aCons (eC (.int 1)) (aCons (eC (.str "head")) aNil))) (aCons (eTup (aCons (eC (.int 4)) (aCons (eC (.str "")) aNil))) (aCons (eTup (aCons (eC (.int 3)) (aCons (eC (.str "solid")) aNil))) aNil))))))))))))
end
end LW

namespace LW
open PySem PySem.Spec PyProof.Rows L2 PB
abbrev N_is_int : List Str := ["value", "least", "most"]
theorem sc_is_int : FnScope ["value", "least", "most"] ["value", "least", "most"] (defScope s_is_int) := ⟨rfl, rfl, rfl, by decide +kernel, rfl, by decide +kernel, by decide +kernel⟩
theorem ok_is_int {P : Program} {w : World} {K : PySem.W.Frag} {mg : Str → Option Value} {base : Heap} (T : Tx fa fn K mg) (Z : exA exL tf K = true) : FOk P w K mg base (ecs K) 1 "is_int" ["value", "least", "most"] m_is_int := by
  obtain ⟨fd, F⟩ := T.c.def_ 0 (d := d_is_int) rfl
  exact ⟨⟨fd, mk_fn (N := ["value", "least", "most"]) (own1 := []) F sc_is_int fun cdv A outer s H E W hr tk hpo => (s_one (s_ret (e_and (e_isi .int (g_isinstance T) (g_int T) rfl (e_var 0)) (e_and (e_not (e_isi .bool (g_isinstance T) (g_bool T) rfl (e_var 0))) (e_one (e_lele (e_var 1) (e_var 0) (e_var 2))))))), F.bindsN fun _ _ _ _ _ _ us hl => match us, hl with | [_, _, _], _ => rfl⟩, F.kp, tx_glo T 0 rfl⟩
abbrev N_is_block : List Str := ["value"]
theorem sc_is_block : FnScope ["value"] ["value"] (defScope s_is_block) := ⟨rfl, rfl, rfl, by decide +kernel, rfl, by decide +kernel, by decide +kernel⟩
theorem ok_is_block {P : Program} {w : World} {K : PySem.W.Frag} {mg : Str → Option Value} {base : Heap} (T : Tx fa fn K mg) (Z : exA exL tf K = true) : FOk P w K mg base (ecs K) 2 "is_block" ["value"] m_is_block := by
  obtain ⟨fd, F⟩ := T.c.def_ 1 (d := d_is_block) rfl
  exact ⟨⟨fd, mk_fn (N := ["value"]) (own1 := []) F sc_is_block fun cdv A outer s H E W hr tk hpo => (s_cons (s_if (cw (c_or (c_not (c_val (e_isi .tuple (g_isinstance T) (g_tuple T) rfl (e_var 0)))) (c_or (c_ne hr (e_len (g_len T) (a_cons (e_var 0) a_nil)) e_int) (c_or1 (c_not (c_val (e_call (ok_is_int T Z) hr tk (a_cons (e_ix (e_var 0) e_int) (a_cons e_int (a_cons (e_gint (g_MAX_LINES T)) a_nil)))))))))) (s_one (s_ret e_bl)) s_nil) (s_one (s_ret (e_and (e_isi .str (g_isinstance T) (g_str T) rfl (e_ix (e_var 0) e_int)) (e_one (e_in hr (e_ix (e_var 0) e_int) (e_tup (a_cons (e_gstr (g_PLAIN T)) (a_cons (e_gstr (g_SOLID T)) (a_cons (e_gstr (g_HEAD T)) a_nil)))))))))), F.bindsN fun _ _ _ _ _ _ us hl => match us, hl with | [_], _ => rfl⟩, F.kp, tx_glo T 1 rfl⟩
abbrev N_size_of : List Str := ["document", "lines", "mark"]
theorem sc_size_of : FnScope ["document", "lines", "mark"] ["document"] (defScope s_size_of) := ⟨rfl, rfl, rfl, by decide +kernel, rfl, by decide +kernel, by decide +kernel⟩
theorem ok_size_of {P : Program} {w : World} {K : PySem.W.Frag} {mg : Str → Option Value} {base : Heap} (T : Tx fa fn K mg) (Z : exA exL tf K = true) : FOk P w K mg base (ecs K) 1 "size_of" ["document"] m_size_of := by
  obtain ⟨fd, F⟩ := T.c.def_ 2 (d := d_size_of) rfl
  exact ⟨⟨fd, mk_fn (N := ["document", "lines", "mark"]) (own1 := []) F sc_size_of fun cdv A outer s H E W hr tk hpo => (s_one (s_ret (e_sum (g_sum T) (a_cons (e_lc (own := [("lines", 1), ("mark", 2)]) sc_size_of.nd (i_seq (e_var 0)) (blkOk_by (N := N_size_of) (sc := defScope s_size_of) (own := [("lines", 1), ("mark", 2)]) (by decide +kernel)) (tp_tup (tp_cons (tp_name 1) (tp_cons (tp_name 2) tp_nil)) (tn_cons (tn_cons tn_nil))) (is_tup (is_cons (is_name (by decide)) (is_cons (is_name (by decide)) is_nil))) (fun _ _ _ _ _ => (pg_tup rfl (pgs_cons (pg_name (i := 1) sc_size_of.nd rfl (.inl rfl)) (pgs_cons (pg_name (i := 2) sc_size_of.nd rfl (.inl rfl)) pgs_nil)))) (fun _ _ _ _ _ => ts_nil) (fun _ _ _ _ _ => (e_var 1))) a_nil)))), F.bindsN fun _ _ _ _ _ _ us hl => match us, hl with | [_], _ => rfl⟩, F.kp, tx_glo T 2 rfl⟩
abbrev N_is_document : List Str := ["candidate", "block"]
theorem sc_is_document : FnScope ["candidate", "block"] ["candidate"] (defScope s_is_document) := ⟨rfl, rfl, rfl, by decide +kernel, rfl, by decide +kernel, by decide +kernel⟩
theorem ok_is_document {P : Program} {w : World} {K : PySem.W.Frag} {mg : Str → Option Value} {base : Heap} (T : Tx fa fn K mg) (Z : exA exL tf K = true) : FOk P w K mg base (ecs K) 3 "is_document" ["candidate"] m_is_document := by
  obtain ⟨fd, F⟩ := T.c.def_ 3 (d := d_is_document) rfl
  exact ⟨⟨fd, mk_fn (N := ["candidate", "block"]) (own1 := []) F sc_is_document fun cdv A outer s H E W hr tk hpo => (s_cons (s_if (cw (c_or (c_not (c_val (e_isi .tuple (g_isinstance T) (g_tuple T) rfl (e_var 0)))) (c_or1 (c_not (c_lele e_int (e_len (g_len T) (a_cons (e_var 0) a_nil)) (e_gint (g_MAX_BLOCKS T))))))) (s_one (s_ret e_bl)) s_nil) (s_one (s_ret (e_and (e_all (g_all T) (a_cons (e_lc (own := [("block", 1)]) sc_is_document.nd (i_seq (e_var 0)) (blkOk_by (N := N_is_document) (sc := defScope s_is_document) (own := [("block", 1)]) (by decide +kernel)) (tp_name 1) (is_name (by decide)) (fun _ _ _ _ _ => (pg_name (i := 1) sc_is_document.nd rfl (.inl rfl))) (fun _ _ _ _ _ => ts_nil) (fun _ _ _ _ _ => (e_call (ok_is_block T Z) hr takes_w0 (a_cons (e_var 1) a_nil)))) a_nil)) (e_one (e_le (e_call (ok_size_of T Z) hr tk (a_cons (e_var 0) a_nil)) (e_gint (g_MAX_SIZE T)))))))), F.bindsN fun _ _ _ _ _ _ us hl => match us, hl with | [_], _ => rfl⟩, F.kp, tx_glo T 3 rfl⟩
abbrev N_is_rule : List Str := ["candidate", "part"]
theorem sc_is_rule : FnScope ["candidate", "part"] ["candidate"] (defScope s_is_rule) := ⟨rfl, rfl, rfl, by decide +kernel, rfl, by decide +kernel, by decide +kernel⟩
theorem ok_is_rule {P : Program} {w : World} {K : PySem.W.Frag} {mg : Str → Option Value} {base : Heap} (T : Tx fa fn K mg) (Z : exA exL tf K = true) : FOk P w K mg base (ecs K) 2 "is_rule" ["candidate"] m_is_rule := by
  obtain ⟨fd, F⟩ := T.c.def_ 4 (d := d_is_rule) rfl
  exact ⟨⟨fd, mk_fn (N := ["candidate", "part"]) (own1 := []) F sc_is_rule fun cdv A outer s H E W hr tk hpo => (s_cons (s_if (cw (c_or (c_not (c_val (e_isi .tuple (g_isinstance T) (g_tuple T) rfl (e_var 0)))) (c_or1 (c_ne hr (e_len (g_len T) (a_cons (e_var 0) a_nil)) e_int)))) (s_one (s_ret e_bl)) s_nil) (s_one (s_ret (e_all (g_all T) (a_cons (e_lc (own := [("part", 1)]) sc_is_rule.nd (i_seq (e_var 0)) (blkOk_by (N := N_is_rule) (sc := defScope s_is_rule) (own := [("part", 1)]) (by decide +kernel)) (tp_name 1) (is_name (by decide)) (fun _ _ _ _ _ => (pg_name (i := 1) sc_is_rule.nd rfl (.inl rfl))) (fun _ _ _ _ _ => ts_nil) (fun _ _ _ _ _ => (e_call (ok_is_int T Z) hr takes_w0 (a_cons (e_var 1) (a_cons e_int (a_cons (e_gint (g_MAX_KEPT T)) a_nil)))))) a_nil))))), F.bindsN fun _ _ _ _ _ _ us hl => match us, hl with | [_], _ => rfl⟩, F.kp, tx_glo T 4 rfl⟩
abbrev N_check_document : List Str := ["value"]
theorem sc_check_document : FnScope ["value"] ["value"] (defScope s_check_document) := ⟨rfl, rfl, rfl, by decide +kernel, rfl, by decide +kernel, by decide +kernel⟩
theorem ok_check_document {P : Program} {w : World} {K : PySem.W.Frag} {mg : Str → Option Value} {base : Heap} (T : Tx fa fn K mg) (Z : exA exL tf K = true) : FOk P w K mg base (ecs K) 4 "check_document" ["value"] m_check_document := by
  obtain ⟨fd, F⟩ := T.c.def_ 5 (d := d_check_document) rfl
  exact ⟨⟨fd, mk_fn (N := ["value"]) (own1 := []) F sc_check_document fun cdv A outer s H E W hr tk hpo => (s_one (s_if (c_not (c_val (e_call (ok_is_document T Z) hr tk (a_cons (e_var 0) a_nil)))) (s_one (s_raise 1 tk (mk_InvalidDocument T rfl rfl))) s_nil)), F.bindsN fun _ _ _ _ _ _ us hl => match us, hl with | [_], _ => rfl⟩, F.kp, tx_glo T 5 rfl⟩
abbrev N_check_both : List Str := ["document", "rule"]
theorem sc_check_both : FnScope ["document", "rule"] ["document", "rule"] (defScope s_check_both) := ⟨rfl, rfl, rfl, by decide +kernel, rfl, by decide +kernel, by decide +kernel⟩
theorem ok_check_both {P : Program} {w : World} {K : PySem.W.Frag} {mg : Str → Option Value} {base : Heap} (T : Tx fa fn K mg) (Z : exA exL tf K = true) : FOk P w K mg base (ecs K) 5 "check_both" ["document", "rule"] m_check_both := by
  obtain ⟨fd, F⟩ := T.c.def_ 6 (d := d_check_both) rfl
  exact ⟨⟨fd, mk_fn (N := ["document", "rule"]) (own1 := []) F sc_check_both fun cdv A outer s H E W hr tk hpo => (s_cons (s_expr (e_call (ok_check_document T Z) hr tk (a_cons (e_var 0) a_nil))) (s_one (s_if (c_not (c_val (e_call (ok_is_rule T Z) hr tk (a_cons (e_var 1) a_nil)))) (s_one (s_raise 2 tk (mk_InvalidRule T rfl rfl))) s_nil))), F.bindsN fun _ _ _ _ _ _ us hl => match us, hl with | [_, _], _ => rfl⟩, F.kp, tx_glo T 6 rfl⟩
abbrev N_check_three : List Str := ["document", "rule", "height"]
theorem sc_check_three : FnScope ["document", "rule", "height"] ["document", "rule", "height"] (defScope s_check_three) := ⟨rfl, rfl, rfl, by decide +kernel, rfl, by decide +kernel, by decide +kernel⟩
theorem ok_check_three {P : Program} {w : World} {K : PySem.W.Frag} {mg : Str → Option Value} {base : Heap} (T : Tx fa fn K mg) (Z : exA exL tf K = true) : FOk P w K mg base (ecs K) 6 "check_three" ["document", "rule", "height"] m_check_three := by
  obtain ⟨fd, F⟩ := T.c.def_ 7 (d := d_check_three) rfl
  exact ⟨⟨fd, mk_fn (N := ["document", "rule", "height"]) (own1 := []) F sc_check_three fun cdv A outer s H E W hr tk hpo => (s_cons (s_expr (e_call (ok_check_both T Z) hr tk (a_cons (e_var 0) (a_cons (e_var 1) a_nil)))) (s_one (s_if (c_not (c_val (e_call (ok_is_int T Z) hr tk (a_cons (e_var 2) (a_cons e_int (a_cons (e_gint (g_MAX_SIZE T)) a_nil)))))) (s_one (s_raise 3 tk (mk_InvalidHeight T rfl rfl))) s_nil))), F.bindsN fun _ _ _ _ _ _ us hl => match us, hl with | [_, _, _], _ => rfl⟩, F.kp, tx_glo T 7 rfl⟩
abbrev N_find_ends : List Str := ["document", "rule", "before", "behind", "found", "start", "number", "lines", "mark"]
theorem sc_find_ends : FnScope ["document", "rule", "before", "behind", "found", "start", "number", "lines", "mark"] ["document", "rule"] (defScope s_find_ends) := ⟨rfl, rfl, rfl, by decide +kernel, rfl, by decide +kernel, by decide +kernel⟩
theorem ok_find_ends {P : Program} {w : World} {K : PySem.W.Frag} {mg : Str → Option Value} {base : Heap} (T : Tx fa fn K mg) (Z : exA exL tf K = true) : FOk P w K mg base (ecs K) 1 "find_ends" ["document", "rule"] m_find_ends := by
  obtain ⟨fd, F⟩ := T.c.def_ 8 (d := d_find_ends) rfl
  exact ⟨⟨fd, mk_fn (N := ["document", "rule", "before", "behind", "found", "start", "number", "lines", "mark"]) (own1 := [4]) F sc_find_ends fun cdv A outer s H E W hr tk hpo => (s_cons (s_asg (e_var 1) (pg_tup rfl (pgs_cons (pg_name (i := 2) sc_find_ends.nd rfl (.inl rfl)) (pgs_cons (pg_name (i := 3) sc_find_ends.nd rfl (.inl rfl)) pgs_nil))) (tp_tup (tp_cons (tp_name 2) (tp_cons (tp_name 3) tp_nil)) (tn_cons (tn_cons tn_nil))) (ap_of (vs := [2, 3]) (is_tup (is_cons (is_name (by decide)) (is_cons (is_name (by decide)) is_nil))) (by decide))) (s_cons (s_new2 (i := 4) (j := 5) (by decide) (by decide) (by decide) (a_cons e_int a_nil) (fun _ h => ps_par rfl sc_find_ends.nd rfl rfl (by decide) rfl rfl h (by rfl))) (s_cons (s_for hpo (i_enum (g_enumerate T) (a_cons (e_var 0) a_nil)) (pg_tup rfl (pgs_cons (pg_name (i := 6) sc_find_ends.nd rfl (.inl rfl)) (pgs_cons (pg_tup rfl (pgs_cons (pg_name (i := 7) sc_find_ends.nd rfl (.inl rfl)) (pgs_cons (pg_name (i := 8) sc_find_ends.nd rfl (.inl rfl)) pgs_nil))) pgs_nil))) (tp_tup (tp_cons (tp_name 6) (tp_cons (tp_tup (tp_cons (tp_name 7) (tp_cons (tp_name 8) tp_nil)) (tn_cons (tn_cons tn_nil))) tp_nil)) (tn_cons (tn_cons tn_nil))) (ap_of (vs := [6, 7, 8]) (is_tup (is_cons (is_name (by decide)) (is_cons (is_tup (is_cons (is_name (by decide)) (is_cons (is_name (by decide)) is_nil))) is_nil))) (by decide)) (s_cons (s_if (c_eq hr (e_var 8) (e_gstr (g_PLAIN T))) (s_one (s_ext (i := 4) (by decide) (a_cons (e_listRg2 (g_list T) (g_range T) (e_add (e_var 5) (e_var 2)) (e_add (e_sub (e_add (e_var 5) (e_var 7)) (e_var 3)) e_int)) a_nil) (fun _ h => pe_bm PySem.F.plainAttrs_list PySem.F.slot_list_extend PySem.F.type_list_extend mt_extend (pv 4) h))) s_nil) (s_cons (s_asg (e_add (e_var 5) (e_var 7)) (pg_name (i := 5) sc_find_ends.nd rfl (.inl rfl)) (tp_name 5) (ap_of (vs := [5]) (is_name (by decide)) (by decide))) (s_one (s_if (cw (c_or (c_ne hr (e_var 8) (e_gstr (g_HEAD T))) (c_or1 (c_eq hr (e_var 6) (e_sub (e_len (g_len T) (a_cons (e_var 0) a_nil)) e_int))))) (s_one (s_app (i := 4) (by decide) (a_cons (e_var 5) a_nil) (fun _ h => pe_bm PySem.F.plainAttrs_list PySem.F.slot_list_append PySem.F.type_list_append mt_append (pv 4) h))) s_nil))))) (s_one (s_ret (e_var 4)))))), F.bindsN fun _ _ _ _ _ _ us hl => match us, hl with | [_, _], _ => rfl⟩, F.kp, tx_glo T 8 rfl⟩
abbrev N_find_parts : List Str := ["document", "rule", "found"]
theorem sc_find_parts : FnScope ["document", "rule", "found"] ["document", "rule"] (defScope s_find_parts) := ⟨rfl, rfl, rfl, by decide +kernel, rfl, by decide +kernel, by decide +kernel⟩
theorem ok_find_parts {P : Program} {w : World} {K : PySem.W.Frag} {mg : Str → Option Value} {base : Heap} (T : Tx fa fn K mg) (Z : exA exL tf K = true) : FOk P w K mg base (ecs K) 2 "find_parts" ["document", "rule"] m_find_parts := by
  obtain ⟨fd, F⟩ := T.c.def_ 9 (d := d_find_parts) rfl
  exact ⟨⟨fd, mk_fn (N := ["document", "rule", "found"]) (own1 := []) F sc_find_parts fun cdv A outer s H E W hr tk hpo => (s_cons (s_asg (e_call (ok_find_ends T Z) hr tk (a_cons (e_var 0) (a_cons (e_var 1) a_nil))) (pg_name (i := 2) sc_find_parts.nd rfl (.inl rfl)) (tp_name 2) (ap_of (vs := [2]) (is_name (by decide)) (by decide))) (s_one (s_ret (e_listZip (g_list T) (g_zip T) (e_add (e_lst (a_cons e_int a_nil)) (e_cut (e_var 2) p_none (p_some (e_neg e_int)))) (e_var 2))))), F.bindsN fun _ _ _ _ _ _ us hl => match us, hl with | [_, _], _ => rfl⟩, F.kp, tx_glo T 9 rfl⟩
abbrev N_find_longest : List Str := ["document", "rule", "place", "after"]
theorem sc_find_longest : FnScope ["document", "rule", "place", "after"] ["document", "rule"] (defScope s_find_longest) := ⟨rfl, rfl, rfl, by decide +kernel, rfl, by decide +kernel, by decide +kernel⟩
theorem ok_find_longest {P : Program} {w : World} {K : PySem.W.Frag} {mg : Str → Option Value} {base : Heap} (T : Tx fa fn K mg) (Z : exA exL tf K = true) : FOk P w K mg base (ecs K) 3 "find_longest" ["document", "rule"] m_find_longest := by
  obtain ⟨fd, F⟩ := T.c.def_ 10 (d := d_find_longest) rfl
  exact ⟨⟨fd, mk_fn (N := ["document", "rule", "place", "after"]) (own1 := []) F sc_find_longest fun cdv A outer s H E W hr tk hpo => (s_one (s_ret (e_max (g_max T) (a_cons (e_lc (own := [("place", 2), ("after", 3)]) sc_find_longest.nd (i_seq (e_call (ok_find_parts T Z) hr tk (a_cons (e_var 0) (a_cons (e_var 1) a_nil)))) (blkOk_by (N := N_find_longest) (sc := defScope s_find_longest) (own := [("place", 2), ("after", 3)]) (by decide +kernel)) (tp_tup (tp_cons (tp_name 2) (tp_cons (tp_name 3) tp_nil)) (tn_cons (tn_cons tn_nil))) (is_tup (is_cons (is_name (by decide)) (is_cons (is_name (by decide)) is_nil))) (fun _ _ _ _ _ => (pg_tup rfl (pgs_cons (pg_name (i := 2) sc_find_longest.nd rfl (.inl rfl)) (pgs_cons (pg_name (i := 3) sc_find_longest.nd rfl (.inl rfl)) pgs_nil)))) (fun _ _ _ _ _ => ts_nil) (fun _ _ _ _ _ => (e_sub (e_var 3) (e_var 2)))) a_nil)))), F.bindsN fun _ _ _ _ _ _ us hl => match us, hl with | [_, _], _ => rfl⟩, F.kp, tx_glo T 10 rfl⟩
abbrev N_has_pagination : List Str := ["document", "rule", "height", "candidate", "known", "place", "before"]
theorem sc_has_pagination : FnScope ["document", "rule", "height", "candidate", "known", "place", "before"] ["document", "rule", "height", "candidate"] (defScope s_has_pagination) := ⟨rfl, rfl, rfl, by decide +kernel, rfl, by decide +kernel, by decide +kernel⟩
theorem ok_has_pagination {P : Program} {w : World} {K : PySem.W.Frag} {mg : Str → Option Value} {base : Heap} (T : Tx fa fn K mg) (Z : exA exL tf K = true) : FOk P w K mg base (ecs K) 2 "has_pagination" ["document", "rule", "height", "candidate"] m_has_pagination := by
  obtain ⟨fd, F⟩ := T.c.def_ 11 (d := d_has_pagination) rfl
  exact ⟨⟨fd, mk_fn (N := ["document", "rule", "height", "candidate", "known", "place", "before"]) (own1 := []) F sc_has_pagination fun cdv A outer s H E W hr tk hpo => (s_cons (s_asg (e_call (ok_find_ends T Z) hr tk (a_cons (e_var 0) (a_cons (e_var 1) a_nil))) (pg_name (i := 4) sc_has_pagination.nd rfl (.inr rfl)) (tp_name 4) (ap_of (vs := [4]) (is_name (by decide)) (by decide))) (s_cons (s_if (cw (c_or (c_not (c_val (e_isi .tuple (g_isinstance T) (g_tuple T) rfl (e_var 3)))) (c_or1 (c_eq hr (e_var 3) (e_tup a_nil))))) (s_one (s_ret e_bl)) s_nil) (s_cons (s_if (c_not (c_val (e_all (g_all T) (a_cons (e_lc (own := [("place", 5)]) sc_has_pagination.nd (i_seq (e_var 3)) (blkOk_by (N := N_has_pagination) (sc := defScope s_has_pagination) (own := [("place", 5)]) (by decide +kernel)) (tp_name 5) (is_name (by decide)) (fun _ _ _ _ _ => (pg_name (i := 5) sc_has_pagination.nd rfl (.inl rfl))) (fun _ _ _ _ _ => ts_nil) (fun _ _ _ _ _ => (e_call (ok_is_int T Z) hr takes_w0 (a_cons (e_var 5) (a_cons e_int (a_cons (e_ix (e_var 4) (e_neg e_int)) a_nil)))))) a_nil)))) (s_one (s_ret e_bl)) s_nil) (s_cons (s_if (cw (c_or (c_ne hr (e_ix (e_var 3) (e_neg e_int)) (e_ix (e_var 4) (e_neg e_int))) (c_or1 (c_not (c_val (e_all (g_all T) (a_cons (e_lc (own := [("place", 5)]) sc_has_pagination.nd (i_seq (e_var 3)) (blkOk_by (N := N_has_pagination) (sc := defScope s_has_pagination) (own := [("place", 5)]) (by decide +kernel)) (tp_name 5) (is_name (by decide)) (fun _ _ _ _ _ => (pg_name (i := 5) sc_has_pagination.nd rfl (.inl rfl))) (fun _ _ _ _ _ => ts_nil) (fun _ _ _ _ _ => (e_in hr (e_var 5) (e_var 4)))) a_nil))))))) (s_one (s_ret e_bl)) s_nil) (s_one (s_ret (e_all (g_all T) (a_cons (e_lc (own := [("before", 6), ("place", 5)]) sc_has_pagination.nd (i_zip (g_zip T) (a_cons (e_add (e_tup (a_cons e_int a_nil)) (e_var 3)) (a_cons (e_var 3) a_nil))) (blkOk_by (N := N_has_pagination) (sc := defScope s_has_pagination) (own := [("before", 6), ("place", 5)]) (by decide +kernel)) (tp_tup (tp_cons (tp_name 6) (tp_cons (tp_name 5) tp_nil)) (tn_cons (tn_cons tn_nil))) (is_tup (is_cons (is_name (by decide)) (is_cons (is_name (by decide)) is_nil))) (fun _ _ _ _ _ => (pg_tup rfl (pgs_cons (pg_name (i := 6) sc_has_pagination.nd rfl (.inl rfl)) (pgs_cons (pg_name (i := 5) sc_has_pagination.nd rfl (.inl rfl)) pgs_nil)))) (fun _ _ _ _ _ => ts_nil) (fun _ _ _ _ _ => (e_ltle e_int (e_sub (e_var 5) (e_var 6)) (e_var 2)))) a_nil)))))))), F.bindsN fun _ _ _ _ _ _ us hl => match us, hl with | [_, _, _, _], _ => rfl⟩, F.kp, tx_glo T 11 rfl⟩
abbrev N_has_room : List Str := ["document", "rule", "height"]
theorem sc_has_room : FnScope ["document", "rule", "height"] ["document", "rule", "height"] (defScope s_has_room) := ⟨rfl, rfl, rfl, by decide +kernel, rfl, by decide +kernel, by decide +kernel⟩
theorem ok_has_room {P : Program} {w : World} {K : PySem.W.Frag} {mg : Str → Option Value} {base : Heap} (T : Tx fa fn K mg) (Z : exA exL tf K = true) : FOk P w K mg base (ecs K) 4 "has_room" ["document", "rule", "height"] m_has_room := by
  obtain ⟨fd, F⟩ := T.c.def_ 12 (d := d_has_room) rfl
  exact ⟨⟨fd, mk_fn (N := ["document", "rule", "height"]) (own1 := []) F sc_has_room fun cdv A outer s H E W hr tk hpo => (s_one (s_ret (e_le (e_call (ok_find_longest T Z) hr tk (a_cons (e_var 0) (a_cons (e_var 1) a_nil))) (e_var 2)))), F.bindsN fun _ _ _ _ _ _ us hl => match us, hl with | [_, _, _], _ => rfl⟩, F.kp, tx_glo T 12 rfl⟩
abbrev N_find_filled : List Str := ["document", "rule", "height", "known", "found", "place", "end"]
theorem sc_find_filled : FnScope ["document", "rule", "height", "known", "found", "place", "end"] ["document", "rule", "height"] (defScope s_find_filled) := ⟨rfl, rfl, rfl, by decide +kernel, rfl, by decide +kernel, by decide +kernel⟩
theorem ok_find_filled {P : Program} {w : World} {K : PySem.W.Frag} {mg : Str → Option Value} {base : Heap} (T : Tx fa fn K mg) (Z : exA exL tf K = true) : FOk P w K mg base (ecs K) 5 "find_filled" ["document", "rule", "height"] m_find_filled := by
  obtain ⟨fd, F⟩ := T.c.def_ 13 (d := d_find_filled) rfl
  exact ⟨⟨fd, mk_fn (N := ["document", "rule", "height", "known", "found", "place", "end"]) (own1 := []) F sc_find_filled fun cdv A outer s H E W hr tk hpo => (s_cons (s_if (c_not (c_val (e_call (ok_has_room T Z) hr tk (a_cons (e_var 0) (a_cons (e_var 1) (a_cons (e_var 2) a_nil)))))) (s_one (s_ret e_non)) s_nil) (s_cons (s_asg (e_tup (a_cons (e_call (ok_find_ends T Z) hr tk (a_cons (e_var 0) (a_cons (e_var 1) a_nil))) (a_cons (e_tup a_nil) (a_cons e_int a_nil)))) (pg_tup rfl (pgs_cons (pg_name (i := 3) sc_find_filled.nd rfl (.inl rfl)) (pgs_cons (pg_name (i := 4) sc_find_filled.nd rfl (.inl rfl)) (pgs_cons (pg_name (i := 5) sc_find_filled.nd rfl (.inr rfl)) pgs_nil)))) (tp_tup (tp_cons (tp_name 3) (tp_cons (tp_name 4) (tp_cons (tp_name 5) tp_nil))) (tn_cons (tn_cons (tn_cons tn_nil)))) (ap_of (vs := [3, 4, 5]) (is_tup (is_cons (is_name (by decide)) (is_cons (is_name (by decide)) (is_cons (is_name (by decide)) is_nil)))) (by decide))) (s_cons (s_while 100000 hpo (c_lt (e_var 5) (e_call (ok_size_of T Z) hr tk (a_cons (e_var 0) a_nil))) (s_cons (s_asg (e_max (g_max T) (a_cons (e_lc (own := [("end", 6)]) sc_find_filled.nd (i_seq (e_var 3)) (blkOk_by (N := N_find_filled) (sc := defScope s_find_filled) (own := [("end", 6)]) (by decide +kernel)) (tp_name 6) (is_name (by decide)) (fun _ _ _ _ _ => (pg_name (i := 6) sc_find_filled.nd rfl (.inl rfl))) (fun _ _ _ _ _ => (ts_one (c_le (e_var 6) (e_add (e_var 5) (e_var 2))))) (fun _ _ _ _ _ => (e_var 6))) a_nil)) (pg_name (i := 5) sc_find_filled.nd rfl (.inr rfl)) (tp_name 5) (ap_of (vs := [5]) (is_name (by decide)) (by decide))) (s_one (s_asg (e_add (e_var 4) (e_tup (a_cons (e_var 5) a_nil))) (pg_name (i := 4) sc_find_filled.nd rfl (.inl rfl)) (tp_name 4) (ap_of (vs := [4]) (is_name (by decide)) (by decide)))))) (s_one (s_ret (e_var 4)))))), F.bindsN fun _ _ _ _ _ _ us hl => match us, hl with | [_, _, _], _ => rfl⟩, F.kp, tx_glo T 13 rfl⟩
abbrev N_filled : List Str := ["document", "rule", "height"]
theorem sc_filled : FnScope ["document", "rule", "height"] ["document", "rule", "height"] (defScope s_filled) := ⟨rfl, rfl, rfl, by decide +kernel, rfl, by decide +kernel, by decide +kernel⟩
theorem ok_filled {P : Program} {w : World} {K : PySem.W.Frag} {mg : Str → Option Value} {base : Heap} (T : Tx fa fn K mg) (Z : exA exL tf K = true) : FOk P w K mg base (ecs K) 7 "filled" ["document", "rule", "height"] m_filled := by
  obtain ⟨fd, F⟩ := T.c.def_ 14 (d := d_filled) rfl
  exact ⟨⟨fd, mk_fn (N := ["document", "rule", "height"]) (own1 := []) F sc_filled fun cdv A outer s H E W hr tk hpo => (s_cons (s_expr (e_call (ok_check_three T Z) hr tk (a_cons (e_var 0) (a_cons (e_var 1) (a_cons (e_var 2) a_nil))))) (s_one (s_ret (e_call (ok_find_filled T Z) hr tk (a_cons (e_var 0) (a_cons (e_var 1) (a_cons (e_var 2) a_nil))))))), F.bindsN fun _ _ _ _ _ _ us hl => match us, hl with | [_, _, _], _ => rfl⟩, F.kp, tx_glo T 14 rfl⟩
abbrev N_check_pagination : List Str := ["document", "rule", "height", "value"]
theorem sc_check_pagination : FnScope ["document", "rule", "height", "value"] ["document", "rule", "height", "value"] (defScope s_check_pagination) := ⟨rfl, rfl, rfl, by decide +kernel, rfl, by decide +kernel, by decide +kernel⟩
theorem ok_check_pagination {P : Program} {w : World} {K : PySem.W.Frag} {mg : Str → Option Value} {base : Heap} (T : Tx fa fn K mg) (Z : exA exL tf K = true) : FOk P w K mg base (ecs K) 7 "check_pagination" ["document", "rule", "height", "value"] m_check_pagination := by
  obtain ⟨fd, F⟩ := T.c.def_ 15 (d := d_check_pagination) rfl
  exact ⟨⟨fd, mk_fn (N := ["document", "rule", "height", "value"]) (own1 := []) F sc_check_pagination fun cdv A outer s H E W hr tk hpo => (s_cons (s_expr (e_call (ok_check_three T Z) hr tk (a_cons (e_var 0) (a_cons (e_var 1) (a_cons (e_var 2) a_nil))))) (s_one (s_if (c_not (c_val (e_call (ok_has_pagination T Z) hr tk (a_cons (e_var 0) (a_cons (e_var 1) (a_cons (e_var 2) (a_cons (e_var 3) a_nil))))))) (s_one (s_raise 5 tk (mk_InvalidPagination T rfl rfl))) s_nil))), F.bindsN fun _ _ _ _ _ _ us hl => match us, hl with | [_, _, _, _], _ => rfl⟩, F.kp, tx_glo T 15 rfl⟩
abbrev N_block_text : List Str := ["block", "lines", "mark"]
theorem sc_block_text : FnScope ["block", "lines", "mark"] ["block"] (defScope s_block_text) := ⟨rfl, rfl, rfl, by decide +kernel, rfl, by decide +kernel, by decide +kernel⟩
theorem ok_block_text {P : Program} {w : World} {K : PySem.W.Frag} {mg : Str → Option Value} {base : Heap} (T : Tx fa fn K mg) (Z : exA exL tf K = true) : FOk P w K mg base (ecs K) 1 "block_text" ["block"] m_block_text := by
  obtain ⟨fd, F⟩ := T.c.def_ 16 (d := d_block_text) rfl
  exact ⟨⟨fd, mk_fn (N := ["block", "lines", "mark"]) (own1 := []) F sc_block_text fun cdv A outer s H E W hr tk hpo => (s_cons (s_asg (e_var 0) (pg_tup rfl (pgs_cons (pg_name (i := 1) sc_block_text.nd rfl (.inl rfl)) (pgs_cons (pg_name (i := 2) sc_block_text.nd rfl (.inl rfl)) pgs_nil))) (tp_tup (tp_cons (tp_name 1) (tp_cons (tp_name 2) tp_nil)) (tn_cons (tn_cons tn_nil))) (ap_of (vs := [1, 2]) (is_tup (is_cons (is_name (by decide)) (is_cons (is_name (by decide)) is_nil))) (by decide))) (s_one (s_ret (e_add (e_strI (g_str T) (a_cons (e_var 1) a_nil)) (e_if (c_eq hr (e_var 2) (e_gstr (g_SOLID T))) e_str (e_if (c_eq hr (e_var 2) (e_gstr (g_HEAD T))) e_str e_str)))))), F.bindsN fun _ _ _ _ _ _ us hl => match us, hl with | [_], _ => rfl⟩, F.kp, tx_glo T 16 rfl⟩
abbrev N_document_text : List Str := ["document", "block"]
theorem sc_document_text : FnScope ["document", "block"] ["document"] (defScope s_document_text) := ⟨rfl, rfl, rfl, by decide +kernel, rfl, by decide +kernel, by decide +kernel⟩
theorem ok_document_text {P : Program} {w : World} {K : PySem.W.Frag} {mg : Str → Option Value} {base : Heap} (T : Tx fa fn K mg) (Z : exA exL tf K = true) : FOk P w K mg base (ecs K) 2 "document_text" ["document"] m_document_text := by
  obtain ⟨fd, F⟩ := T.c.def_ 17 (d := d_document_text) rfl
  exact ⟨⟨fd, mk_fn (N := ["document", "block"]) (own1 := []) F sc_document_text fun cdv A outer s H E W hr tk hpo => (s_one (s_ret (e_join (e_gstr (g_BETWEEN T)) (e_lc (own := [("block", 1)]) sc_document_text.nd (i_seq (e_var 0)) (blkOk_by (N := N_document_text) (sc := defScope s_document_text) (own := [("block", 1)]) (by decide +kernel)) (tp_name 1) (is_name (by decide)) (fun _ _ _ _ _ => (pg_name (i := 1) sc_document_text.nd rfl (.inl rfl))) (fun _ _ _ _ _ => ts_nil) (fun _ _ _ _ _ => (e_call (ok_block_text T Z) hr takes_w0 (a_cons (e_var 1) a_nil))))))), F.bindsN fun _ _ _ _ _ _ us hl => match us, hl with | [_], _ => rfl⟩, F.kp, tx_glo T 17 rfl⟩
abbrev N_format_document : List Str := ["document"]
theorem sc_format_document : FnScope ["document"] ["document"] (defScope s_format_document) := ⟨rfl, rfl, rfl, by decide +kernel, rfl, by decide +kernel, by decide +kernel⟩
theorem ok_format_document {P : Program} {w : World} {K : PySem.W.Frag} {mg : Str → Option Value} {base : Heap} (T : Tx fa fn K mg) (Z : exA exL tf K = true) : FOk P w K mg base (ecs K) 5 "format_document" ["document"] m_format_document := by
  obtain ⟨fd, F⟩ := T.c.def_ 18 (d := d_format_document) rfl
  exact ⟨⟨fd, mk_fn (N := ["document"]) (own1 := []) F sc_format_document fun cdv A outer s H E W hr tk hpo => (s_cons (s_expr (e_call (ok_check_document T Z) hr tk (a_cons (e_var 0) a_nil))) (s_one (s_ret (e_call (ok_document_text T Z) hr tk (a_cons (e_var 0) a_nil))))), F.bindsN fun _ _ _ _ _ _ us hl => match us, hl with | [_], _ => rfl⟩, F.kp, tx_glo T 18 rfl⟩
abbrev N_read_number : List Str := ["word", "sign"]
theorem sc_read_number : FnScope ["word", "sign"] ["word"] (defScope s_read_number) := ⟨rfl, rfl, rfl, by decide +kernel, rfl, by decide +kernel, by decide +kernel⟩
theorem ok_read_number {P : Program} {w : World} {K : PySem.W.Frag} {mg : Str → Option Value} {base : Heap} (T : Tx fa fn K mg) (Z : exA exL tf K = true) : FOk P w K mg base (ecs K) 1 "read_number" ["word"] m_read_number := by
  obtain ⟨fd, F⟩ := T.c.def_ 19 (d := d_read_number) rfl
  exact ⟨⟨fd, mk_fn (N := ["word", "sign"]) (own1 := []) F sc_read_number fun cdv A outer s H E W hr tk hpo => (s_cons (s_if (cw (c_or (c_not (c_lele e_int (e_len (g_len T) (a_cons (e_var 0) a_nil)) (e_gint (g_MAX_DIGITS T)))) (c_or1 (c_not (c_val (e_all (g_all T) (a_cons (e_lc (own := [("sign", 1)]) sc_read_number.nd (i_signs (e_var 0)) (blkOk_by (N := N_read_number) (sc := defScope s_read_number) (own := [("sign", 1)]) (by decide +kernel)) (tp_name 1) (is_name (by decide)) (fun _ _ _ _ _ => (pg_name (i := 1) sc_read_number.nd rfl (.inl rfl))) (fun _ _ _ _ _ => ts_nil) (fun _ _ _ _ _ => (e_inS (e_var 1) (e_gstr (g_DIGITS T))))) a_nil))))))) (s_one (s_ret e_non)) s_nil) (s_one (s_ret (e_intS (g_int T) (a_cons (e_var 0) a_nil))))), F.bindsN fun _ _ _ _ _ _ us hl => match us, hl with | [_], _ => rfl⟩, F.kp, tx_glo T 19 rfl⟩
abbrev N_read_block : List Str := ["word"]
theorem sc_read_block : FnScope ["word"] ["word"] (defScope s_read_block) := ⟨rfl, rfl, rfl, by decide +kernel, rfl, by decide +kernel, by decide +kernel⟩
theorem ok_read_block {P : Program} {w : World} {K : PySem.W.Frag} {mg : Str → Option Value} {base : Heap} (T : Tx fa fn K mg) (Z : exA exL tf K = true) : FOk P w K mg base (ecs K) 2 "read_block" ["word"] m_read_block := by
  obtain ⟨fd, F⟩ := T.c.def_ 20 (d := d_read_block) rfl
  exact ⟨⟨fd, mk_fn (N := ["word"]) (own1 := []) F sc_read_block fun cdv A outer s H E W hr tk hpo => (s_cons (s_if (c_eq hr (e_cutS (e_var 0) (p_some (e_neg e_int)) p_none) e_str) (s_one (s_ret (e_tup (a_cons (e_call (ok_read_number T Z) hr tk (a_cons (e_cutS (e_var 0) p_none (p_some (e_neg e_int))) a_nil)) (a_cons (e_gstr (g_SOLID T)) a_nil))))) s_nil) (s_one (s_ret (e_if (c_eq hr (e_cutS (e_var 0) (p_some (e_neg e_int)) p_none) e_str) (e_tup (a_cons (e_call (ok_read_number T Z) hr tk (a_cons (e_cutS (e_var 0) p_none (p_some (e_neg e_int))) a_nil)) (a_cons (e_gstr (g_HEAD T)) a_nil))) (e_tup (a_cons (e_call (ok_read_number T Z) hr tk (a_cons (e_var 0) a_nil)) (a_cons (e_gstr (g_PLAIN T)) a_nil))))))), F.bindsN fun _ _ _ _ _ _ us hl => match us, hl with | [_], _ => rfl⟩, F.kp, tx_glo T 20 rfl⟩
abbrev N_check_text : List Str := ["value"]
theorem sc_check_text : FnScope ["value"] ["value"] (defScope s_check_text) := ⟨rfl, rfl, rfl, by decide +kernel, rfl, by decide +kernel, by decide +kernel⟩
theorem ok_check_text {P : Program} {w : World} {K : PySem.W.Frag} {mg : Str → Option Value} {base : Heap} (T : Tx fa fn K mg) (Z : exA exL tf K = true) : FOk P w K mg base (ecs K) 1 "check_text" ["value"] m_check_text := by
  obtain ⟨fd, F⟩ := T.c.def_ 21 (d := d_check_text) rfl
  exact ⟨⟨fd, mk_fn (N := ["value"]) (own1 := []) F sc_check_text fun cdv A outer s H E W hr tk hpo => (s_one (s_if (c_not (c_val (e_isi .str (g_isinstance T) (g_str T) rfl (e_var 0)))) (s_one (s_raise 13 tk (mk_ParseError T rfl rfl))) s_nil)), F.bindsN fun _ _ _ _ _ _ us hl => match us, hl with | [_], _ => rfl⟩, F.kp, tx_glo T 21 rfl⟩
abbrev N_parse_document : List Str := ["text", "document", "word"]
theorem sc_parse_document : FnScope ["text", "document", "word"] ["text"] (defScope s_parse_document) := ⟨rfl, rfl, rfl, by decide +kernel, rfl, by decide +kernel, by decide +kernel⟩
theorem ok_parse_document {P : Program} {w : World} {K : PySem.W.Frag} {mg : Str → Option Value} {base : Heap} (T : Tx fa fn K mg) (Z : exA exL tf K = true) : FOk P w K mg base (ecs K) 4 "parse_document" ["text"] m_parse_document := by
  obtain ⟨fd, F⟩ := T.c.def_ 22 (d := d_parse_document) rfl
  exact ⟨⟨fd, mk_fn (N := ["text", "document", "word"]) (own1 := []) F sc_parse_document fun cdv A outer s H E W hr tk hpo => (s_cons (s_expr (e_call (ok_check_text T Z) hr tk (a_cons (e_var 0) a_nil))) (s_cons (s_asg (e_tuple (g_tuple T) (a_cons (e_lc (own := [("word", 2)]) sc_parse_document.nd (i_seq (e_split (e_var 0) (e_gstr (g_BETWEEN T)))) (blkOk_by (N := N_parse_document) (sc := defScope s_parse_document) (own := [("word", 2)]) (by decide +kernel)) (tp_name 2) (is_name (by decide)) (fun _ _ _ _ _ => (pg_name (i := 2) sc_parse_document.nd rfl (.inl rfl))) (fun _ _ _ _ _ => ts_nil) (fun _ _ _ _ _ => (e_call (ok_read_block T Z) hr takes_w0 (a_cons (e_var 2) a_nil)))) a_nil)) (pg_name (i := 1) sc_parse_document.nd rfl (.inl rfl)) (tp_name 1) (ap_of (vs := [1]) (is_name (by decide)) (by decide))) (s_cons (s_if (cw (c_or (c_not (c_val (e_call (ok_is_document T Z) hr tk (a_cons (e_var 1) a_nil)))) (c_or1 (c_ne hr (e_call (ok_document_text T Z) hr tk (a_cons (e_var 1) a_nil)) (e_var 0))))) (s_one (s_raise 13 tk (mk_ParseError T rfl rfl))) s_nil) (s_one (s_ret (e_var 1)))))), F.bindsN fun _ _ _ _ _ _ us hl => match us, hl with | [_], _ => rfl⟩, F.kp, tx_glo T 22 rfl⟩
abbrev N_pagination_text : List Str := ["pagination", "before", "place"]
theorem sc_pagination_text : FnScope ["pagination", "before", "place"] ["pagination"] (defScope s_pagination_text) := ⟨rfl, rfl, rfl, by decide +kernel, rfl, by decide +kernel, by decide +kernel⟩
theorem ok_pagination_text {P : Program} {w : World} {K : PySem.W.Frag} {mg : Str → Option Value} {base : Heap} (T : Tx fa fn K mg) (Z : exA exL tf K = true) : FOk P w K mg base (ecs K) 1 "pagination_text" ["pagination"] m_pagination_text := by
  obtain ⟨fd, F⟩ := T.c.def_ 23 (d := d_pagination_text) rfl
  exact ⟨⟨fd, mk_fn (N := ["pagination", "before", "place"]) (own1 := []) F sc_pagination_text fun cdv A outer s H E W hr tk hpo => (s_one (s_ret (e_join (e_gstr (g_PLUS T)) (e_lc (own := [("before", 1), ("place", 2)]) sc_pagination_text.nd (i_zip (g_zip T) (a_cons (e_add (e_tup (a_cons e_int a_nil)) (e_var 0)) (a_cons (e_var 0) a_nil))) (blkOk_by (N := N_pagination_text) (sc := defScope s_pagination_text) (own := [("before", 1), ("place", 2)]) (by decide +kernel)) (tp_tup (tp_cons (tp_name 1) (tp_cons (tp_name 2) tp_nil)) (tn_cons (tn_cons tn_nil))) (is_tup (is_cons (is_name (by decide)) (is_cons (is_name (by decide)) is_nil))) (fun _ _ _ _ _ => (pg_tup rfl (pgs_cons (pg_name (i := 1) sc_pagination_text.nd rfl (.inl rfl)) (pgs_cons (pg_name (i := 2) sc_pagination_text.nd rfl (.inl rfl)) pgs_nil)))) (fun _ _ _ _ _ => ts_nil) (fun _ _ _ _ _ => (e_strI (g_str T) (a_cons (e_sub (e_var 2) (e_var 1)) a_nil))))))), F.bindsN fun _ _ _ _ _ _ us hl => match us, hl with | [_], _ => rfl⟩, F.kp, tx_glo T 23 rfl⟩
abbrev N_format_pagination : List Str := ["document", "rule", "height", "pagination"]
theorem sc_format_pagination : FnScope ["document", "rule", "height", "pagination"] ["document", "rule", "height", "pagination"] (defScope s_format_pagination) := ⟨rfl, rfl, rfl, by decide +kernel, rfl, by decide +kernel, by decide +kernel⟩
theorem ok_format_pagination {P : Program} {w : World} {K : PySem.W.Frag} {mg : Str → Option Value} {base : Heap} (T : Tx fa fn K mg) (Z : exA exL tf K = true) : FOk P w K mg base (ecs K) 8 "format_pagination" ["document", "rule", "height", "pagination"] m_format_pagination := by
  obtain ⟨fd, F⟩ := T.c.def_ 24 (d := d_format_pagination) rfl
  exact ⟨⟨fd, mk_fn (N := ["document", "rule", "height", "pagination"]) (own1 := []) F sc_format_pagination fun cdv A outer s H E W hr tk hpo => (s_cons (s_expr (e_call (ok_check_pagination T Z) hr tk (a_cons (e_var 0) (a_cons (e_var 1) (a_cons (e_var 2) (a_cons (e_var 3) a_nil)))))) (s_one (s_ret (e_call (ok_pagination_text T Z) hr tk (a_cons (e_var 3) a_nil))))), F.bindsN fun _ _ _ _ _ _ us hl => match us, hl with | [_, _, _, _], _ => rfl⟩, F.kp, tx_glo T 24 rfl⟩
abbrev N_parse_pagination : List Str := ["document", "rule", "height", "text", "found", "place", "word", "lines"]
theorem sc_parse_pagination : FnScope ["document", "rule", "height", "text", "found", "place", "word", "lines"] ["document", "rule", "height", "text"] (defScope s_parse_pagination) := ⟨rfl, rfl, rfl, by decide +kernel, rfl, by decide +kernel, by decide +kernel⟩
theorem ok_parse_pagination {P : Program} {w : World} {K : PySem.W.Frag} {mg : Str → Option Value} {base : Heap} (T : Tx fa fn K mg) (Z : exA exL tf K = true) : FOk P w K mg base (ecs K) 7 "parse_pagination" ["document", "rule", "height", "text"] m_parse_pagination := by
  obtain ⟨fd, F⟩ := T.c.def_ 25 (d := d_parse_pagination) rfl
  exact ⟨⟨fd, mk_fn (N := ["document", "rule", "height", "text", "found", "place", "word", "lines"]) (own1 := []) F sc_parse_pagination fun cdv A outer s H E W hr tk hpo => (s_cons (s_expr (e_call (ok_check_three T Z) hr tk (a_cons (e_var 0) (a_cons (e_var 1) (a_cons (e_var 2) a_nil))))) (s_cons (s_expr (e_call (ok_check_text T Z) hr tk (a_cons (e_var 3) a_nil))) (s_cons (s_asg (e_tup (a_cons (e_tup a_nil) (a_cons e_int a_nil))) (pg_tup rfl (pgs_cons (pg_name (i := 4) sc_parse_pagination.nd rfl (.inl rfl)) (pgs_cons (pg_name (i := 5) sc_parse_pagination.nd rfl (.inl rfl)) pgs_nil))) (tp_tup (tp_cons (tp_name 4) (tp_cons (tp_name 5) tp_nil)) (tn_cons (tn_cons tn_nil))) (ap_of (vs := [4, 5]) (is_tup (is_cons (is_name (by decide)) (is_cons (is_name (by decide)) is_nil))) (by decide))) (s_cons (s_for hpo (i_seq (e_split (e_var 3) (e_gstr (g_PLUS T)))) (pg_name (i := 6) sc_parse_pagination.nd rfl (.inl rfl)) (tp_name 6) (ap_of (vs := [6]) (is_name (by decide)) (by decide)) (s_cons (s_asg (e_call (ok_read_number T Z) hr tk (a_cons (e_var 6) a_nil)) (pg_name (i := 7) sc_parse_pagination.nd rfl (.inl rfl)) (tp_name 7) (ap_of (vs := [7]) (is_name (by decide)) (by decide))) (s_cons (s_asg (e_add (e_var 5) (e_if (c_isnot (e_var 7) e_non) (e_var 7) e_int)) (pg_name (i := 5) sc_parse_pagination.nd rfl (.inl rfl)) (tp_name 5) (ap_of (vs := [5]) (is_name (by decide)) (by decide))) (s_one (s_asg (e_add (e_var 4) (e_tup (a_cons (e_var 5) a_nil))) (pg_name (i := 4) sc_parse_pagination.nd rfl (.inl rfl)) (tp_name 4) (ap_of (vs := [4]) (is_name (by decide)) (by decide))))))) (s_cons (s_if (cw (c_or (c_not (c_val (e_call (ok_has_pagination T Z) hr tk (a_cons (e_var 0) (a_cons (e_var 1) (a_cons (e_var 2) (a_cons (e_var 4) a_nil))))))) (c_or1 (c_ne hr (e_call (ok_pagination_text T Z) hr tk (a_cons (e_var 4) a_nil)) (e_var 3))))) (s_one (s_raise 13 tk (mk_ParseError T rfl rfl))) s_nil) (s_one (s_ret (e_var 4)))))))), F.bindsN fun _ _ _ _ _ _ us hl => match us, hl with | [_, _, _, _], _ => rfl⟩, F.kp, tx_glo T 25 rfl⟩
abbrev N__law_pick : List Str := ["script", "k", "many", "cell", "rest", "again", "drawn"]
theorem sc__law_pick : FnScope ["script", "k", "many", "cell", "rest", "again", "drawn"] ["script", "k", "many"] (defScope s__law_pick) := ⟨rfl, rfl, rfl, by decide +kernel, rfl, by decide +kernel, by decide +kernel⟩
theorem ok__law_pick {P : Program} {w : World} {K : PySem.W.Frag} {mg : Str → Option Value} {base : Heap} (T : Tx fa fn K mg) (Z : exA exL tf K = true) : FOk P w K mg base (ecs K) 1 "_law_pick" ["script", "k", "many"] m__law_pick := by
  obtain ⟨fd, F⟩ := T.c.def_ 26 (d := d__law_pick) rfl
  exact ⟨⟨fd, mk_fn (N := ["script", "k", "many", "cell", "rest", "again", "drawn"]) (own1 := []) F sc__law_pick fun cdv A outer s H E W hr tk hpo => (s_cons (s_asg (e_if (c_ne hr (e_var 0) (e_lst a_nil)) (e_ix (e_var 0) (e_mod (e_var 1) (e_len (g_len T) (a_cons (e_var 0) a_nil)))) e_int) (pg_name (i := 3) sc__law_pick.nd rfl (.inl rfl)) (tp_name 3) (ap_of (vs := [3]) (is_name (by decide)) (by decide))) (s_cons (s_par2 (i := 4) (j := 5) sc__law_pick.nd rfl rfl (by decide) (by decide) (by decide) rfl rfl (a_cons (e_div (e_var 3) (e_pow e_int e_int)) (a_cons (e_div (e_var 1) (e_max (g_max T) (a_cons (e_len (g_len T) (a_cons (e_var 0) a_nil)) (a_cons e_int a_nil)))) a_nil)) (fun _ h => ps_par rfl sc__law_pick.nd rfl rfl (by decide) rfl rfl h (by rfl))) (s_cons (s_while 100000 hpo (cw (c_and (c_gt (e_var 4) e_int) (c_and1 (c_gt (e_var 5) e_int)))) (s_one (s_par2 (i := 4) (j := 5) sc__law_pick.nd rfl rfl (by decide) (by decide) (by decide) rfl rfl (a_cons (e_div (e_var 4) e_int) (a_cons (e_sub (e_var 5) e_int) a_nil)) (fun _ h => ps_par rfl sc__law_pick.nd rfl rfl (by decide) rfl rfl h (by rfl))))) (s_cons (s_if (c_gt (e_var 4) e_int) (s_one (s_ret (e_mod (e_mod (e_var 4) e_int) (e_var 2)))) s_nil) (s_cons (s_asg (e_mod (e_mul (e_add (e_mul (e_var 3) e_int) (e_mul e_int (e_add (e_var 1) e_int))) e_int) e_int) (pg_name (i := 6) sc__law_pick.nd rfl (.inl rfl)) (tp_name 6) (ap_of (vs := [6]) (is_name (by decide)) (by decide))) (s_one (s_ret (e_mod (e_mod (e_add (e_mul (e_var 6) (e_var 6)) (e_div (e_var 6) e_int)) e_int) (e_var 2))))))))), F.bindsN fun _ _ _ _ _ _ us hl => match us, hl with | [_, _, _], _ => rfl⟩, F.kp, tx_glo T 26 rfl⟩
abbrev N__law_paper : List Str := ["script", "at", "most", "rows", "i", "word"]
theorem sc__law_paper : FnScope ["script", "at", "most", "rows", "i", "word"] ["script", "at", "most"] (defScope s__law_paper) := ⟨rfl, rfl, rfl, by decide +kernel, rfl, by decide +kernel, by decide +kernel⟩
theorem ok__law_paper {P : Program} {w : World} {K : PySem.W.Frag} {mg : Str → Option Value} {base : Heap} (T : Tx fa fn K mg) (Z : exA exL tf K = true) : FOk P w K mg base (ecs K) 2 "_law_paper" ["script", "at", "most"] m__law_paper := by
  obtain ⟨fd, F⟩ := T.c.def_ 27 (d := d__law_paper) rfl
  exact ⟨⟨fd, mk_fn (N := ["script", "at", "most", "rows", "i", "word"]) (own1 := [3]) F sc__law_paper fun cdv A outer s H E W hr tk hpo => (s_cons (s_new (i := 3) sc__law_paper.nd rfl (.inl rfl) (by decide) a_nil) (s_cons (s_for hpo (i_range1 (g_range T) (a_cons (e_add e_int (e_call (ok__law_pick T Z) hr tk (a_cons (e_var 0) (a_cons (e_var 1) (a_cons (e_var 2) a_nil))))) a_nil)) (pg_name (i := 4) sc__law_paper.nd rfl (.inl rfl)) (tp_name 4) (ap_of (vs := [4]) (is_name (by decide)) (by decide)) (s_cons (s_asg (e_ix (e_tup (a_cons e_str (a_cons e_str (a_cons e_str (a_cons e_str (a_cons e_str a_nil)))))) (e_call (ok__law_pick T Z) hr tk (a_cons (e_var 0) (a_cons (e_add (e_add (e_var 1) e_int) (e_mul e_int (e_var 4))) (a_cons e_int a_nil))))) (pg_name (i := 5) sc__law_paper.nd rfl (.inl rfl)) (tp_name 5) (ap_of (vs := [5]) (is_name (by decide)) (by decide))) (s_one (s_app (i := 3) (by decide) (a_cons (e_tup (a_cons (e_add e_int (e_call (ok__law_pick T Z) hr tk (a_cons (e_var 0) (a_cons (e_add (e_add (e_var 1) e_int) (e_mul e_int (e_var 4))) (a_cons e_int a_nil))))) (a_cons (e_var 5) a_nil))) a_nil) (fun _ h => pe_bm PySem.F.plainAttrs_list PySem.F.slot_list_append PySem.F.type_list_append mt_append (pv 3) h))))) (s_one (s_ret (e_tuple (g_tuple T) (a_cons (e_var 3) a_nil)))))), F.bindsN fun _ _ _ _ _ _ us hl => match us, hl with | [_, _, _], _ => rfl⟩, F.kp, tx_glo T 27 rfl⟩
abbrev N__law_rule : List Str := ["script", "at"]
theorem sc__law_rule : FnScope ["script", "at"] ["script", "at"] (defScope s__law_rule) := ⟨rfl, rfl, rfl, by decide +kernel, rfl, by decide +kernel, by decide +kernel⟩
theorem ok__law_rule {P : Program} {w : World} {K : PySem.W.Frag} {mg : Str → Option Value} {base : Heap} (T : Tx fa fn K mg) (Z : exA exL tf K = true) : FOk P w K mg base (ecs K) 2 "_law_rule" ["script", "at"] m__law_rule := by
  obtain ⟨fd, F⟩ := T.c.def_ 28 (d := d__law_rule) rfl
  exact ⟨⟨fd, mk_fn (N := ["script", "at"]) (own1 := []) F sc__law_rule fun cdv A outer s H E W hr tk hpo => (s_one (s_ret (e_tup (a_cons (e_add e_int (e_call (ok__law_pick T Z) hr tk (a_cons (e_var 0) (a_cons (e_var 1) (a_cons e_int a_nil))))) (a_cons (e_add e_int (e_call (ok__law_pick T Z) hr tk (a_cons (e_var 0) (a_cons (e_add (e_var 1) e_int) (a_cons e_int a_nil))))) a_nil))))), F.bindsN fun _ _ _ _ _ _ us hl => match us, hl with | [_, _], _ => rfl⟩, F.kp, tx_glo T 28 rfl⟩
theorem sc__law_class : FnScope ["error", "kinds", "rows"] ["error"] (defScope s__law_class) := ⟨rfl, rfl, rfl, by decide +kernel, rfl, by decide +kernel, by decide +kernel⟩
theorem ok__law_class {P : Program} {w : World} {K : PySem.W.Frag} {mg : Str → Option Value} {base : Heap} (T : Tx fa fn K mg) (Z : exA exL tf K = true) : ClsOk P w K mg base (ecs K) "_law_class" clsL clsW := by
  obtain ⟨fd, F⟩ := T.c.def_ 29 (d := d__law_class) rfl
  have EX := exf Z clsL (by decide +kernel) (by decide +kernel)
  refine ⟨⟨fd, ["error", "kinds", "rows"], "error", _, _, _, F, sc__law_class, rfl, F.bindsN fun _ _ _ _ _ _ us hl => match us, hl with | [_], _ => rfl, fun cdv A outer s H a oe c wd hw hz hf => ?_⟩, F.kp, tx_glo T 29 rfl, EX.m⟩
  obtain ⟨hcm, j, hj, hjw⟩ := lcW_mem hw
  have kv := exA_v (excN := excN) Z ((by decide +kernel : ∀ c ∈ clsL, exL.contains (excN.getD c "") = true) c hcm)
  have q : PSs (cxS P w K mg base ["error", "kinds", "rows"] "_law_class" (defScope s__law_class) (He.ga K "_law_class") cdv A outer s H a oe) (defBody s__law_class) (fun D σ H => σ = [some (.ref a), none, none] ∧ ∃ (j : Nat) (w : Str), clsL.findIdx? (fun b => c == b) = some j ∧ clsW[j]? = some w ∧ ∀ H', PB.Same H H' → D.rt (.str w) H') :=
    lc_body (X := cxOf (L2.CX P w) P w K mg base ["error", "kinds", "rows"] "_law_class" (defScope s__law_class) (He.ga K "_law_class") cdv A outer s H (fun _ _ _ => False)) (ec := ecs K) (cl1 := [1, 2]) (cl2 := [3, 4]) (cl3 := [5, 6]) (cl4 := [7, 8]) (cl5 := [9, 10]) (cl6 := [11, 12]) (cl7 := [13]) (w1 := ["InvalidDocument", "InvalidRule", "InvalidHeight", "InvalidNumber"]) (w2 := ["InvalidPagination", "TooLarge", "InvalidStarts", "InvalidNotes", "InvalidBlock"]) (w3 := ["LastBlock", "InvalidMark", "NothingToUndo", "ParseError"]) (.cons (C := "InvalidDocument") (c := 1) (by rfl) (by exact tx_glo T 34 rfl) (by decide) (.cons (C := "InvalidRule") (c := 2) (by rfl) (by exact tx_glo T 35 rfl) (by decide) .nil)) (.cons (C := "InvalidHeight") (c := 3) (by rfl) (by exact tx_glo T 36 rfl) (by decide) (.cons (C := "InvalidNumber") (c := 4) (by rfl) (by exact tx_glo T 37 rfl) (by decide) .nil)) (.cons (C := "InvalidPagination") (c := 5) (by rfl) (by exact tx_glo T 38 rfl) (by decide) (.cons (C := "TooLarge") (c := 6) (by rfl) (by exact tx_glo T 39 rfl) (by decide) .nil)) (.cons (C := "InvalidStarts") (c := 7) (by rfl) (by exact tx_glo T 40 rfl) (by decide) (.cons (C := "InvalidNotes") (c := 8) (by rfl) (by exact tx_glo T 41 rfl) (by decide) .nil)) (.cons (C := "InvalidBlock") (c := 9) (by rfl) (by exact tx_glo T 42 rfl) (by decide) (.cons (C := "LastBlock") (c := 10) (by rfl) (by exact tx_glo T 43 rfl) (by decide) .nil)) (.cons (C := "InvalidMark") (c := 11) (by rfl) (by exact tx_glo T 44 rfl) (by decide) (.cons (C := "NothingToUndo") (c := 12) (by rfl) (by exact tx_glo T 45 rfl) (by decide) .nil)) (.cons (C := "ParseError") (c := 13) (by rfl) (by exact tx_glo T 46 rfl) (by decide) .nil) (by exact fun i => match i with | 0 => ⟨_, _, rfl⟩ | 1 => ⟨_, _, rfl⟩ | 2 => ⟨_, _, rfl⟩ | 3 => ⟨_, _, rfl⟩ | _ + 4 => ⟨0, ⟨0, 0, 0, 0⟩, rfl⟩) (by exact fun i => match i with | 0 => ⟨_, _, rfl⟩ | 1 => ⟨_, _, rfl⟩ | 2 => ⟨_, _, rfl⟩ | 3 => ⟨_, _, rfl⟩ | 4 => ⟨_, _, rfl⟩ | _ + 5 => ⟨0, ⟨0, 0, 0, 0⟩, rfl⟩) (by exact fun i => match i with | 0 => ⟨_, _, rfl⟩ | 1 => ⟨_, _, rfl⟩ | 2 => ⟨_, _, rfl⟩ | 3 => ⟨_, _, rfl⟩ | _ + 4 => ⟨0, ⟨0, 0, 0, 0⟩, rfl⟩)  EX hcm hz hf kv (g_isinstance T) (g_ValueError T) sc__law_class.nd
  exact pss_imp q fun D σ H h => ⟨h.1, j, wd, hj, hjw, h.2⟩
theorem lo_law_0 {P : Program} {w : World} {K : PySem.W.Frag} {mg : Str → Option Value} {base : Heap} (T : Tx fa fn K mg) (Z : exA exL tf K = true) : LamOk P w K mg base (ecs K) 7 lam_law_0 f_law_0 :=
  ⟨rfl, rfl, rfl, by decide +kernel, by decide +kernel, by decide +kernel, fun _ _ _ _ => rfl, fun A outer s H E W f c' cl hr tk => (e_call (ok_parse_pagination T Z) hr tk (a_cons (e_var 1) (a_cons (e_var 0) (a_cons (e_var 2) (a_cons (e_var 3) a_nil)))))⟩
theorem lo_law_1 {P : Program} {w : World} {K : PySem.W.Frag} {mg : Str → Option Value} {base : Heap} (T : Tx fa fn K mg) (Z : exA exL tf K = true) : LamOk P w K mg base (ecs K) 7 lam_law_1 f_law_1 :=
  ⟨rfl, rfl, rfl, by decide +kernel, by decide +kernel, by decide +kernel, fun _ _ _ _ => rfl, fun A outer s H E W f c' cl hr tk => (e_call (ok_parse_document T Z) hr tk (a_cons (e_var 0) a_nil))⟩
theorem ok_beta {P : Program} {w : World} {K : PySem.W.Frag} {mg : Str → Option Value} {base : Heap} (T : Tx fa fn K mg) (Z : exA exL tf K = true) : ∀ L ds, beta L ds = .bad ∨ ∃ F, LamOk P w K mg base (ecs K) 7 L F ∧ beta L ds = F (ds.map some) :=
  betaT_ok (tb := tblL) (List.forall_mem_cons.2 ⟨lo_law_0 T Z, List.forall_mem_cons.2 ⟨lo_law_1 T Z, fun _ h => absurd h (by simp)⟩⟩)
theorem sc__law_result : FnScope ["call", "error"] ["call"] (defScope s__law_result) := ⟨rfl, rfl, rfl, by decide +kernel, rfl, by decide +kernel, by decide +kernel⟩
theorem ok__law_result {P : Program} {w : World} {K : PySem.W.Frag} {mg : Str → Option Value} {base : Heap} (T : Tx fa fn K mg) (Z : exA exL tf K = true) : FOk P w K mg base (ecs K) 9 "_law_result" ["call"] m__law_result := by
  obtain ⟨fd, F⟩ := T.c.def_ 30 (d := d__law_result) rfl
  exact ⟨⟨fd, mk_fn (N := ["call", "error"]) (own1 := []) F sc__law_result fun cdv A outer s H E W hr tk hpo => (s_one (s_tryC 1 (ok__law_class T Z) hr (tx_glo T 33 rfl) (fun W' pn xe tk' => (s_one (s_ret (e_callC (ok_beta T Z) hr tk')))) sc__law_result.nd)), F.bindsN fun _ _ _ _ _ _ us hl => match us, hl with | [_], _ => rfl⟩, F.kp, tx_glo T 30 rfl⟩
abbrev N__law_all : List Str := ["calls", "word", "call"]
theorem sc__law_all : FnScope ["calls", "word", "call"] ["calls", "word"] (defScope s__law_all) := ⟨rfl, rfl, rfl, by decide +kernel, rfl, by decide +kernel, by decide +kernel⟩
theorem ok__law_all {P : Program} {w : World} {K : PySem.W.Frag} {mg : Str → Option Value} {base : Heap} (T : Tx fa fn K mg) (Z : exA exL tf K = true) : FOk P w K mg base (ecs K) 10 "_law_all" ["calls", "word"] m__law_all := by
  obtain ⟨fd, F⟩ := T.c.def_ 31 (d := d__law_all) rfl
  exact ⟨⟨fd, mk_fn (N := ["calls", "word", "call"]) (own1 := []) F sc__law_all fun cdv A outer s H E W hr tk hpo => (s_one (s_ret (e_all (g_all T) (a_cons (e_lc (own := [("call", 2)]) sc__law_all.nd (i_seq (e_var 0)) (blkOk_by (N := N__law_all) (sc := defScope s__law_all) (own := [("call", 2)]) (by decide +kernel)) (tp_name 2) (is_name (by decide)) (fun _ _ _ _ _ => (pg_name (i := 2) sc__law_all.nd rfl (.inl rfl))) (fun _ _ _ _ _ => ts_nil) (fun _ _ _ _ _ => (e_eq hr (e_call (ok__law_result T Z) hr takes_w0 (a_cons (e_var 2) a_nil)) (e_tup (a_cons e_str (a_cons (e_var 1) a_nil)))))) a_nil)))), F.bindsN fun _ _ _ _ _ _ us hl => match us, hl with | [_, _], _ => rfl⟩, F.kp, tx_glo T 31 rfl⟩
abbrev N_law : List Str := ["script", "i", "paper", "rule", "text", "height", "some", "row", "bad", "value", "lines", "word", "start", "end"]
theorem sc_law : FnScope ["script", "i", "paper", "rule", "text", "height", "some", "row", "bad", "value", "lines", "word", "start", "end"] ["script"] (defScope s_law) := ⟨rfl, rfl, rfl, by decide +kernel, rfl, by decide +kernel, by decide +kernel⟩
theorem fn_law {P : Program} {w : World} {K : PySem.W.Frag} {mg : Str → Option Value} {base : Heap} (T : Tx fa fn K mg) (Z : exA exL tf K = true) (B : TBs tf K mg base) {m : List D → Rs D} (hm : ∀ g ds, m ds = .bad ∨ runF 1 14 (S_law g) ds = m ds) {fd : FuncData} (F : FunD K d_law.name d_law.qual d_law.params d_law.body d_law.scope (d_law.dvs K) (d_law.kws K) (He.ga K "law") fd) : FnOk P w K mg base (L2.CX P w) 11 (He.ga K "law") fd ["script"] (spD K (ecs K) m) :=
  mk_fnG (N := ["script", "i", "paper", "rule", "text", "height", "some", "row", "bad", "value", "lines", "word", "start", "end"]) (own1 := []) (S := S_law) F sc_law hm fun cdv A outer s H E W hcd hr tk hpo => (s_cons (s_for hpo (i_range1 (g_range T) (a_cons e_int a_nil)) (pg_name (i := 1) sc_law.nd rfl (.inl rfl)) (tp_name 1) (ap_of (vs := [1]) (is_name (by decide)) (by decide)) (s_cons (s_asg (e_tup (a_cons (e_call (ok__law_paper T Z) hr tk (a_cons (e_var 0) (a_cons (e_mul e_int (e_var 1)) (a_cons e_int a_nil)))) (a_cons (e_call (ok__law_rule T Z) hr tk (a_cons (e_var 0) (a_cons (e_add (e_mul e_int (e_var 1)) e_int) a_nil))) a_nil))) (pg_tup rfl (pgs_cons (pg_name (i := 2) sc_law.nd rfl (.inr rfl)) (pgs_cons (pg_name (i := 3) sc_law.nd rfl (.inr rfl)) pgs_nil))) (tp_tup (tp_cons (tp_name 2) (tp_cons (tp_name 3) tp_nil)) (tn_cons (tn_cons tn_nil))) (ap_of (vs := [2, 3]) (is_tup (is_cons (is_name (by decide)) (is_cons (is_name (by decide)) is_nil))) (by decide))) (s_cons (s_asg (e_join e_str (e_lc (own := [("lines", 10), ("word", 11)]) sc_law.nd (i_seq (e_var 2)) (blkOk_by (N := N_law) (sc := defScope s_law) (own := [("lines", 10), ("word", 11)]) (by decide +kernel)) (tp_tup (tp_cons (tp_name 10) (tp_cons (tp_name 11) tp_nil)) (tn_cons (tn_cons tn_nil))) (is_tup (is_cons (is_name (by decide)) (is_cons (is_name (by decide)) is_nil))) (fun _ _ _ _ _ => (pg_tup rfl (pgs_cons (pg_name (i := 10) sc_law.nd rfl (.inl rfl)) (pgs_cons (pg_name (i := 11) sc_law.nd rfl (.inl rfl)) pgs_nil)))) (fun _ _ _ _ _ => ts_nil) (fun _ _ _ _ _ => (e_add (e_strI (g_str T) (a_cons (e_var 10) a_nil)) (e_cutS (e_var 11) p_none (p_some e_int)))))) (pg_name (i := 4) sc_law.nd rfl (.inl rfl)) (tp_name 4) (ap_of (vs := [4]) (is_name (by decide)) (by decide))) (s_cons (s_if (cw (c_or (c_ne hr (e_call (ok_format_document T Z) hr tk (a_cons (e_var 2) a_nil)) (e_var 4)) (c_or1 (c_ne hr (e_call (ok_parse_document T Z) hr tk (a_cons (e_var 4) a_nil)) (e_var 2))))) (s_one (s_ret e_bl)) s_nil) (s_cons (s_asg (e_add e_int (e_call (ok__law_pick T Z) hr tk (a_cons (e_var 0) (a_cons (e_add (e_mul e_int (e_var 1)) e_int) (a_cons e_int a_nil))))) (pg_name (i := 5) sc_law.nd rfl (.inr rfl)) (tp_name 5) (ap_of (vs := [5]) (is_name (by decide)) (by decide))) (s_cons (s_asg (e_call (ok_filled T Z) hr tk (a_cons (e_var 2) (a_cons (e_var 3) (a_cons (e_var 5) a_nil)))) (pg_name (i := 6) sc_law.nd rfl (.inl rfl)) (tp_name 6) (ap_of (vs := [6]) (is_name (by decide)) (by decide))) (s_one (s_if (c_isnot (e_var 6) e_non) (s_cons (s_asg (e_join e_str (e_lc (own := [("start", 12), ("end", 13)]) sc_law.nd (i_zip (g_zip T) (a_cons (e_add (e_tup (a_cons e_int a_nil)) (e_var 6)) (a_cons (e_var 6) a_nil))) (blkOk_by (N := N_law) (sc := defScope s_law) (own := [("start", 12), ("end", 13)]) (by decide +kernel)) (tp_tup (tp_cons (tp_name 12) (tp_cons (tp_name 13) tp_nil)) (tn_cons (tn_cons tn_nil))) (is_tup (is_cons (is_name (by decide)) (is_cons (is_name (by decide)) is_nil))) (fun _ _ _ _ _ => (pg_tup rfl (pgs_cons (pg_name (i := 12) sc_law.nd rfl (.inl rfl)) (pgs_cons (pg_name (i := 13) sc_law.nd rfl (.inl rfl)) pgs_nil)))) (fun _ _ _ _ _ => ts_nil) (fun _ _ _ _ _ => (e_strI (g_str T) (a_cons (e_sub (e_var 13) (e_var 12)) a_nil))))) (pg_name (i := 7) sc_law.nd rfl (.inl rfl)) (tp_name 7) (ap_of (vs := [7]) (is_name (by decide)) (by decide))) (s_cons (s_if (c_ne hr (e_call (ok_format_pagination T Z) hr tk (a_cons (e_var 2) (a_cons (e_var 3) (a_cons (e_var 5) (a_cons (e_var 6) a_nil))))) (e_var 7)) (s_one (s_ret e_bl)) s_nil) (s_cons (s_if (c_ne hr (e_call (ok_parse_pagination T Z) hr tk (a_cons (e_var 2) (a_cons (e_var 3) (a_cons (e_var 5) (a_cons (e_var 7) a_nil))))) (e_var 6)) (s_one (s_ret e_bl)) s_nil) (s_one (s_for hpo (i_seq (e_tup (a_cons (e_add (e_var 7) e_str) (a_cons (e_add e_str (e_var 7)) (a_cons (e_add (e_var 7) e_str) (a_cons (e_add (e_var 7) e_str) (a_cons (e_add e_str (e_var 7)) (a_cons (e_add e_str (e_var 7)) (a_cons e_str (a_cons e_non (a_cons e_int (a_cons (e_add e_str (e_var 7)) a_nil)))))))))))) (pg_name (i := 8) sc_law.nd rfl (.inr rfl)) (tp_name 8) (ap_of (vs := [8]) (is_name (by decide)) (by decide)) (s_one (s_if (c_not (c_val (e_callX (ok__law_all T Z) hr (a_cons (e_lst (a_cons (e_lam (x := "law") (L := lam_law_0) [3, 2, 5, 8] ⟨by decide, (B ("law", none) (by decide)).1, (B ("law", none) (by decide)).2, hcd, rfl, by decide +kernel, rfl, LamX.lamS_by (by exact (by decide +kernel : LamX.lamSB (defScope s_law) lam_law_0.scope = true))⟩) a_nil)) (a_cons e_str a_nil)) (fun _ => rfl)))) (s_one (s_ret e_bl)) s_nil))))))) s_nil)))))))) (s_cons (s_new (i := 8) sc_law.nd rfl (.inr rfl) (by decide) (a_cons e_non (a_cons e_int (a_cons e_str (a_cons e_str (a_cons e_str (a_cons e_str (a_cons e_str (a_cons e_str (a_cons e_str (a_cons e_str (a_cons e_str (a_cons e_str (a_cons e_str (a_cons e_str (a_cons e_str (a_cons e_str (a_cons e_str a_nil)))))))))))))))))) (s_cons (s_ext (i := 8) (by decide) (a_cons (e_lst (a_cons e_str (a_cons e_str a_nil))) a_nil) (fun _ h => pe_bm PySem.F.plainAttrs_list PySem.F.slot_list_extend PySem.F.type_list_extend mt_extend (pv 8) h)) (s_cons (s_ext (i := 8) (by decide) (a_cons (e_lst (a_cons (e_join e_str (e_mul (e_lst (a_cons e_str a_nil)) e_int)) (a_cons e_str a_nil))) a_nil) (fun _ h => pe_bm PySem.F.plainAttrs_list PySem.F.slot_list_extend PySem.F.type_list_extend mt_extend (pv 8) h)) (s_cons (s_relB (by decide) (s_for hpo (i_seq (e_var 8)) (pg_name (i := 9) sc_law.nd rfl (.inr rfl)) (tp_name 9) (ap_of (vs := [9]) (is_name (by decide)) (by decide)) (s_one (s_if (c_not (c_val (e_callX (ok__law_all T Z) hr (a_cons (e_lst (a_cons (e_lam (x := "law") (L := lam_law_1) [9] ⟨by decide, (B ("law", none) (by decide)).1, (B ("law", none) (by decide)).2, hcd, rfl, by decide +kernel, rfl, LamX.lamS_by (by exact (by decide +kernel : LamX.lamSB (defScope s_law) lam_law_1.scope = true))⟩) a_nil)) (a_cons e_str a_nil)) (fun _ => rfl)))) (s_one (s_ret e_bl)) s_nil)))) (s_one (s_ret (e_eq hr (e_call (ok_parse_document T Z) hr tk (a_cons e_str a_nil)) (e_tup (a_cons (e_tup (a_cons e_int (a_cons e_str a_nil))) (a_cons (e_tup (a_cons e_int (a_cons e_str a_nil))) (a_cons (e_tup (a_cons e_int (a_cons e_str a_nil))) (a_cons (e_tup (a_cons e_int (a_cons e_str a_nil))) a_nil)))))))))))))
end LW

namespace LW
open PySem PySem.Spec PyProof.Rows L2 PB
abbrev Rw : PySem.W.OpenRow := PySem.W.OpenLaw.row PySem.Challenge.rw_pagebreaks_k64_formats
abbrev hk : PySem.W.Hook := He.hookX 5 fa fn [] tf (exA exL tf)
def ob (s : PySem.W.SharedT) : He.AlX := He.obsX 5 fa fn [] tf (exA exL tf) (HandSHeadRun.getT s)
theorem ob_eq (s : PySem.W.SharedT) : ob s = hk.obs s.abs := He.obsX_eq (HandSHeadRun.getT_eq s)
set_option maxHeartbeats 0 in
theorem run (w : World) : HandSHeadRun.RunEq Rw (PySem.W.view Rw.prog [63]) hk ob 20000 loose w := by
  intro os
  kernel_rfl
end LW

namespace PB
open PySem L2
section run
@[simp] theorem bd_ok {α β : Type} (a : α) (f : α → Rs β) : (Rs.ok a).bind f = f a := rfl
@[simp] theorem bd_ex {α β : Type} (c : Nat) (f : α → Rs β) : (Rs.ex c).bind f = .ex c := rfl
@[simp] theorem bd_bad {α β : Type} (f : α → Rs β) : (Rs.bad : Rs α).bind f = .bad := rfl
@[simp] theorem of_so {α : Type} (a : α) : Rs.of (some a) = .ok a := rfl
@[simp] theorem of_no {α : Type} : Rs.of (none : Option α) = .bad := rfl
@[simp] theorem r_eC (d : D) (ρ : Sl) : eC d ρ = .ok d := rfl
@[simp] theorem r_eVar (i : Nat) (ρ : Sl) : eVar i ρ = match ρ[i]? with | some (some d) => .ok d | _ => .bad := rfl
@[simp] theorem r_eBin (g : D → D → Option D) (F G : Sl → Rs D) (ρ : Sl) : eBin g F G ρ = (F ρ).bind fun x => (G ρ).bind fun y => Rs.of (g x y) := rfl
@[simp] theorem r_eUn (g : D → Option D) (F : Sl → Rs D) (ρ : Sl) : eUn g F ρ = (F ρ).bind fun x => Rs.of (g x) := rfl
@[simp] theorem r_eChain (g g' : D → D → Option D) (F G G' : Sl → Rs D) (ρ : Sl) : eChain g g' F G G' ρ = (F ρ).bind fun x => (G ρ).bind fun y => (Rs.of (g x y)).bind fun z => match z with
  | .bl true => (G' ρ).bind fun w => Rs.of (g' y w)
  | .bl false => .ok (.bl false)
  | _ => .bad := rfl
@[simp] theorem r_dB (b : Bool) : dB (.bl b) = some b := rfl
@[simp] theorem r_cE (F : Sl → Rs D) (ρ : Sl) : cE F ρ = (F ρ).bind fun d => Rs.of (dB d) := rfl
@[simp] theorem r_cAnd (C E : Sl → Rs Bool) (ρ : Sl) : cAnd C E ρ = (C ρ).bind fun b => match b with
  | true => E ρ
  | false => .ok false := rfl
@[simp] theorem r_cOr (C E : Sl → Rs Bool) (ρ : Sl) : cOr C E ρ = (C ρ).bind fun b => match b with
  | true => .ok true
  | false => E ρ := rfl
@[simp] theorem r_cNot (C : Sl → Rs Bool) (ρ : Sl) : cNot C ρ = (C ρ).bind fun b => .ok (!b) := rfl
@[simp] theorem r_cYes (ρ : Sl) : cYes ρ = .ok true := rfl
@[simp] theorem r_eIf (C : Sl → Rs Bool) (F G : Sl → Rs D) (ρ : Sl) : eIf C F G ρ = (C ρ).bind fun b => match b with
  | true => F ρ
  | false => G ρ := rfl
@[simp] theorem r_eAnd (F G : Sl → Rs D) (ρ : Sl) : eAnd F G ρ = (F ρ).bind fun d => match d with
  | .bl true => G ρ
  | .bl false => .ok (.bl false)
  | _ => .bad := rfl
@[simp] theorem r_eOr (F G : Sl → Rs D) (ρ : Sl) : eOr F G ρ = (F ρ).bind fun d => match d with
  | .bl true => .ok (.bl true)
  | .bl false => G ρ
  | _ => .bad := rfl
@[simp] theorem r_eNot (F : Sl → Rs D) (ρ : Sl) : eNot F ρ = (F ρ).bind fun d => match d with
  | .bl b => .ok (.bl (!b))
  | _ => .bad := rfl
@[simp] theorem r_aNil (ρ : Sl) : aNil ρ = .ok [] := rfl
@[simp] theorem r_aCons (F : Sl → Rs D) (A : Sl → Rs (List D)) (ρ : Sl) : aCons F A ρ = (F ρ).bind fun x => (A ρ).bind fun xs => .ok (x :: xs) := rfl
@[simp] theorem r_eTup (A : Sl → Rs (List D)) (ρ : Sl) : eTup A ρ = (A ρ).bind fun xs => if xs.length ≤ 1000000 then .ok (.tup xs) else .bad := rfl
@[simp] theorem r_eLst (A : Sl → Rs (List D)) (ρ : Sl) : eLst A ρ = (A ρ).bind fun xs => if xs.length ≤ 1000000 then .ok (.lst xs) else .bad := rfl
@[simp] theorem r_pNone (ρ : Sl) : pNone ρ = .ok none := rfl
@[simp] theorem r_pSome (F : Sl → Rs D) (ρ : Sl) : pSome F ρ = (F ρ).bind fun d => match d with
  | .int i => .ok (some i)
  | _ => .bad := rfl
@[simp] theorem r_eCut (F : Sl → Rs D) (P P' : Sl → Rs (Option Int)) (ρ : Sl) : eCut F P P' ρ = (F ρ).bind fun x => (P ρ).bind fun l => (P' ρ).bind fun h => Rs.of (dCut l h x) := rfl
@[simp] theorem r_eCall (g : List D → Option D) (A : Sl → Rs (List D)) (ρ : Sl) : eCall g A ρ = (A ρ).bind fun xs => Rs.of (g xs) := rfl
@[simp] theorem r_eF (m : List D → Rs D) (A : Sl → Rs (List D)) (ρ : Sl) : eF m A ρ = (A ρ).bind m := rfl
@[simp] theorem r_sSeq (F : Sl → Rs D) (ρ : Sl) : sSeq F ρ = (F ρ).bind fun d => Rs.of (dSeq d) := rfl
@[simp] theorem r_sRg1 (A : Sl → Rs (List D)) (ρ : Sl) : sRg1 A ρ = (A ρ).bind fun ds => match ds with
  | [.int j] => if -1000000 ≤ j ∧ j ≤ 1000000 then .ok ((rgI 0 j).map .int) else .bad
  | _ => .bad := rfl
@[simp] theorem r_sRg2 (A : Sl → Rs (List D)) (ρ : Sl) : sRg2 A ρ = (A ρ).bind fun ds => match ds with
  | [.int i, .int j] => if -1000000 ≤ i ∧ i ≤ 1000000 ∧ -1000000 ≤ j ∧ j ≤ 1000000 then .ok ((rgI i j).map .int) else .bad
  | _ => .bad := rfl
@[simp] theorem r_sEnum (A : Sl → Rs (List D)) (ρ : Sl) : sEnum A ρ = (A ρ).bind fun ds => match ds with
  | [d] => Rs.of ((dSeq d).map (enumT 0))
  | _ => .bad := rfl
@[simp] theorem r_sZip (A : Sl → Rs (List D)) (ρ : Sl) : sZip A ρ = (A ρ).bind fun ds => match ds with
  | [.lst xs, .lst ys] => .ok (zipT xs ys)
  | [.tup xs, .tup ys] => .ok (zipT xs ys)
  | _ => .bad := rfl
@[simp] theorem r_dSeqL (xs : List D) : dSeq (.lst xs) = some xs := rfl
@[simp] theorem r_dSeqT (xs : List D) : dSeq (.tup xs) = some xs := rfl
@[simp] theorem r_setD0 (ρ : Sl) : setD ρ [] = ρ := rfl
@[simp] theorem r_setD1 (ρ : Sl) (i : Nat) (d : D) (r : Asn) : setD ρ ((i, d) :: r) = setD (ρ.set i (some d)) r := rfl
@[simp] theorem r_tgName (i : Nat) (d : D) : tgName i d = some [(i, d)] := rfl
@[simp] theorem r_tgTup (T : List D → Option Asn) (ds : List D) : tgTup T (.tup ds) = T ds := rfl
@[simp] theorem r_tgNil : tgNil [] = some [] := rfl
@[simp] theorem r_tgCons (T : D → Option Asn) (U : List D → Option Asn) (d : D) (ds : List D) : tgCons T U (d :: ds) = (T d).bind fun a => (U ds).map fun b => a ++ b := rfl
@[simp] theorem r_tg2 (i j : Nat) (x y : D) : tg2 i j (.tup [x, y]) = some [(i, x), (j, y)] := rfl
@[simp] theorem r_tg3 (i j k : Nat) (x y z : D) : tg3 i j k (.tup [x, y, z]) = some [(i, x), (j, y), (k, z)] := rfl
@[simp] theorem r_wipe0 (ρ : Sl) : wipeD ρ [] = ρ := rfl
@[simp] theorem r_wipe1 (ρ : Sl) (v : Nat) (vs : List Nat) : wipeD ρ (v :: vs) = (wipeD ρ vs).set v none := rfl
@[simp] theorem r_noEx {α : Type} (a : α) : noEx (.ok a) = .ok a := rfl
@[simp] theorem r_eLc (S : Sl → Rs (List D)) (vs : List Nat) (T : D → Option Asn) (C : Sl → Rs Bool) (E : Sl → Rs D) (ρ : Sl) : eLc S vs T C E ρ = (S ρ).bind fun ds => if ds.length ≤ 1000000 then noEx ((lcL T C E (wipeD ρ vs) ds).bind fun r => .ok (.lst r)) else .bad := rfl
@[simp] theorem r_seqS (S U : Sl → Rs Out) (ρ : Sl) : seqS S U ρ = (S ρ).bind fun o => match o with
  | .nx ρ' => U ρ'
  | o => .ok o := rfl
@[simp] theorem r_sNil (ρ : Sl) : sNil ρ = .ok (.nx ρ) := rfl
@[simp] theorem r_sRet (F : Sl → Rs D) (ρ : Sl) : sRet F ρ = (F ρ).bind fun d => .ok (.rt d) := rfl
@[simp] theorem r_sExpr (F : Sl → Rs D) (ρ : Sl) : sExpr F ρ = (F ρ).bind fun _ => .ok (.nx ρ) := rfl
@[simp] theorem r_sAsg (own : List Nat) (T : D → Option Asn) (F : Sl → Rs D) (ρ : Sl) : sAsg own T F ρ = (F (wipeD ρ own)).bind fun d => (Rs.of (T d)).bind fun as => .ok (.nx (setD ρ as)) := rfl
@[simp] theorem r_sAsgS (T : D → Option Asn) (F : Sl → Rs D) (ρ : Sl) : sAsgS T F ρ = (F ρ).bind fun d => match scl d with
  | true => (Rs.of (T d)).bind fun as => .ok (.nx (setD ρ as))
  | false => .bad := rfl
@[simp] theorem r_scl_int (i : Int) : scl (.int i) = true := rfl
@[simp] theorem r_scl_bl (i : Bool) : scl (.bl i) = true := rfl
@[simp] theorem r_scl_non : scl .non = true := rfl
@[simp] theorem r_scl_str (i : Str) : scl (.str i) = true := rfl
@[simp] theorem r_sIf (C : Sl → Rs Bool) (S U : Sl → Rs Out) (ρ : Sl) : sIf C S U ρ = (C ρ).bind fun b => match b with
  | true => S ρ
  | false => U ρ := rfl
@[simp] theorem r_sBreak (ρ : Sl) : sBreak ρ = .ok (.bk ρ) := rfl
@[simp] theorem r_sCont (ρ : Sl) : sCont ρ = .ok (.ct ρ) := rfl
@[simp] theorem r_sFor (own : List Nat) (I : Sl → Rs (List D)) (T : D → Option Asn) (S : Sl → Rs Out) (ρ : Sl) : sFor own I T S ρ = (I (wipeD ρ own)).bind fun ds => forL T S ds ρ := rfl
@[simp] theorem r_sWhile (n : Nat) (C : Sl → Rs Bool) (S : Sl → Rs Out) (ρ : Sl) : sWhile n C S ρ = whileN C S n ρ := rfl
@[simp] theorem r_sNew (own : List Nat) (i : Nat) (A : Sl → Rs (List D)) (ρ : Sl) : sNew own i A ρ = (A (wipeD ρ own)).bind fun ds => if ds.length ≤ 1000000 ∧ i < ρ.length then .ok (.nx (ρ.set i (some (.lst ds)))) else .bad := rfl
@[simp] theorem r_sNew2 (own : List Nat) (i j : Nat) (A : Sl → Rs (List D)) (ρ : Sl) : sNew2 own i j A ρ = (A (wipeD ρ own)).bind fun ds => match ds with
  | [d] => if i < ρ.length then .ok (.nx ((ρ.set i (some (.lst []))).set j (some d))) else .bad
  | _ => .bad := rfl
@[simp] theorem r_sNew3 (own : List Nat) (i j k : Nat) (A : Sl → Rs (List D)) (ρ : Sl) : sNew3 own i j k A ρ = (A (wipeD ρ own)).bind fun ds => match ds with
  | [d, d'] => if i < ρ.length then .ok (.nx (((ρ.set i (some (.lst []))).set j (some d)).set k (some d'))) else .bad
  | _ => .bad := rfl
@[simp] theorem r_sApp (own : List Nat) (i : Nat) (A : Sl → Rs (List D)) (ρ : Sl) : sApp own i A ρ = match ρ[i]? with
  | some (some (.lst ds)) => (A (wipeD ρ own)).bind fun es => match es with
    | [d] => if ds.length < 1000000 then .ok (.nx (ρ.set i (some (.lst (ds ++ [d]))))) else .bad
    | _ => .bad
  | _ => .bad := rfl
@[simp] theorem r_sExt (own : List Nat) (i : Nat) (A : Sl → Rs (List D)) (ρ : Sl) : sExt own i A ρ = match ρ[i]? with
  | some (some (.lst ds)) => (A (wipeD ρ own)).bind fun es => match es with
    | [.lst d] => if ds.length + d.length ≤ 1000000 then .ok (.nx (ρ.set i (some (.lst (ds ++ d))))) else .bad
    | _ => .bad
  | _ => .bad := rfl
@[simp] theorem r_sRaise (c : Nat) (ρ : Sl) : sRaise c ρ = .ex c := rfl
@[simp] theorem r_dAddI (i j : Int) : dAdd (.int i) (.int j) = some (.int (i + j)) := rfl
@[simp] theorem r_dSubI (i j : Int) : dSub (.int i) (.int j) = some (.int (i - j)) := rfl
@[simp] theorem r_dLtI (i j : Int) : dLt (.int i) (.int j) = some (.bl (decide (i < j))) := rfl
@[simp] theorem r_dLeI (i j : Int) : dLe (.int i) (.int j) = some (.bl (decide (i ≤ j))) := rfl
@[simp] theorem r_dGtI (i j : Int) : dGt (.int i) (.int j) = some (.bl (decide (j < i))) := rfl
@[simp] theorem r_dGeI (i j : Int) : dGe (.int i) (.int j) = some (.bl (decide (j ≤ i))) := rfl
@[simp] theorem r_dNegI (i : Int) : dNeg (.int i) = some (.int (-i)) := rfl
@[simp] theorem r_dAddT (a b : List D) : dAdd (.tup a) (.tup b) = if a.length + b.length ≤ 1000000 then some (.tup (a ++ b)) else none := rfl
@[simp] theorem r_dAddL (a b : List D) : dAdd (.lst a) (.lst b) = if a.length + b.length ≤ 1000000 then some (.lst (a ++ b)) else none := rfl
@[simp] theorem r_dMulI (i j : Int) : dMul (.int i) (.int j) = if (-(2 ^ 64) < i ∧ i < 2 ^ 64) ∨ (-(2 ^ 64) < j ∧ j < 2 ^ 64) then some (.int (i * j)) else none := rfl
@[simp] theorem r_dDivI (i j : Int) : dDiv (.int i) (.int j) = if 0 < j ∧ j ≤ 10 ^ 30 then some (.int (i / j)) else none := rfl
@[simp] theorem r_dModI (i j : Int) : dMod (.int i) (.int j) = if 0 < j then some (.int (i % j)) else none := rfl
@[simp] theorem r_dPowI (i j : Int) : dPow (.int i) (.int j) = if 0 ≤ j ∧ j ≤ 1000 ∧ i.natAbs < 2 ^ 64 then some (.int (i ^ j.toNat)) else none := rfl
theorem beq_dec (i j : Int) : (i == j) = decide (i = j) := by
  by_cases h : i = j <;> simp [h]
@[simp] theorem r_dEqI (i j : Int) : dEq (.int i) (.int j) = some (.bl (decide (i = j))) := by
  simp [dEq, pl, eqD, beq_dec]
@[simp] theorem r_dNeI (i j : Int) : dNe (.int i) (.int j) = some (.bl (!decide (i = j))) := by
  simp [dNe, pl, eqD, beq_dec]
@[simp] theorem r_dIsNN (x : D) : dIsN x .non = some (.bl (isNonD x)) := by cases x <;> rfl
@[simp] theorem r_dNotNN (x : D) : dNotN x .non = some (.bl (!isNonD x)) := by cases x <;> rfl
@[simp] theorem r_dIsB (a b : Bool) : dIsN (.bl a) (.bl b) = some (.bl (decide (a = b))) := rfl
@[simp] theorem r_dNotB (a b : Bool) : dNotN (.bl a) (.bl b) = some (.bl (!decide (a = b))) := rfl
@[simp] theorem r_non1 : isNonD .non = true := rfl
@[simp] theorem r_non2 (i : Int) : isNonD (.int i) = false := rfl
@[simp] theorem r_non3 (i : Bool) : isNonD (.bl i) = false := rfl
@[simp] theorem r_non4 (i : List D) : isNonD (.lst i) = false := rfl
@[simp] theorem r_non5 (i : List D) : isNonD (.tup i) = false := rfl
@[simp] theorem r_non6 (i : Str) : isNonD (.str i) = false := rfl
@[simp] theorem r_dIxL (xs : List D) (i : Int) : dIx (.lst xs) (.int i) = atI xs i := rfl
@[simp] theorem r_dIxT (xs : List D) (i : Int) : dIx (.tup xs) (.int i) = atI xs i := rfl
@[simp] theorem r_dIxS (xs : List Int) (i : Int) : dIx (.scr xs) (.int i) = (atI xs i).map .int := rfl
@[simp] theorem r_dCutL (xs : List D) (lo hi : Option Int) : dCut lo hi (.lst xs) = some (.lst (cutD xs lo hi)) := rfl
@[simp] theorem r_dCutT (xs : List D) (lo hi : Option Int) : dCut lo hi (.tup xs) = some (.tup (cutD xs lo hi)) := rfl
@[simp] theorem r_lenL (xs : List D) : gLen [.lst xs] = some (.int xs.length) := rfl
@[simp] theorem r_lenT (xs : List D) : gLen [.tup xs] = some (.int xs.length) := rfl
@[simp] theorem r_lenS (xs : List Int) : gLen [.scr xs] = some (.int xs.length) := rfl
@[simp] theorem r_sum (xs : List D) : gSum [.lst xs] = (asInts xs).map fun ns => .int ns.sum := rfl
@[simp] theorem r_max (xs : List D) : gMax [.lst xs] = (asInts xs).bind fun ns => if ns = [] then none else some (.int (maxL ns)) := rfl
@[simp] theorem r_min (xs : List D) : gMin [.lst xs] = (asInts xs).bind fun ns => if ns = [] then none else some (.int (minL ns)) := rfl
@[simp] theorem r_max2 (i j : Int) : gMax [.int i, .int j] = some (.int (if j > i then j else i)) := rfl
@[simp] theorem r_min2 (i j : Int) : gMin [.int i, .int j] = some (.int (if j < i then j else i)) := rfl
theorem r_all (xs : List D) : gAll [.lst xs] = (asBls xs).map fun bs => .bl (bs.all _root_.id) := rfl
theorem r_any (xs : List D) : gAny [.lst xs] = (asBls xs).map fun bs => .bl (bs.any _root_.id) := rfl
@[simp] theorem r_tupL (xs : List D) : gTuple [.lst xs] = some (.tup xs) := rfl
@[simp] theorem r_tupT (xs : List D) : gTuple [.tup xs] = some (.tup xs) := rfl
@[simp] theorem r_lstL (xs : List D) : gList [.lst xs] = some (.lst xs) := rfl
@[simp] theorem r_lstT (xs : List D) : gList [.tup xs] = some (.lst xs) := rfl
@[simp] theorem r_dRg (i j : Int) : dRg (.int i) (.int j) = if -1000000 ≤ i ∧ i ≤ 1000000 ∧ -1000000 ≤ j ∧ j ≤ 1000000 then some (.lst ((rgI i j).map .int)) else none := rfl
@[simp] theorem r_dZipLL (xs ys : List D) : dZip (.lst xs) (.lst ys) = some (.lst (zipT xs ys)) := rfl
@[simp] theorem r_dZipTL (xs ys : List D) : dZip (.tup xs) (.lst ys) = some (.lst (zipT xs ys)) := rfl
@[simp] theorem r_dZipLT (xs ys : List D) : dZip (.lst xs) (.tup ys) = some (.lst (zipT xs ys)) := rfl
@[simp] theorem r_dZipTT (xs ys : List D) : dZip (.tup xs) (.tup ys) = some (.lst (zipT xs ys)) := rfl
end run
def fin : Out → Rs D
  | .nx _ => .ok .non
  | .rt d => .ok d
  | _ => .bad
@[simp] theorem fin_nx (ρ : Sl) : fin (.nx ρ) = .ok .non := rfl
@[simp] theorem fin_rt (d : D) : fin (.rt d) = .ok d := rfl
theorem runF_eq {np n : Nat} {S : Sl → Rs Out} {ds : List D} (h : ds.length = np) : runF np n S ds = (S (initD n ds)).bind fin := if_pos h
@[simp] theorem run1 (n : Nat) (S : Sl → Rs Out) (a : D) : runF 1 n S [a] = (S (initD n [a])).bind fin := rfl
@[simp] theorem run2 (n : Nat) (S : Sl → Rs Out) (a b : D) : runF 2 n S [a, b] = (S (initD n [a, b])).bind fin := rfl
@[simp] theorem run3 (n : Nat) (S : Sl → Rs Out) (a b c : D) : runF 3 n S [a, b, c] = (S (initD n [a, b, c])).bind fin := rfl
@[simp] theorem run4 (n : Nat) (S : Sl → Rs Out) (a b c d : D) : runF 4 n S [a, b, c, d] = (S (initD n [a, b, c, d])).bind fin := rfl
@[simp] theorem run5 (n : Nat) (S : Sl → Rs Out) (a b c d e : D) : runF 5 n S [a, b, c, d, e] = (S (initD n [a, b, c, d, e])).bind fin := rfl
theorem seq_nx {S U : Sl → Rs Out} {ρ ρ' : Sl} {r : Rs Out} (h : S ρ = .ok (.nx ρ')) (g : U ρ' = r) : seqS S U ρ = r := by
  simp [h, g]
theorem lc_mf {α : Type} {T : D → Option Asn} {C : Sl → Rs Bool} {E : Sl → Rs D} {ρ : Sl} (f g : α → D) (p : α → Bool) : ∀ (l : List α), (∀ a ∈ l, ∃ as, T (f a) = some as ∧ C (setD ρ as) = .ok (p a) ∧ (p a = true → E (setD ρ as) = .ok (g a))) → lcL T C E ρ (l.map f) = .ok ((l.filter p).map g)
  | [], _ => rfl
  | a :: l, h => by
    obtain ⟨as, h1, h2, h3⟩ := h a (by simp)
    have ih := lc_mf f g p l fun b hb => h b (by simp [hb])
    simp only [List.map_cons, lcL, h1, of_so, bd_ok, h2]
    by_cases e : p a = true
    · simp [e, h3 e, ih]
    · simp [e, ih]
theorem lc_map {α : Type} {T : D → Option Asn} {C : Sl → Rs Bool} {E : Sl → Rs D} {ρ : Sl} (f g : α → D) (l : List α) (h : ∀ a ∈ l, ∃ as, T (f a) = some as ∧ C (setD ρ as) = .ok true ∧ E (setD ρ as) = .ok (g a)) : lcL T C E ρ (l.map f) = .ok (l.map g) := by
  rw [lc_mf f g (fun _ => true) l fun a ha => by obtain ⟨as, h1, h2, h3⟩ := h a ha; exact ⟨as, h1, h2, fun _ => h3⟩]
  rw [List.filter_eq_self.2 (by simp)]
theorem asInts_mp {α : Type} (g : α → Int) : ∀ l : List α, asInts (l.map fun a => .int (g a)) = some (l.map g)
  | [] => rfl
  | a :: l => by simp [asInts, asInts_mp g l]
theorem asBls_mp {α : Type} (g : α → Bool) : ∀ l : List α, asBls (l.map fun a => .bl (g a)) = some (l.map g)
  | [] => rfl
  | a :: l => by simp [asBls, asBls_mp g l]
@[simp] theorem gAll_mp {α : Type} (f : α → Bool) (l : List α) : gAll [.lst (l.map fun a => .bl (f a))] = some (.bl (l.all f)) := by
  rw [r_all, asBls_mp]
  simp [List.all_map, Function.comp_def]
@[simp] theorem gAny_mp {α : Type} (f : α → Bool) (l : List α) : gAny [.lst (l.map fun a => .bl (f a))] = some (.bl (l.any f)) := by
  rw [r_any, asBls_mp]
  simp [List.any_map, Function.comp_def]
@[simp] theorem asInts_i (l : List Int) : asInts (l.map .int) = some l := asInts_map l
theorem at0 {α : Type} (x : α) (xs : List α) : atI (x :: xs) 0 = some x := by
  simp [atI, ixN]
theorem at1 {α : Type} (x y : α) (xs : List α) : atI (x :: y :: xs) 1 = some y := by
  have : (1:Int) < xs.length + 1 + 1 := by omega
  simp [atI, ixN, this]
theorem atN {α : Type} (xs : List α) (i : Int) (h0 : 0 ≤ i) (h1 : i < xs.length) : atI xs i = xs[i.toNat]? := by
  simp [atI, ixN, h0, h1]
theorem atLast {α : Type} (xs : List α) (h : xs ≠ []) : atI xs (-1) = xs.getLast? := by
  have : 0 < xs.length := List.length_pos_iff.2 h
  have e : (-1 + (xs.length : Int)).toNat = xs.length - 1 := by omega
  have e2 : 1 ≤ (xs.length : Int) := by omega
  simp [atI, ixN, List.getLast?_eq_getElem?, e, e2]
theorem cutTail {α : Type} (xs : List α) : cutD xs (some 1) none = xs.drop 1 := by
  unfold cutD
  cases xs with
  | nil => rfl
  | cons x xs =>
    have e : HT.sIx (x :: xs).length 0 (some 1) = 1 := by simp [HT.sIx]
    simp [e, HT.sIx]
theorem cutInit {α : Type} (xs : List α) : cutD xs none (some (-1)) = xs.dropLast := by
  unfold cutD
  have e : HT.sIx xs.length xs.length (some (-1)) = xs.length - 1 := by simp [HT.sIx]; omega
  rw [e, List.dropLast_eq_take]
  simp [HT.sIx]
theorem for_inv {T : D → Option Asn} {S : Sl → Rs Out} (I : Sl → Prop) : ∀ (ds : List D) (ρ : Sl), (∀ d ∈ ds, ∀ ρ, I ρ → ∃ as ρ', T d = some as ∧ S (setD ρ as) = .ok (.nx ρ') ∧ I ρ') → I ρ → ∃ ρ', forL T S ds ρ = .ok (.nx ρ') ∧ I ρ'
  | [], ρ, _, i => ⟨ρ, rfl, i⟩
  | d :: ds, ρ, h, i => by
    obtain ⟨as, ρ1, e1, e2, i1⟩ := h d (by simp) ρ i
    obtain ⟨ρ2, e3, i2⟩ := for_inv I ds ρ1 (fun d hd => h d (by simp [hd])) i1
    exact ⟨ρ2, by simp [forL, e1, e2, e3], i2⟩
/-- a for whose turns follow a list of invariants -/
theorem for_rel {α : Type} {T : D → Option Asn} {S : Sl → Rs Out} (f : α → D) (J : List α → Sl → Prop) : ∀ (l : List α) (ρ : Sl), (∀ a l ρ, J (a :: l) ρ → ∃ as ρ', T (f a) = some as ∧ S (setD ρ as) = .ok (.nx ρ') ∧ J l ρ') → J l ρ → ∃ ρ', forL T S (l.map f) ρ = .ok (.nx ρ') ∧ J [] ρ'
  | [], ρ, _, i => ⟨ρ, rfl, i⟩
  | a :: l, ρ, h, i => by
    obtain ⟨as, ρ1, e1, e2, i1⟩ := h a l ρ i
    obtain ⟨ρ2, e3, i2⟩ := for_rel f J l ρ1 h i1
    exact ⟨ρ2, by simp [forL, e1, e2, e3], i2⟩
/-- a while with a measure -/
theorem while_m {C : Sl → Rs Bool} {S : Sl → Rs Out} (I : Nat → Sl → Prop) (Z : Sl → Prop) (h : ∀ n ρ, I n ρ → (C ρ = .ok false ∧ Z ρ) ∨ ∃ ρ' m, C ρ = .ok true ∧ S ρ = .ok (.nx ρ') ∧ m < n ∧ I m ρ') : ∀ (N n : Nat) (ρ : Sl), n < N → I n ρ → ∃ ρ', whileN C S N ρ = .ok (.nx ρ') ∧ Z ρ'
  | 0, _, _, hn, _ => absurd hn (by omega)
  | N + 1, n, ρ, hn, i => by
    obtain ⟨hc, z⟩ | ⟨ρ1, m, hc, hs, hm, i1⟩ := h n ρ i
    · exact ⟨ρ, by simp [whileN, hc], z⟩
    · obtain ⟨ρ2, e, z⟩ := while_m I Z h N m ρ1 (by omega) i1
      exact ⟨ρ2, by simp [whileN, hc, hs, e], z⟩
theorem seq_for {α : Type} {own : List Nat} {I : Sl → Rs (List D)} {T : D → Option Asn} {S U : Sl → Rs Out} {ρ : Sl} {r : Rs Out} (f : α → D) (J : List α → Sl → Prop) (l : List α) (hi : I (wipeD ρ own) = .ok (l.map f)) (j : J l ρ)
    (h : ∀ a l ρ, J (a :: l) ρ → ∃ as ρ', T (f a) = some as ∧ S (setD ρ as) = .ok (.nx ρ') ∧ J l ρ') (k : ∀ ρ', J [] ρ' → U ρ' = r) : seqS (sFor own I T S) U ρ = r := by
  obtain ⟨ρ', e, j'⟩ := for_rel f J l ρ h j
  refine seq_nx ?_ (k ρ' j')
  rw [r_sFor, hi]
  exact e
theorem seq_while {n : Nat} {C : Sl → Rs Bool} {S U : Sl → Rs Out} {ρ : Sl} {r : Rs Out} (I : Nat → Sl → Prop) (Z : Sl → Prop) (m : Nat) (hm : m < n) (i : I m ρ) (h : ∀ n ρ, I n ρ → (C ρ = .ok false ∧ Z ρ) ∨ ∃ ρ' m, C ρ = .ok true ∧ S ρ = .ok (.nx ρ') ∧ m < n ∧ I m ρ') (k : ∀ ρ', Z ρ' → U ρ' = r) : seqS (sWhile n C S) U ρ = r := by
  obtain ⟨ρ', e, z⟩ := while_m I Z h n m ρ hm i
  exact seq_nx e (k ρ' z)
/-- a while that may leave by a return -/
theorem while_r {C : Sl → Rs Bool} {S : Sl → Rs Out} (I : Nat → Sl → Prop) (Z : Out → Prop) (h : ∀ n ρ, I n ρ → (C ρ = .ok false ∧ Z (.nx ρ)) ∨ (∃ v, C ρ = .ok true ∧ S ρ = .ok (.rt v) ∧ Z (.rt v)) ∨ ∃ ρ' m, C ρ = .ok true ∧ S ρ = .ok (.nx ρ') ∧ m < n ∧ I m ρ') : ∀ (N n : Nat) (ρ : Sl), n < N → I n ρ → ∃ o, whileN C S N ρ = .ok o ∧ Z o
  | 0, _, _, hn, _ => absurd hn (by omega)
  | N + 1, n, ρ, hn, i => by
    obtain ⟨hc, z⟩ | ⟨v, hc, hs, z⟩ | ⟨ρ1, m, hc, hs, hm, i1⟩ := h n ρ i
    · exact ⟨.nx ρ, by simp [whileN, hc], z⟩
    · exact ⟨.rt v, by simp [whileN, hc, hs], z⟩
    · obtain ⟨o, e, z⟩ := while_r I Z h N m ρ1 (by omega) i1
      exact ⟨o, by simp [whileN, hc, hs, e], z⟩
theorem seq_whileR {n : Nat} {C : Sl → Rs Bool} {S U : Sl → Rs Out} {ρ : Sl} {r : Rs Out} (I : Nat → Sl → Prop) (Z : Out → Prop) (m : Nat) (hm : m < n) (i : I m ρ) (h : ∀ n ρ, I n ρ → (C ρ = .ok false ∧ Z (.nx ρ)) ∨ (∃ v, C ρ = .ok true ∧ S ρ = .ok (.rt v) ∧ Z (.rt v)) ∨ ∃ ρ' m, C ρ = .ok true ∧ S ρ = .ok (.nx ρ') ∧ m < n ∧ I m ρ') (k : ∀ o, Z o → (match o with | .nx ρ' => U ρ' | o => .ok o) = r) : seqS (sWhile n C S) U ρ = r := by
  obtain ⟨o, e, z⟩ := while_r I Z h n m ρ hm i
  rw [r_seqS, r_sWhile, e]
  exact k o z
@[simp] theorem r_dMulL (a : List D) (k : Int) : dMul (.lst a) (.int k) = if 0 ≤ k ∧ k ≤ 1000 ∧ a.length ≤ 1000 then some (.lst (List.replicate k.toNat a).flatten) else none := rfl
@[simp] theorem r_dMulT (a : List D) (k : Int) : dMul (.tup a) (.int k) = if 2 ≤ k ∧ k ≤ 1000 ∧ a.length ≤ 1000 ∧ a ≠ [] then some (.tup (List.replicate k.toNat a).flatten) else none := rfl
theorem seq_forE {own : List Nat} {I : Sl → Rs (List D)} {T : D → Option Asn} {S U : Sl → Rs Out} {ρ ρ' : Sl} {r : Rs Out} {ds : List D} (hi : I (wipeD ρ own) = .ok ds) (h : forL T S ds ρ = .ok (.nx ρ')) (k : U ρ' = r) : seqS (sFor own I T S) U ρ = r := by
  refine seq_nx ?_ k
  rw [r_sFor, hi]
  exact h
end PB

namespace PB
open PySem L2
@[simp] theorem r_eFix (ms : List (List D → Rs D)) (G : Sl → Rs D) (A : Sl → Rs (List D)) (ρ : Sl) : eFix ms G A ρ = (G ρ).bind fun d => match d with
  | .int i => (match atI ms i with
    | some m => (A ρ).bind m
    | none => .bad)
  | _ => .bad := rfl
def caught (cl : List Nat) (r : Rs Out) : Rs Out := match r with
  | .ok o => .ok o
  | .ex c => (match cl.findIdx? (fun a => c == a) with
    | some j => .ok (.rt (.int (j : Nat)))
    | none => .bad)
  | .bad => .bad
@[simp] theorem r_sTryIx (S : Sl → Rs Out) (cl : List Nat) (ρ : Sl) : sTryIx S cl ρ = caught cl (S ρ) := rfl
@[simp] theorem r_caught_ok (cl : List Nat) (o : Out) : caught cl (.ok o) = .ok o := rfl
theorem r_caught_ex (cl : List Nat) (c : Nat) : caught cl (.ex c) = match cl.findIdx? (fun a => c == a) with
    | some j => .ok (.rt (.int (j : Nat)))
    | none => .bad := rfl
end PB

namespace PB
open PySem L2
@[simp] theorem r_sNewD0 (i : Nat) (ρ : Sl) : sNewD0 i ρ = if i < ρ.length then .ok (.nx (ρ.set i (some (.dct [])))) else .bad := rfl
@[simp] theorem r_sNewD1 (own : List Nat) (i : Nat) (G F : Sl → Rs D) (ρ : Sl) : sNewD1 own i G F ρ = (G (wipeD ρ own)).bind fun y => (F (wipeD ρ own)).bind fun d => (match y with
  | .int k => if i < ρ.length then .ok (.nx (ρ.set i (some (.dct [(k, d)])))) else .bad
  | _ => .bad) := rfl
@[simp] theorem r_sPutS (i : Nat) (G F : Sl → Rs D) (ρ : Sl) : sPutS i G F ρ = (F ρ).bind fun d => match scl d with
  | true => (G ρ).bind fun y => (match ρ[i]?, y with
    | some (some (.dct kds)), .int k => if kds.length < 1000000 then .ok (.nx (ρ.set i (some (.dct (putD kds k d))))) else .bad
    | _, _ => .bad)
  | false => .bad := rfl
@[simp] theorem r_sPutW (own : List Nat) (i : Nat) (G F : Sl → Rs D) (ρ : Sl) : sPutW own i G F ρ = (F (wipeD ρ own)).bind fun d => (G ρ).bind fun y => (match ρ[i]?, y with
    | some (some (.dct kds)), .int k => if kds.length < 1000000 then .ok (.nx (ρ.set i (some (.dct (putD kds k d))))) else .bad
    | _, _ => .bad) := rfl
@[simp] theorem r_dGet (kds : List (Int × D)) (k : Int) : dGet (.dct kds) (.int k) = valD kds k := rfl
@[simp] theorem r_eGet1 (F G : Sl → Rs D) (ρ : Sl) : eGet1 F G ρ = (F ρ).bind fun x => match x with
  | .dct kds => (G ρ).bind fun y => match y with
    | .int k => .ok ((valD kds k).getD .non)
    | _ => .bad
  | _ => .bad := rfl
@[simp] theorem r_eGet2 (F G J : Sl → Rs D) (ρ : Sl) : eGet2 F G J ρ = (F ρ).bind fun x => match x with
  | .dct kds => (G ρ).bind fun y => (J ρ).bind fun z => match y with
    | .int k => .ok ((valD kds k).getD z)
    | _ => .bad
  | _ => .bad := rfl
@[simp] theorem r_dRev (xs : List D) : dRev (.lst xs) = some (.lst xs.reverse) := rfl
theorem valD_cons (x : Int × D) (l : List (Int × D)) (k : Int) : valD (x :: l) k = if x.1 = k then some x.2 else valD l k := by
  by_cases c : x.1 = k <;> simp [valD, c]
theorem valD_app (l m : List (Int × D)) (k : Int) : valD (l ++ m) k = (valD l k).or (valD m k) := by
  induction l with
  | nil => simp [valD]
  | cons x l ih =>
    rw [List.cons_append, valD_cons, valD_cons, ih]
    split <;> simp
theorem valD_repl (k : Int) (d : D) (j : Int) : ∀ l : List (Int × D), valD (l.map fun kv => if kv.1 = k then (kv.1, d) else kv) j = if j = k then (valD l j).map (fun _ => d) else valD l j
  | [] => by simp [valD]
  | x :: l => by
    rw [List.map_cons, valD_cons, valD_cons, valD_repl k d j l]
    by_cases c : x.1 = k
    · by_cases cj : j = k
      · subst cj; simp [c]
      · have : ¬ k = j := fun e => cj e.symm
        simp [c, cj, this]
    · by_cases cx : x.1 = j
      · have : ¬ j = k := fun e => c (cx.trans e)
        simp [c, cx, this]
      · simp [c, cx]
theorem find_put {kds : List (Int × D)} {k : Int} {d : D} (j : Int) : valD (putD kds k d) j = if j = k then some d else valD kds j := by
  unfold putD
  by_cases a : (kds.any fun kv => decide (kv.1 = k)) = true
  · rw [if_pos a, valD_repl]
    by_cases cj : j = k
    · subst cj
      have : ∃ v, valD kds j = some v := by
        cases e : valD kds j with
        | some v => exact ⟨v, rfl⟩
        | none =>
          exfalso
          rw [valD, Option.map_eq_none_iff, List.find?_eq_none] at e
          rw [List.any_eq_true] at a
          obtain ⟨x, hx, q⟩ := a
          exact e x hx q
      obtain ⟨v, e⟩ := this
      simp [e]
    · simp [cj]
  · rw [if_neg a, valD_app]
    by_cases cj : j = k
    · subst cj
      have : valD kds j = none := by
        rw [valD, Option.map_eq_none_iff, List.find?_eq_none]
        intro x hx q
        apply a
        rw [List.any_eq_true]
        exact ⟨x, hx, q⟩
      rw [this]
      simp [valD]
    · have : ¬ k = j := fun e => cj e.symm
      rw [valD_cons]
      simp [cj, this, valD]
theorem put_len (kds : List (Int × D)) (k : Int) (d : D) : (putD kds k d).length ≤ kds.length + 1 := putD_len kds k d
end PB

namespace PB
open PySem L2
@[simp] theorem r_sumAL (xs : List D) : gSumA [.lst xs] = (asInts xs).map fun ns => .int ns.sum := rfl
@[simp] theorem r_sumAT (xs : List D) : gSumA [.tup xs] = (asInts xs).map fun ns => .int ns.sum := rfl
@[simp] theorem asInts_nil : asInts [] = some [] := rfl
@[simp] theorem asInts_cons (i : Int) (r : List D) : asInts (.int i :: r) = (asInts r).map (i :: ·) := rfl
end PB

namespace PB
open PySem L2
theorem r_sortI (ns : List Int) : gSorted [.lst (ns.map .int)] = some (.lst ((srtI ns).map .int)) := by
  simp only [gSorted, asInts_map]
theorem asTups_map : ∀ ts : List (List Int), (∀ t ∈ ts, t ≠ []) → asTups (ts.map encT) = some ts
  | [], _ => rfl
  | t :: ts, h => by
    have ih := asTups_map ts fun u hu => h u (by simp [hu])
    have ht := h t (by simp)
    simp [asTups, encT, asInts_map, ht]
    exact ih
theorem r_sortT (ts : List (List Int)) (h : ∀ t ∈ ts, t ≠ []) : gSorted [.lst (ts.map encT)] = some (.lst ((srtT ts).map encT)) := by
  cases ts with
  | nil => rfl
  | cons t ts =>
    have e : asInts ((t :: ts).map encT) = none := rfl
    have e2 := asTups_map (t :: ts) h
    simp only [gSorted, e, e2]
    rfl
theorem r_sortSet (ns : List Int) (h1 : ns.length ≤ 1000) (h2 : (ddp ns).length < 64) : dSortSet (.lst (ns.map .int)) = some (.lst ((srtI (ddp ns)).map .int)) := by
  simp [dSortSet, asInts_map, h1, h2]
end PB

namespace PB
open PySem L2
@[simp] theorem r_eDct0 (ρ : Sl) : eDct0 ρ = .ok (.dct []) := rfl
@[simp] theorem r_eDct1 (G F : Sl → Rs D) (ρ : Sl) : eDct1 G F ρ = (G ρ).bind fun y => (F ρ).bind fun d => match y with
  | .int k => .ok (.dct [(k, d)])
  | _ => .bad := rfl
@[simp] theorem r_sForK (i : Nat) (T : D → Option Asn) (S : Sl → Rs Out) (ρ : Sl) : sForK i T S ρ = match ρ[i]? with
  | some (some (.dct kds)) => noEx (forL T S (dkeys kds) ρ)
  | _ => .bad := rfl
@[simp] theorem r_noExb {α : Type} : noEx (.bad : Rs α) = .bad := rfl
@[simp] theorem r_scl_lst (x : List D) : scl (.lst x) = false := rfl
@[simp] theorem r_non_dct (x : List (Int × D)) : isNonD (.dct x) = false := rfl
end PB

namespace PB
open PySem L2
@[simp] theorem r_ltAI (i j : Int) : dLtA (.int i) (.int j) = some (.bl (decide (i < j))) := rfl
theorem r_ltAT (a b : List Int) : dLtA (.tup (a.map .int)) (.tup (b.map .int)) = some (.bl (HT.lexLt a b)) := by
  simp [dLtA, asInts_map]
@[simp] theorem r_shl (i j : Int) : dShl (.int i) (.int j) = if 0 ≤ j ∧ j ≤ 1000 ∧ i.natAbs < 2 ^ 64 then some (.int (i * 2 ^ j.toNat)) else none := rfl
@[simp] theorem r_minAI (ns : List Int) : gMinA [.lst (ns.map .int)] = if ns = [] then none else some (.int (minL ns)) := by
  simp [gMinA, asInts_map]
theorem r_minAT (t : List Int) (ts : List (List Int)) (h : ∀ u ∈ t :: ts, u ≠ []) : gMinA [.lst ((t :: ts).map encT)] = some (encT (minT t ts)) := by
  have e : asInts ((t :: ts).map encT) = none := rfl
  have e2 := asTups_map (t :: ts) h
  simp only [gMinA, e, e2]
@[simp] theorem r_eLm (g : List D → D → Option D) (F G : Sl → Rs D) (ρ : Sl) : eLm g F G ρ = (F ρ).bind fun x => match x with
  | .lst ds => (G ρ).bind fun y => Rs.of (g ds y)
  | _ => .bad := rfl
theorem r_index (ns : List Int) (k : Int) : dIndex (ns.map .int) (.int k) = (ns.findIdx? fun n => n == k).map fun j => .int (j : Nat) := by
  simp [dIndex, asInts_map]
theorem r_count (ns : List Int) (k : Int) : dCount (ns.map .int) (.int k) = some (.int (ns.count k : Nat)) := by
  simp [dCount, asInts_map]
theorem lexLt_le {a b : List Int} : HT.lexLt a b = true → HT.lexLt b a = false := lexLt_asym a b
theorem minT_le (t : List Int) (ts : List (List Int)) : ∀ u ∈ t :: ts, HT.lexLt u (minT t ts) = false := by
  unfold minT
  induction ts generalizing t with
  | nil =>
    intro u hu
    simp at hu
    subst hu
    exact (lexLt_swo _root_.id).refl u
  | cons x ts ih =>
    intro u hu
    rw [List.foldl_cons]
    have key : ∀ (y : List Int), HT.lexLt u y = false ∨ u ∈ ts → HT.lexLt u (ts.foldl (fun a y => if HT.lexLt y a = true then y else a) y) = false := by
      intro y hy
      rcases hy with hy | hy
      · exact lexLt_tr _ _ _ (ih y y (by simp)) hy
      · exact ih y u (by simp [hy])
    split
    · rename_i c
      refine key x ?_
      simp only [List.mem_cons] at hu
      rcases hu with rfl | rfl | hu
      · exact .inl (lexLt_asym _ _ c)
      · exact .inl ((lexLt_swo _root_.id).refl u)
      · exact .inr hu
    · rename_i c
      refine key t ?_
      simp only [List.mem_cons] at hu
      rcases hu with rfl | rfl | hu
      · exact .inl ((lexLt_swo _root_.id).refl u)
      · refine .inl ?_
        cases e : HT.lexLt u t with
        | true => exact absurd e c
        | false => rfl
      · exact .inr hu
end PB

namespace PB
open PySem L2
@[simp] theorem pur_non : pur .non = true := by simp [pur]
@[simp] theorem pur_bl (b : Bool) : pur (.bl b) = true := by simp [pur]
@[simp] theorem pur_int (b : Int) : pur (.int b) = true := by simp [pur]
@[simp] theorem pur_str (b : Str) : pur (.str b) = true := by simp [pur]
@[simp] theorem pur_tup (xs : List D) : pur (.tup xs) = purs xs := by simp [pur]
@[simp] theorem purs_nil : purs [] = true := by simp [purs]
@[simp] theorem purs_cons (x : D) (xs : List D) : purs (x :: xs) = (pur x && purs xs) := by simp [purs]
@[simp] theorem r_sAppP (i : Nat) (A : Sl → Rs (List D)) (ρ : Sl) : sAppP i A ρ = match ρ[i]? with
  | some (some (.lst ds)) => (A ρ).bind fun es => match es with
    | [d] => if pur d = true ∧ ds.length < 1000000 then .ok (.nx (ρ.set i (some (.lst (ds ++ [d]))))) else .bad
    | _ => .bad
  | _ => .bad := rfl
@[simp] theorem r_sPutP (i : Nat) (G F : Sl → Rs D) (ρ : Sl) : sPutP i G F ρ = (F ρ).bind fun d => match pur d with
  | true => (G ρ).bind fun y => (match ρ[i]?, y with
    | some (some (.dct kds)), .int k => if kds.length < 1000000 then .ok (.nx (ρ.set i (some (.dct (putD kds k d))))) else .bad
    | _, _ => .bad)
  | false => .bad := rfl
@[simp] theorem r_sAsgP (T : D → Option Asn) (F : Sl → Rs D) (ρ : Sl) : sAsgP T F ρ = (F ρ).bind fun d => match pur d with
  | true => (Rs.of (T d)).bind fun as => .ok (.nx (setD ρ as))
  | false => .bad := rfl
theorem rg2_of {A : Sl → Rs (List D)} {ρ : Sl} {i j : Int} (h : A ρ = .ok [.int i, .int j]) (c : -1000000 ≤ i ∧ i ≤ 1000000 ∧ -1000000 ≤ j ∧ j ≤ 1000000) : sRg2 A ρ = .ok ((rgI i j).map .int) := by
  rw [r_sRg2, h, bd_ok]
  exact if_pos c
theorem lc_of {I : Sl → Rs (List D)} {vs : List Nat} {T : D → Option Asn} {C : Sl → Rs Bool} {E : Sl → Rs D} {ρ : Sl} {ds es : List D} (h : I ρ = .ok ds) (c : ds.length ≤ 1000000) (k : lcL T C E (wipeD ρ vs) ds = .ok es) : eLc I vs T C E ρ = .ok (.lst es) := by
  rw [r_eLc, h, bd_ok, if_pos c, k, bd_ok, r_noEx]
end PB

namespace PB
open PySem L2
@[simp] theorem r_sNew2g (own : List Nat) (i j : Nat) (A : Sl → Rs (List D)) (ρ : Sl) : sNew2 own i j A ρ = (A (wipeD ρ own)).bind fun ds => match ds with
  | [d] => if i < ρ.length then .ok (.nx ((ρ.set i (some (.lst []))).set j (some d))) else .bad
  | _ => .bad := rfl
theorem r_sortSetAT {ts : List (List Int)} (h0 : ts ≠ []) (h1 : ts.length < 64) (h2 : ts.all okP = true) : dSortSetA (.lst (ts.map encT)) = some (.lst ((srtT (ddT ts)).map encT)) := by
  have e : asInts (ts.map encT) = none := by
    cases ts with
    | nil => exact absurd rfl h0
    | cons t ts => rfl
  have e2 := asTups_map ts (fun t ht => by
    have := (okP_ok (List.all_eq_true.1 h2 t ht)).1
    intro e; rw [e] at this; simp at this)
  simp only [dSortSetA, e, e2, Option.bind_some]
  rw [if_pos ⟨h1, h2⟩]
theorem r_sortSetA0 : dSortSetA (.lst []) = some (.lst []) := by
  simp [dSortSetA, asInts, ddp]
  rfl
theorem r_sortSetAI (ns : List Int) (h1 : ns.length ≤ 1000) (h2 : (ddp ns).length < 64) : dSortSetA (.lst (ns.map .int)) = some (.lst ((srtI (ddp ns)).map .int)) := by
  simp only [dSortSetA, asInts_map]
  rw [if_pos ⟨h1, h2⟩]
end PB

namespace PB
open PySem L2
@[simp] theorem r_sZipM (A : Sl → Rs (List D)) (ρ : Sl) : sZipM A ρ = (A ρ).bind fun ds => match ds with
  | [.tup xs, .lst ys] => .ok (zipT xs ys)
  | _ => .bad := rfl
end PB

namespace PB
open PySem L2
@[simp] theorem r_dNeD (kds : List (Int × D)) : dNeD (.dct kds) (.dct []) = some (.bl (!kds.isEmpty)) := rfl
@[simp] theorem r_dInK (k : Int) (kds : List (Int × D)) : dInK (.int k) (.dct kds) = some (.bl (valD kds k).isSome) := rfl
@[simp] theorem r_gMinK (kds : List (Int × D)) : gMinK [.dct kds] = if kds = [] then none else some (.int (minL (kds.map Prod.fst))) := rfl
@[simp] theorem r_dSumV (kds : List (Int × D)) : dSumV (.dct kds) = (asInts (kds.map Prod.snd)).map fun ns => .int ns.sum := rfl
@[simp] theorem r_dStep (m : Nat) (xs : List D) : dStep m (.lst xs) = some (.lst (ev2 (xs.drop m))) := rfl
@[simp] theorem r_sRg3 (A : Sl → Rs (List D)) (ρ : Sl) : sRg3 A ρ = (A ρ).bind fun ds => match ds with
  | [.int i, .int j, .int 2] => if -1000000 ≤ i ∧ i ≤ 1000000 ∧ -1000000 ≤ j ∧ j ≤ 1000000 then .ok ((rgT i j).map .int) else .bad
  | _ => .bad := rfl
theorem r_minQ (t : PQ) (ts : List PQ) : gMinQ [.lst ((t :: ts).map encQ)] = some (encQ (minQ t ts)) := by
  simp only [gMinQ, asQs_map]
end PB

namespace PB
open PySem L2
theorem r_sortQ (qs : List PQ) : gSortQ [.lst (qs.map encQ)] = some (.lst ((srtQ qs).map encQ)) := by
  simp only [gSortQ, asQs_map]
end PB

namespace PB
open PySem L2
@[simp] theorem r_eM1 (g : D → D → Option D) (F G : Sl → Rs D) (ρ : Sl) : eM1 g F G ρ = (F ρ).bind fun x => match x with
  | .str a => (G ρ).bind fun y => Rs.of (g (.str a) y)
  | _ => .bad := rfl
@[simp] theorem r_eCutS (F : Sl → Rs D) (P P' : Sl → Rs (Option Int)) (ρ : Sl) : eCutS F P P' ρ = (F ρ).bind fun x => (P ρ).bind fun l => (P' ρ).bind fun h => Rs.of (dCutS l h x) := rfl
@[simp] theorem r_sSigns (F : Sl → Rs D) (ρ : Sl) : sSigns F ρ = (F ρ).bind fun d => Rs.of (dSigns d) := rfl
theorem join_nil (y : Str) : Txt.join y [] = ⟨#[]⟩ := rfl
theorem tl_len (x : Str) : x.length = (TL.tl x).length := by
  show x.cps.size = x.cps.toList.length
  simp
theorem strOk_tl (x : Str) : PyData.strOk x = (TL.tl x).all fun c => decide (c < 0x110000) := by
  unfold PyData.strOk
  show _ = x.cps.toList.all _
  rw [Array.all_toList]
theorem joinL_mem {y : List Nat} {c : Nat} : ∀ {ps : List (List Nat)}, c ∈ TL.joinL y ps → c ∈ y ∨ ∃ p ∈ ps, c ∈ p
  | [], h => by simp [TL.joinL] at h
  | [p], h => .inr ⟨p, by simp, h⟩
  | p :: q :: r, h => by
    have h : c ∈ p ++ (y ++ TL.joinL y (q :: r)) := h
    rw [List.mem_append, List.mem_append] at h
    rcases h with h | h | h
    · exact .inr ⟨p, by simp, h⟩
    · exact .inl h
    · rcases joinL_mem h with h | ⟨z, hz, h⟩
      · exact .inl h
      · exact .inr ⟨z, by simp at hz ⊢; exact .inr hz, h⟩
theorem joinL_len {y : List Nat} {n : Nat} : ∀ {ps : List (List Nat)}, (∀ p ∈ ps, p.length ≤ n) → (TL.joinL y ps).length ≤ ps.length * (n + y.length)
  | [], _ => by simp [TL.joinL]
  | [p], h => by
    have := h p (by simp)
    show p.length ≤ _
    simp
    omega
  | p :: q :: r, h => by
    have h1 := h p (by simp)
    have ih := joinL_len (y := y) (n := n) (ps := q :: r) fun z hz => h z (by simp at hz ⊢; exact .inr hz)
    have e : TL.joinL y (p :: q :: r) = p ++ (y ++ TL.joinL y (q :: r)) := rfl
    rw [e, List.length_append, List.length_append]
    have : (p :: q :: r).length * (n + y.length) = (n + y.length) + (q :: r).length * (n + y.length) := by
      rw [List.length_cons (a := p), Nat.add_mul]
      omega
    omega
/-- a joined text of short words -/
theorem join_ok {y : Str} {ws : List Str} (hy : PyData.strOk y = true) (hw : ∀ w ∈ ws, PyData.strOk w = true) : PyData.strOk (Txt.join y ws) = true := by
  rw [strOk_tl, TL.join_eq, TL.tl_join, List.all_eq_true]
  intro c hc
  rcases joinL_mem hc with h | ⟨p, hp, h⟩
  · rw [strOk_tl, List.all_eq_true] at hy
    exact hy c h
  · obtain ⟨w, hw1, rfl⟩ := List.mem_map.1 hp
    have := hw w hw1
    rw [strOk_tl, List.all_eq_true] at this
    exact this c h
theorem join_le {y : Str} {ws : List Str} {n : Nat} (hw : ∀ w ∈ ws, w.length ≤ n) : (Txt.join y ws).length ≤ ws.length * (n + y.length) := by
  rw [tl_len, TL.join_eq, TL.tl_join, tl_len y]
  have := joinL_len (y := TL.tl y) (n := n) (ps := ws.map TL.tl) fun p hp => by
    obtain ⟨w, hw1, rfl⟩ := List.mem_map.1 hp
    rw [← tl_len]; exact hw w hw1
  rw [List.length_map] at this
  exact this
theorem sum_le {ws : List Str} {n : Nat} (hw : ∀ w ∈ ws, w.length ≤ n) : (ws.map (·.length)).sum ≤ ws.length * n := by
  induction ws with
  | nil => simp
  | cons w ws ih =>
    have h1 := hw w (by simp)
    have h2 := ih fun z hz => hw z (by simp [hz])
    rw [List.map_cons, List.sum_cons, List.length_cons, Nat.add_mul]
    omega
/-- sep.join of a list of texts -/
theorem dJoin_map {α : Type} {y : Str} {ws : List α} {f : α → Str} {n : Nat} (hw : ∀ w ∈ ws, (f w).length ≤ n) (hl : ws.length * (n + y.length) ≤ 1000000) : dJoin (.str y) (.lst (ws.map fun w => .str (f w))) = some (.str (Txt.join y (ws.map f))) := by
  have e : ws.map (fun w => D.str (f w)) = (ws.map f).map .str := by rw [List.map_map]; rfl
  have hs := sum_le (ws := ws.map f) (n := n) fun z hz => by
    obtain ⟨w, h1, rfl⟩ := List.mem_map.1 hz
    exact hw w h1
  rw [List.length_map] at hs
  rw [Nat.mul_add] at hl
  simp only [dJoin]
  rw [e, asStrs_map]
  simp only [List.length_map]
  rw [if_pos (by omega)]
theorem dSplit_join {y : Str} {c : Nat} {ws : List Str} {n : Nat} (ey : TL.tl y = [c]) (hk : y.cps.all (· < 256) = true) (hne : ws ≠ []) (hp : ∀ p ∈ ws, c ∉ TL.tl p) (hw : ∀ w ∈ ws, w.length ≤ n) (hl : ws.length * (n + y.length) + 2 ≤ 1000000) : dSplit (.str (Txt.join y ws)) (.str y) = some (.lst (ws.map .str)) := by
  have h1 := join_le (y := y) hw
  have h2 : (y.length == 0) = false := by rw [tl_len, ey]; rfl
  simp only [dSplit]
  rw [if_pos ⟨h2, by omega⟩, TL.split_join ey hk hne hp]
theorem app_assoc (a b c : Str) : a ++ b ++ c = a ++ (b ++ c) := TL.ext_tl (by rw [TL.tl_append, TL.tl_append, TL.tl_append, TL.tl_append, List.append_assoc])
theorem join_cons {y w : Str} {ws : List Str} (h : ws ≠ []) : Txt.join y (w :: ws) = w ++ y ++ Txt.join y ws := by
  rw [TL.join_eq, TL.join_eq]
  cases ws with
  | nil => exact absurd rfl h
  | cons a ws => rfl
theorem join_one (y w : Str) : Txt.join y [w] = w := by rw [TL.join_eq]; rfl
theorem join_snoc {y w : Str} : ∀ {ws : List Str}, ws ≠ [] → Txt.join y (ws ++ [w]) = Txt.join y ws ++ y ++ w
  | [], h => absurd rfl h
  | [a], _ => by
    show Txt.join y (a :: [w]) = _
    rw [join_cons (by simp), join_one, join_one]
  | a :: b :: ws, _ => by
    show Txt.join y (a :: ((b :: ws) ++ [w])) = _
    rw [join_cons (ws := (b :: ws) ++ [w]) (by simp), join_snoc (ws := b :: ws) (by simp), join_cons (w := a) (ws := b :: ws) (by simp)]
    simp only [app_assoc]
/-! ### lambdas -/
theorem fx_one {N : List Str} {sc : Scope} {g : List (Str × Addr)} {m : List D → Rs D} {L : LamD} {is : List Nat} {w : D} {ρ : Sl} {ds : List D} {b : Bool} (hs : statB N sc L is = true) (hc : captD ρ is = some ds) (hw : resv N sc g ρ w = some w) (hm : m [.lst [.clo L ds], w] = .ok (.bl b)) :
    eFX N sc g m (aCons (eLst (aCons (eC (.lam L is g)) aNil)) (aCons (eC w) aNil)) ρ = .ok (.bl b) := by
  have e1 : res1 N sc g ρ (.lam L is g) = some (.clo L ds) := by
    show (if g = g ∧ statB N sc L is = true then (captD ρ is).map (fun z => D.clo L z) else none) = _
    rw [if_pos ⟨rfl, hs⟩, hc]
    rfl
  have e2 : resA N sc g ρ [.lst [.lam L is g], w] = some [.lst [.clo L ds], w] := by
    have e3 : resv N sc g ρ (.lst [.lam L is g]) = some (.lst [.clo L ds]) := by simp [resv, resL, e1]
    simp only [resA, e3, hw]
    rfl
  unfold eFX
  simp [e2, hm]
theorem try_ex {S : Sl → Rs Out} {cl : List Nat} {ws : List Str} {er w : Str} {ρ : Sl} {c : Nat} (h : S ρ = .ex c) (hw : lcW cl ws c = some w) : sTryC S cl ws er ρ = .ok (.rt (.tup [.str er, .str w])) := by
  unfold sTryC
  rw [h]
  simp only [hw]
theorem call_ex {β : LamD → List D → Rs D} {L : LamD} {ds : List D} {r : Rs D} {x : List (Option D)} (hn : ndcs ds = true) (hb : β L ds = r) : eCallC β 0 (some (.clo L ds) :: x) = r := by
  unfold eCallC
  simp only [List.getElem?_cons_zero]
  rw [if_pos hn, hb]
end PB

namespace LW
open PySem PB L2
inductive Mk where
  | pl | so | he
  deriving DecidableEq
def Mk.s : Mk → Str
  | .pl => "" | .so => "solid" | .he => "head"
abbrev Doc := List (Int × Mk)
abbrev Rul := Int × Int
def encB (b : Int × Mk) : D := .tup [.int b.1, .str b.2.s]
def encDoc (d : Doc) : D := .tup (d.map encB)
def encR (r : Rul) : D := .tup [.int r.1, .int r.2]
def intD (l : List Int) : D := .lst (l.map .int)
def siz (d : Doc) : Int := (d.map Prod.fst).sum
structure VD (d : Doc) : Prop where
  ne : d ≠ []
  ln : d.length ≤ 8
  li : ∀ b ∈ d, 1 ≤ b.1 ∧ b.1 ≤ 12
  sz : siz d ≤ 40
structure VR (r : Rul) : Prop where
  a : 1 ≤ r.1 ∧ r.1 ≤ 4
  b : 1 ≤ r.2 ∧ r.2 ≤ 4
@[simp] theorem ev_is_int (v a b : Int) : m_is_int [.int v, .int a, .int b] = .ok (.bl (decide (a ≤ v ∧ v ≤ b))) := by
  rw [m_is_int, S_is_int]
  by_cases h : a ≤ v <;> simp [initD, dIsi, h]
theorem ok_pl : PyData.strOk ("" : Str) = true := by decide +kernel
theorem ok_so : PyData.strOk ("solid" : Str) = true := by decide +kernel
theorem ok_he : PyData.strOk ("head" : Str) = true := by decide +kernel
theorem ok_mk (m : Mk) : PyData.strOk m.s = true := by cases m <;> first | exact ok_pl | exact ok_so | exact ok_he
theorem dEq_s {a b : Str} (ha : PyData.strOk a = true) (hb : PyData.strOk b = true) : dEq (.str a) (.str b) = some (.bl (a == b)) := by
  simp [dEq, pl, eqD, ha, hb]
theorem dNe_s {a b : Str} (ha : PyData.strOk a = true) (hb : PyData.strOk b = true) : dNe (.str a) (.str b) = some (.bl (!(a == b))) := by
  simp [dNe, pl, eqD, ha, hb]
theorem mk_pl (m : Mk) : dEq (.str m.s) (.str "") = some (.bl (decide (m = .pl))) := by
  rw [dEq_s (ok_mk m) ok_pl]; cases m <;> rfl
theorem mk_ne_pl (m : Mk) : dNe (.str m.s) (.str "") = some (.bl (!decide (m = .pl))) := by
  rw [dNe_s (ok_mk m) ok_pl]; cases m <;> rfl
theorem mk_ne_he (m : Mk) : dNe (.str m.s) (.str "head") = some (.bl (!decide (m = .he))) := by
  rw [dNe_s (ok_mk m) ok_he]; cases m <;> rfl
theorem mk_in (m : Mk) : dIn (.str m.s) (.tup [.str "", .str "solid", .str "head"]) = some (.bl true) := by cases m <;> rfl
@[simp] theorem ev_is_block (b : Int × Mk) : m_is_block [encB b] = .ok (.bl (decide (1 ≤ b.1 ∧ b.1 ≤ 12))) := by
  rw [m_is_block, S_is_block]
  by_cases h : 1 ≤ b.1 ∧ b.1 ≤ 12
  · simp [initD, dIsi, encB, at0, at1, mk_in, h]
  · simp [initD, dIsi, encB, at0, at1, mk_in, h]
theorem sizL (d : Doc) (C : Nat) : siz d = (d.map Prod.fst).sum := rfl
@[simp] theorem ev_size_of (d : Doc) (h : d.length ≤ 1000000) : m_size_of [encDoc d] = .ok (.int (siz d)) := by
  have e := lc_map (T := tgTup (tgCons (tgName 1) (tgCons (tgName 2) tgNil))) (C := cYes) (E := eVar 1) (ρ := [some (encDoc d), none, none]) encB (fun b => .int b.1) d fun b _ => by
    simp [encB]
  rw [m_size_of, S_size_of]
  simp [initD, encDoc, h] at e ⊢
  simp [e, asInts_mp, siz]
theorem ev_is_document {d : Doc} (h : VD d) : m_is_document [encDoc d] = .ok (.bl true) := by
  have h8 := h.ln
  have h0 : 1 ≤ (d.length : Int) := by have := List.length_pos_iff.2 h.ne; omega
  have h1 : (d.length : Int) ≤ 8 := by omega
  have e := lc_map (T := tgName 1) (C := cYes) (E := (eF m_is_block (aCons (eVar 1) aNil))) (ρ := [some (encDoc d), none]) encB (fun b => .bl true) d fun b hb => by
    have := h.li b hb
    simp [this]
  have es := ev_size_of d (by omega)
  have hs := h.sz
  rw [m_is_document, S_is_document]
  have hl : d.length ≤ 1000000 := by omega
  simp [initD, encDoc, dIsi, h0, h1, hl] at e es ⊢
  have ht : (d.all fun _ => true) = true := by simp [List.all_eq_true]
  simp [e, es, gAll_mp (fun _ : Int × Mk => true), hs, ht]
theorem ev_is_rule {r : Rul} (h : VR r) : m_is_rule [encR r] = .ok (.bl true) := by
  have ha := h.a
  have hb := h.b
  rw [m_is_rule, S_is_rule]
  simp [initD, encR, dIsi, lcL, ha, hb, r_all, asBls]
theorem ev_check_document {d : Doc} (h : VD d) : m_check_document [encDoc d] = .ok .non := by
  rw [m_check_document, S_check_document]
  simp [initD, ev_is_document h]
theorem ev_check_both {d : Doc} {r : Rul} (h : VD d) (g : VR r) : m_check_both [encDoc d, encR r] = .ok .non := by
  rw [m_check_both, S_check_both]
  simp [initD, ev_check_document h, ev_is_rule g]
theorem ev_check_three {d : Doc} {r : Rul} {k : Int} (h : VD d) (g : VR r) (hk : 1 ≤ k ∧ k ≤ 40) : m_check_three [encDoc d, encR r, .int k] = .ok .non := by
  rw [m_check_three, S_check_three]
  simp [initD, ev_check_both h g, hk]
end LW

namespace LW
open PySem PB L2
/-! ### the ends -/
def endsF (r : Rul) : Int → Doc → List Int
  | _, [] => []
  | s, b :: t => (if b.2 = .pl then rgI (s + r.1) (s + b.1 - r.2 + 1) else []) ++ ((if b.2 ≠ .he ∨ t = [] then [s + b.1] else []) ++ endsF r (s + b.1) t)
def ends (r : Rul) (d : Doc) : List Int := endsF r 0 d
theorem rgI_len (a b : Int) : (rgI a b).length = (b - a).toNat := by simp [rgI]
theorem mem_rgI {a b x : Int} : x ∈ rgI a b ↔ a ≤ x ∧ x < b := by
  simp only [rgI, List.mem_map, List.mem_range]
  constructor
  · rintro ⟨i, hi, rfl⟩; omega
  · rintro ⟨h1, h2⟩; exact ⟨(x - a).toNat, by omega, by omega⟩
theorem ev_ends_loop (d0 : Doc) (r : Rul) (hr : VR r) : ∀ (d : Doc) (k : Nat) (acc : List Int) (s : Int) (x y z : Option D), (∀ b ∈ d, 1 ≤ b.1 ∧ b.1 ≤ 12) → k + d.length = d0.length → d0.length ≤ 8 → acc.length ≤ 13 * k → 0 ≤ s → s ≤ 12 * k →
    ∃ x' y' z', forL (tgTup (tgCons (tgName 6) (tgCons (tgTup (tgCons (tgName 7) (tgCons (tgName 8) tgNil))) tgNil))) (seqS (sIf (cE (eBin dEq (eVar 8) (eC (.str "")))) (sExt [4] 4 (aCons (eBin dRg (eBin dAdd (eVar 5) (eVar 2)) (eBin dAdd (eBin dSub (eBin dAdd (eVar 5) (eVar 7)) (eVar 3)) (eC (.int 1)))) aNil)) sNil)
    (seqS (sAsg [4] (tgName 5) (eBin dAdd (eVar 5) (eVar 7)))
    (sIf (cOr (cE (eBin dNe (eVar 8) (eC (.str "head")))) (cE (eBin dEq (eVar 6) (eBin dSub (eCall gLen (aCons (eVar 0) aNil)) (eC (.int 1)))))) (sApp [4] 4 (aCons (eVar 5) aNil)) sNil))) (enumT k (d.map encB))
      [some (encDoc d0), some (encR r), some (.int r.1), some (.int r.2), some (intD acc), some (.int s), x, y, z] =
    .ok (.nx [some (encDoc d0), some (encR r), some (.int r.1), some (.int r.2), some (intD (acc ++ endsF r s d)), some (.int (s + siz d)), x', y', z'])
  | [], k, acc, s, x, y, z, _, _, _, _, _, _ => ⟨x, y, z, by simp [enumT, forL, endsF, siz]⟩
  | b :: d, k, acc, s, x, y, z, hb, hk, h8, ha, h0, hs => by
    have hb1 := hb b (by simp)
    have hra := hr.a
    have hrb := hr.b
    have hk2 : k + d.length + 1 = d0.length := by simpa [Nat.add_assoc] using hk
    have hq : rgI (s + r.1) (s + b.1 - r.2 + 1) = rgI (s + r.1) (s + b.1 - r.2 + 1) := rfl
    have hl : (rgI (s + r.1) (s + b.1 - r.2 + 1)).length ≤ 12 := by rw [rgI_len]; omega
    have hlast : ((k : Int) = (d0.length : Int) - 1) ↔ d = [] := by
      rw [← List.length_eq_zero_iff]; omega
    generalize hg : (if b.2 = .pl then rgI (s + r.1) (s + b.1 - r.2 + 1) else []) = g1
    generalize hg2 : (if b.2 ≠ .he ∨ d = [] then [s + b.1] else []) = g2
    have l1 : g1.length ≤ 12 := by rw [← hg]; split <;> simp [hl]
    have l2 : g2.length ≤ 1 := by rw [← hg2]; split <;> simp
    obtain ⟨x', y', z', ih⟩ := ev_ends_loop d0 r hr d (k + 1) (acc ++ (g1 ++ g2)) (s + b.1) (some (.int k)) (some (.int b.1)) (some (.str b.2.s)) (fun c hc => hb c (by simp [hc])) (by omega) h8 (by simp; omega) (by omega) (by omega)
    refine ⟨x', y', z', ?_⟩
    have ee : endsF r s (b :: d) = g1 ++ (g2 ++ endsF r (s + b.1) d) := by rw [endsF, hg, hg2]
    have es : siz (b :: d) = b.1 + siz d := by simp [siz]
    rw [ee, es]
    rw [show s + (b.1 + siz d) = s + b.1 + siz d by omega, show acc ++ (g1 ++ (g2 ++ endsF r (s + b.1) d)) = acc ++ (g1 ++ g2) ++ endsF r (s + b.1) d by simp]
    rw [← ih]
    have b1 : -1000000 ≤ s + r.1 := by omega
    have b2 : s + r.1 ≤ 1000000 := by omega
    have b3 : -1000000 ≤ s + b.1 - r.2 + 1 := by omega
    have b4 : s + b.1 - r.2 + 1 ≤ 1000000 := by omega
    have b5 : acc.length + (rgI (s + r.1) (s + b.1 - r.2 + 1)).length ≤ 1000000 := by omega
    have b6 : acc.length < 1000000 := by omega
    have b7 : acc.length + (rgI (s + r.1) (s + b.1 - r.2 + 1)).length < 1000000 := by omega
    subst hg hg2
    by_cases c1 : b.2 = .pl
    · simp [enumT, forL, encB, encDoc, intD, mk_pl, mk_ne_he, c1, b1, b2, b3, b4, b5, b6, b7]
    · by_cases c2 : b.2 = .he
      · by_cases c3 : d = []
        · simp [enumT, forL, encB, encDoc, intD, mk_pl, mk_ne_he, c1, c2, c3, hlast, b6]
        · simp [enumT, forL, encB, encDoc, intD, mk_pl, mk_ne_he, c1, c2, c3, hlast, b6]
      · simp [enumT, forL, encB, encDoc, intD, mk_pl, mk_ne_he, c1, c2, b6]
theorem ev_find_ends {d : Doc} {r : Rul} (h : VD d) (g : VR r) : m_find_ends [encDoc d, encR r] = .ok (intD (ends r d)) := by
  obtain ⟨x, y, z, e⟩ := ev_ends_loop d r g d 0 [] 0 none none none h.li (by simp) h.ln (by simp) (by omega) (by omega)
  rw [m_find_ends, S_find_ends]
  simp [initD, encR, encDoc, intD] at e ⊢
  simp [e, ends]
end LW

namespace LW
open PySem PB L2
/-! ### the ends as a list -/
theorem rgI_nil {a b : Int} (h : b ≤ a) : rgI a b = [] := by
  have : (b - a).toNat = 0 := by omega
  simp [rgI, this]
theorem rgI_cons {a b : Int} (h : a < b) : rgI a b = a :: rgI (a + 1) b := by
  have : (b - a).toNat = (b - (a + 1)).toNat + 1 := by omega
  rw [rgI, this, List.range_succ_eq_map]
  simp [rgI]
  omega
theorem rgI_sorted (b : Int) : ∀ (n : Nat) (a : Int), (b - a).toNat = n → (rgI a b).Pairwise (· < ·)
  | 0, a, h => by rw [rgI_nil (by omega)]; exact .nil
  | n + 1, a, h => by
    rw [rgI_cons (by omega), List.pairwise_cons]
    exact ⟨fun x hx => by rw [mem_rgI] at hx; omega, rgI_sorted b n (a + 1) (by omega)⟩
theorem siz_cons (b : Int × Mk) (d : Doc) : siz (b :: d) = b.1 + siz d := by simp [siz]
theorem siz_app (d e : Doc) : siz (d ++ e) = siz d + siz e := by simp [siz]
def LD (d : Doc) : Prop := ∀ b ∈ d, 1 ≤ b.1
theorem siz_nn : ∀ {d : Doc}, LD d → 0 ≤ siz d
  | [], _ => by simp [siz]
  | b :: d, h => by
    have := h b (by simp)
    have := siz_nn (d := d) fun c hc => h c (by simp [hc])
    rw [siz_cons]; omega
theorem ends_mem (r : Rul) (hr : VR r) : ∀ (d : Doc) (s x : Int), LD d → x ∈ endsF r s d → s < x ∧ x ≤ s + siz d
  | [], _, _, _, h => by simp [endsF] at h
  | b :: d, s, x, hd, h => by
    have hb := hd b (by simp)
    have hd2 : LD d := fun c hc => hd c (by simp [hc])
    have hn := siz_nn hd2
    have ha := hr.a
    have hc := hr.b
    rw [siz_cons]
    rw [endsF, List.mem_append, List.mem_append] at h
    obtain h | h | h := h
    · split at h
      · rw [mem_rgI] at h; omega
      · simp at h
    · split at h
      · simp at h; omega
      · simp at h
    · have := ends_mem r hr d (s + b.1) x hd2 h
      omega
theorem ends_sorted (r : Rul) (hr : VR r) : ∀ (d : Doc) (s : Int), LD d → (endsF r s d).Pairwise (· < ·)
  | [], _, _ => .nil
  | b :: d, s, hd => by
    have hb := hd b (by simp)
    have hd2 : LD d := fun c hc => hd c (by simp [hc])
    have ha := hr.a
    have hc := hr.b
    rw [endsF, List.pairwise_append, List.pairwise_append]
    refine ⟨?_, ⟨?_, ends_sorted r hr d (s + b.1) hd2, ?_⟩, ?_⟩
    · split
      · exact rgI_sorted _ _ _ rfl
      · exact .nil
    · split <;> simp
    · intro x hx y hy
      have := ends_mem r hr d _ _ hd2 hy
      split at hx
      · simp at hx; omega
      · simp at hx
    · intro x hx y hy
      have hx2 : x < s + b.1 := by
        split at hx
        · rw [mem_rgI] at hx; omega
        · simp at hx
      rw [List.mem_append] at hy
      obtain hy | hy := hy
      · split at hy
        · simp at hy; omega
        · simp at hy
      · have := ends_mem r hr d _ _ hd2 hy
        omega
theorem ends_last (r : Rul) : ∀ (d : Doc) (s : Int), d ≠ [] → (endsF r s d).getLast? = some (s + siz d)
  | [], _, h => absurd rfl h
  | [b], s, _ => by simp [endsF, siz]
  | b :: c :: d, s, _ => by
    have ih := ends_last r (c :: d) (s + b.1) (by simp)
    rw [endsF, List.getLast?_append, List.getLast?_append, ih, siz_cons b]
    simp [Int.add_assoc]
theorem ends_shift (r : Rul) (t : Int) : ∀ (d : Doc) (s : Int), endsF r (s + t) d = (endsF r s d).map (· + t)
  | [], _ => rfl
  | b :: d, s => by
    have e : rgI (s + t + r.1) (s + t + b.1 - r.2 + 1) = (rgI (s + r.1) (s + b.1 - r.2 + 1)).map (· + t) := by
      have : (s + t + b.1 - r.2 + 1 - (s + t + r.1)).toNat = (s + b.1 - r.2 + 1 - (s + r.1)).toNat := by omega
      rw [rgI, rgI, this, List.map_map]
      refine List.map_congr_left fun i _ => ?_
      simp; omega
    have ih := ends_shift r t d (s + b.1)
    rw [endsF, endsF, show s + t + b.1 = s + b.1 + t by omega, ih, List.map_append, List.map_append]
    rw [show s + b.1 + t = s + t + b.1 by omega] at *
    rw [e]
    congr 1
    · split <;> simp
    · congr 1
      split
      · simp; omega
      · simp
theorem ends_app (r : Rul) : ∀ (d : Doc) (e : Doc) (s : Int), (∀ b, d.getLast? = some b → b.2 ≠ .he) → endsF r s (d ++ e) = endsF r s d ++ endsF r (s + siz d) e
  | [], e, s, _ => by simp [endsF, siz]
  | [b], e, s, h => by
    have hb := h b rfl
    simp [endsF, siz, hb]
  | b :: c :: d, e, s, h => by
    have ih := ends_app r (c :: d) e (s + b.1) fun q hq => h q (by simpa using hq)
    have e1 : (b :: c :: d) ++ e = b :: ((c :: d) ++ e) := rfl
    have e2 : endsF r s (b :: c :: d) = (if b.2 = .pl then rgI (s + r.1) (s + b.1 - r.2 + 1) else []) ++ ((if b.2 ≠ .he ∨ (c :: d) = [] then [s + b.1] else []) ++ endsF r (s + b.1) (c :: d)) := rfl
    rw [e1, endsF, ih, siz_cons b, e2, ← Int.add_assoc s]
    simp
/-! ### gaps -/
def gaps : Int → List Int → List Int
  | _, [] => []
  | p, q :: l => (q - p) :: gaps q l
theorem gaps_zip : ∀ (l : List Int) (p : Int), (List.zip (p :: l.dropLast) l).map (fun x => x.2 - x.1) = gaps p l
  | [], _ => rfl
  | [q], p => rfl
  | q :: q2 :: l, p => by
    have ih := gaps_zip (q2 :: l) q
    rw [List.dropLast_cons_cons, List.zip_cons_cons, List.map_cons, ih]
    rfl
theorem gaps_ne {l : List Int} (p : Int) (h : l ≠ []) : gaps p l ≠ [] := by
  cases l with
  | nil => exact absurd rfl h
  | cons q l => simp [gaps]
theorem gaps_app : ∀ (l m : List Int) (p : Int), gaps p (l ++ m) = gaps p l ++ gaps ((p :: l).getLastD p) m
  | [], m, p => rfl
  | q :: l, m, p => by
    have ih := gaps_app l m q
    simp only [List.cons_append, gaps, ih]
    cases l <;> simp [List.getLastD]
theorem gaps_shift (t : Int) : ∀ (l : List Int) (p : Int), gaps (p + t) (l.map (· + t)) = gaps p l
  | [], _ => rfl
  | q :: l, p => by
    simp only [List.map_cons, gaps, gaps_shift t l q]
    congr 1
    omega
theorem maxL_le {l : List Int} {h : Int} (hl : l ≠ []) : maxL l ≤ h ↔ ∀ x ∈ l, x ≤ h :=
  ⟨fun e x hx => Int.le_trans (le_maxL hx) e, fun e => e _ (maxL_mem hl)⟩
theorem maxL_app {l m : List Int} (hl : l ≠ []) (hm : m ≠ []) : maxL (l ++ m) = max (maxL l) (maxL m) := by
  apply Int.le_antisymm
  · rw [maxL_le (by simp [hl])]
    intro x hx
    rw [List.mem_append] at hx
    obtain hx | hx := hx
    · have := le_maxL hx; omega
    · have := le_maxL hx; omega
  · have h1 := le_maxL (List.mem_append_left m (maxL_mem hl))
    have h2 := le_maxL (List.mem_append_right l (maxL_mem hm))
    omega
def lg (l : List Int) : Int := maxL (gaps 0 l)
/-- what the ends of a document are -/
structure KN (l : List Int) (S : Int) : Prop where
  so : (0 :: l).Pairwise (· < ·)
  la : l.getLast? = some S
  le : S ≤ 40
theorem kn_ends {d : Doc} {r : Rul} (h : VD d) (g : VR r) : KN (ends r d) (siz d) := by
  have hd : LD d := fun b hb => (h.li b hb).1
  refine ⟨?_, ?_, h.sz⟩
  · rw [List.pairwise_cons]
    exact ⟨fun x hx => (ends_mem r g d 0 x hd hx).1, ends_sorted r g d 0 hd⟩
  · have := ends_last r d 0 h.ne
    simpa [ends] using this
theorem next_gap : ∀ (l : List Int) (p0 p S : Int), (p0 :: l).Pairwise (· < ·) → (p0 :: l).getLast? = some S → p ∈ p0 :: l → p < S → ∃ q ∈ l, p < q ∧ q - p ∈ gaps p0 l
  | [], p0, p, S, _, h, hp, hl => by
    simp at h hp; omega
  | q :: l, p0, p, S, hs, h, hp, hl => by
    rw [List.pairwise_cons] at hs
    rw [List.mem_cons] at hp
    obtain rfl | hp := hp
    · exact ⟨q, by simp, hs.1 q (by simp), by simp [gaps]⟩
    · obtain ⟨x, hx, h1, h2⟩ := next_gap l q p S hs.2 (by simpa using h) hp hl
      exact ⟨x, by simp [hx], h1, by simp [gaps, h2]⟩
section
variable {l : List Int} {S : Int} (K : KN l S)
include K
theorem KN.ne : l ≠ [] := by
  intro e; have := K.la; simp [e] at this
theorem KN.mem : S ∈ l := List.mem_of_getLast? K.la
theorem KN.pos {x : Int} (h : x ∈ l) : 0 < x := (List.pairwise_cons.1 K.so).1 x h
theorem KN.top {x : Int} (h : x ∈ l) : x ≤ S := by
  have so := (List.pairwise_cons.1 K.so).2
  have la := K.la
  obtain ⟨ys, e⟩ := List.getLast?_eq_some_iff.1 la
  rw [e, List.pairwise_append] at so
  rw [e, List.mem_append] at h
  obtain h | h := h
  · exact Int.le_of_lt (so.2.2 x h S (by simp))
  · simp at h; omega
theorem KN.next {p : Int} (hp : p ∈ 0 :: l) (h : p < S) : ∃ q ∈ l, p < q ∧ q - p ≤ lg l := by
  obtain ⟨q, hq, h1, h2⟩ := next_gap l 0 p S K.so (by rw [List.getLast?_cons, K.la]; rfl) hp h
  exact ⟨q, hq, h1, le_maxL h2⟩
theorem KN.lg1 : 1 ≤ lg l := by
  have := K.pos K.mem
  obtain ⟨q, _, h1, h2⟩ := K.next (p := 0) (by simp) this
  omega
end
theorem gaps_le : ∀ (l : List Int) (p S x : Int), (p :: l).Pairwise (· < ·) → (∀ y ∈ l, y ≤ S) → x ∈ gaps p l → x ≤ S - p
  | [], _, _, _, _, _, h => by simp [gaps] at h
  | q :: l, p, S, x, so, hS, h => by
    have so2 := (List.pairwise_cons.1 so)
    have := so2.1 q (by simp)
    rw [gaps, List.mem_cons] at h
    obtain rfl | h := h
    · have := hS q (by simp); omega
    · have := gaps_le l q S x so2.2 (fun y hy => hS y (by simp [hy])) h
      omega
theorem KN.lgS {l : List Int} {S : Int} (K : KN l S) : lg l ≤ S := by
  have := gaps_le l 0 S (lg l) K.so (fun y hy => K.top hy) (maxL_mem (gaps_ne 0 K.ne))
  omega
end LW

namespace LW
open PySem PB L2
def encP (p : Int × Int) : D := .tup [.int p.1, .int p.2]
theorem zipT_int : ∀ (xs ys : List Int), zipT (xs.map .int) (ys.map .int) = (xs.zip ys).map encP
  | [], _ => by simp [zipT]
  | _ :: _, [] => by simp [zipT]
  | x :: xs, y :: ys => by
    have := zipT_int xs ys
    simp [zipT, encP] at this ⊢
    exact this
theorem kn_len {l : List Int} {S : Int} (K : KN l S) : l.length ≤ 40 := by
  have h : ∀ (l : List Int) (p : Int), (p :: l).Pairwise (· < ·) → (∀ x ∈ l, x ≤ S) → (l ≠ [] → (l.length : Int) ≤ S - p) := by
    intro l
    induction l with
    | nil => intro p _ _ h; exact absurd rfl h
    | cons q l ih =>
      intro p so hS _
      have so2 := List.pairwise_cons.1 so
      have h1 := so2.1 q (by simp)
      have h2 := hS q (by simp)
      by_cases e : l = []
      · simp [e]; omega
      · have := ih q so2.2 (fun x hx => hS x (by simp [hx])) e
        simp; omega
  have := h l 0 K.so (fun x hx => K.top hx) K.ne
  have := K.le
  omega
theorem ev_find_parts {d : Doc} {r : Rul} (h : VD d) (g : VR r) : m_find_parts [encDoc d, encR r] = .ok (.lst (((0 :: (ends r d).dropLast).zip (ends r d)).map encP)) := by
  have e := ev_find_ends h g
  have z := zipT_int (0 :: (ends r d).dropLast) (ends r d)
  have hl := kn_len (kn_ends h g)
  rw [m_find_parts, S_find_parts]
  have hl2 : 1 + ((ends r d).length - 1) ≤ 1000000 := by omega
  simp [intD, List.map_dropLast] at z
  simp [initD, e, intD, cutInit, hl2, z]
theorem ev_find_longest {d : Doc} {r : Rul} (h : VD d) (g : VR r) : m_find_longest [encDoc d, encR r] = .ok (.int (lg (ends r d))) := by
  have e := ev_find_parts h g
  have K := kn_ends h g
  have hl := kn_len K
  have c := lc_map (T := tgTup (tgCons (tgName 2) (tgCons (tgName 3) tgNil))) (C := cYes) (E := (eBin dSub (eVar 3) (eVar 2))) (ρ := [some (encDoc d), some (encR r), none, none]) encP (fun p => .int (p.2 - p.1)) ((0 :: (ends r d).dropLast).zip (ends r d)) fun b _ => by
    simp [encP]
  have gz := gaps_zip (ends r d) 0
  have gn := gaps_ne 0 K.ne
  have ha := asInts_mp (fun p : Int × Int => p.2 - p.1) ((0 :: (ends r d).dropLast).zip (ends r d))
  rw [gz] at ha
  have hl2 : min ((ends r d).length - 1 + 1) (ends r d).length ≤ 1000000 := by omega
  rw [m_find_longest, S_find_longest]
  simp [initD] at c ⊢
  simp [e, c, hl2, ha, gn, lg]
theorem ev_has_room {d : Doc} {r : Rul} (h : VD d) (g : VR r) (k : Int) : m_has_room [encDoc d, encR r, .int k] = .ok (.bl (decide (lg (ends r d) ≤ k))) := by
  rw [m_has_room, S_has_room]
  simp [initD, ev_find_longest h g]
/-! ### filling pages -/
def nxt (l : List Int) (h p : Int) : Int := maxL (l.filter fun q => decide (q ≤ p + h))
def fil (l : List Int) (h S : Int) : Nat → Int → List Int
  | 0, _ => []
  | n + 1, p => if p < S then nxt l h p :: fil l h S n (nxt l h p) else []
def filled (l : List Int) (h S : Int) : List Int := fil l h S 40 0
def few (l : List Int) (S h : Int) : Int := (filled l h S).length
section
variable {l : List Int} {S : Int} (K : KN l S)
include K
theorem nxt_ne {h p : Int} (hh : lg l ≤ h) (hp : p ∈ 0 :: l) (hS : p < S) : (l.filter fun q => decide (q ≤ p + h)) ≠ [] := by
  obtain ⟨q, hq, h1, h2⟩ := K.next hp hS
  exact List.ne_nil_of_mem (a := q) (by simp [hq]; omega)
theorem nxt_in {h p : Int} (hh : lg l ≤ h) (hp : p ∈ 0 :: l) (hS : p < S) : nxt l h p ∈ l ∧ p < nxt l h p ∧ nxt l h p ≤ p + h := by
  have h1 := maxL_mem (nxt_ne K hh hp hS)
  rw [List.mem_filter] at h1
  refine ⟨h1.1, ?_, of_decide_eq_true h1.2⟩
  obtain ⟨q, hq, h3, h2⟩ := K.next hp hS
  have := le_maxL (x := q) (ns := l.filter fun q => decide (q ≤ p + h)) (by simp [hq]; omega)
  simp only [nxt]; omega
theorem nxt_le {h h' p p' : Int} (hh : lg l ≤ h) (hp : p ∈ 0 :: l) (hS : p < S) (hl : h ≤ h') (hpp : p ≤ p') : nxt l h p ≤ nxt l h' p' := by
  have h1 := nxt_in K hh hp hS
  refine le_maxL (ns := l.filter fun q => decide (q ≤ p' + h')) ?_
  simp [h1.1]; omega
theorem fil_anti {h h' : Int} (hh : lg l ≤ h) (hl : h ≤ h') : ∀ (n : Nat) (p p' : Int), p ∈ 0 :: l → p' ∈ 0 :: l → p ≤ p' → (fil l h' S n p').length ≤ (fil l h S n p).length
  | 0, _, _, _, _, _ => by simp [fil]
  | n + 1, p, p', hp, hp', hpp => by
    rw [fil, fil]
    by_cases c : p' < S
    · have c2 : p < S := by omega
      have h1 := nxt_in K hh hp c2
      have h2 := nxt_in K (Int.le_trans hh hl) hp' c
      have := fil_anti hh hl n (nxt l h p) (nxt l h' p') (by simp [h1.1]) (by simp [h2.1]) (nxt_le K hh hp c2 hl hpp)
      simp [c, c2, this]
    · simp [c]
theorem few_anti {h h' : Int} (hh : lg l ≤ h) (hl : h ≤ h') : few l S h' ≤ few l S h := by
  have := fil_anti K hh hl 40 0 0 (by simp) (by simp) (by omega)
  simp only [few, filled]; omega
theorem fil_end (h : Int) : ∀ n, fil l h S n S = []
  | 0 => rfl
  | n + 1 => by simp [fil]
theorem few_S {h : Int} (hS : S ≤ h) : few l S h = 1 := by
  have hp := K.pos K.mem
  have e : nxt l h 0 = S := by
    have h1 := nxt_in K (Int.le_trans K.lgS hS) (p := 0) (by simp) hp
    apply Int.le_antisymm (K.top h1.1)
    exact le_maxL (ns := l.filter fun q => decide (q ≤ 0 + h)) (by simp [K.mem]; omega)
  simp [few, filled, fil, hp, e]
theorem few_two {h : Int} (hh : lg l ≤ h) (hS : h < S) : 2 ≤ few l S h := by
  have hp := K.pos K.mem
  have h1 := nxt_in K hh (p := 0) (by simp) hp
  have c : nxt l h 0 < S := by omega
  simp [few, filled, fil, hp, c]
  omega
theorem few_le {h : Int} : few l S h ≤ 40 := by
  have : ∀ n p, (fil l h S n p).length ≤ n := by
    intro n
    induction n with
    | zero => intro p; simp [fil]
    | succ n ih =>
      intro p
      rw [fil]
      split
      · have := ih (nxt l h p); simp; omega
      · simp
  have := this 40 0
  simp only [few, filled]; omega
theorem few_one {h : Int} : 1 ≤ few l S h := by
  have hp := K.pos K.mem
  simp [few, filled, fil, hp]
  omega
end
theorem ev_fill_loop {d : Doc} {r : Rul} (hd : VD d) (g : VR r) (h : Int) (hh : lg (ends r d) ≤ h) : ∀ (n N : Nat) (acc : List Int) (p : Int) (x : Option D), p ∈ 0 :: ends r d → (siz d - p).toNat ≤ n → n < N → acc.length + n ≤ 1000 →
    ∃ p' x', whileN (cE (eBin dLt (eVar 5) (eF m_size_of (aCons (eVar 0) aNil)))) (seqS (sAsg [] (tgName 5) (eCall gMax (aCons (eLc (sSeq (eVar 3)) [6] (tgName 6) (cE (eBin dLe (eVar 6) (eBin dAdd (eVar 5) (eVar 2)))) (eVar 6)) aNil)))
    (sAsg [] (tgName 4) (eBin dAdd (eVar 4) (eTup (aCons (eVar 5) aNil))))) N [some (encDoc d), some (encR r), some (.int h), some (intD (ends r d)), some (.tup (acc.map .int)), some (.int p), x] =
      .ok (.nx [some (encDoc d), some (encR r), some (.int h), some (intD (ends r d)), some (.tup ((acc ++ fil (ends r d) h (siz d) n p).map .int)), p', x'])
  | n, 0, _, _, _, _, _, hN, _ => absurd hN (by omega)
  | n, N + 1, acc, p, x, hp, hn, hN, ha => by
    have K := kn_ends hd g
    have hl := kn_len K
    have h8 := hd.ln
    have es := ev_size_of d (by omega)
    by_cases c : p < siz d
    · obtain ⟨n, rfl⟩ : ∃ m, n = m + 1 := ⟨n - 1, by omega⟩
      have h1 := nxt_in K hh hp c
      have h2 := nxt_ne K hh hp c
      obtain ⟨p', x', ih⟩ := ev_fill_loop hd g h hh n N (acc ++ [nxt (ends r d) h p]) (nxt (ends r d) h p) x (by simp [h1.1]) (by omega) (by omega) (by simp; omega)
      refine ⟨p', x', ?_⟩
      have lc := lc_mf (T := tgName 6) (C := (cE (eBin dLe (eVar 6) (eBin dAdd (eVar 5) (eVar 2))))) (E := eVar 6) (ρ := [some (encDoc d), some (encR r), some (.int h), some (intD (ends r d)), some (.tup (acc.map .int)), some (.int p), none]) D.int D.int (fun q => decide (q ≤ p + h)) (ends r d) fun q _ => by
        simp
      rw [whileN, fil, if_pos c]
      rw [show acc ++ nxt (ends r d) h p :: fil (ends r d) h (siz d) n (nxt (ends r d) h p) = acc ++ [nxt (ends r d) h p] ++ fil (ends r d) h (siz d) n (nxt (ends r d) h p) by simp, ← ih]
      have b1 : (ends r d).length ≤ 1000000 := by omega
      have b2 : acc.length + 1 ≤ 1000000 := by omega
      simp [intD] at lc ⊢
      simp [es, c, b1, b2, lc, h2]
      simp [nxt]
    · refine ⟨some (.int p), x, ?_⟩
      have : fil (ends r d) h (siz d) n p = [] := by cases n <;> simp [fil, c]
      simp [whileN, es, c, this]
theorem ev_find_filled {d : Doc} {r : Rul} (hd : VD d) (g : VR r) {h : Int} (hh : lg (ends r d) ≤ h) : m_find_filled [encDoc d, encR r, .int h] = .ok (.tup ((filled (ends r d) h (siz d)).map .int)) := by
  have K := kn_ends hd g
  have := K.le
  obtain ⟨p', x', e⟩ := ev_fill_loop hd g h hh 40 100000 [] 0 none (by simp) (by omega) (by omega) (by simp)
  rw [m_find_filled, S_find_filled]
  simp only [List.map_nil, List.nil_append] at e
  simp [initD, ev_has_room hd g, hh, ev_find_ends hd g, e, filled]
theorem ev_find_filled_no {d : Doc} {r : Rul} (hd : VD d) (g : VR r) {h : Int} (hh : ¬ lg (ends r d) ≤ h) : m_find_filled [encDoc d, encR r, .int h] = .ok .non := by
  rw [m_find_filled, S_find_filled]
  simp [initD, ev_has_room hd g, hh]
end LW

namespace LW
open PySem PB L2
/-! ### comparing plain data -/
theorem pl_int (n : Nat) (l : List Int) : (l.map D.int).all (pl n) = true := by
  rw [List.all_eq_true]
  intro y hy
  obtain ⟨z, hz, rfl⟩ := List.mem_map.1 hy
  cases n <;> rfl
theorem eqLs_int (n : Nat) : ∀ a b : List Int, eqLs (eqD n) (a.map .int) (b.map .int) = decide (a = b)
  | [], [] => by simp [eqLs]
  | [], _ :: _ => by simp [eqLs]
  | _ :: _, [] => by simp [eqLs]
  | x :: a, y :: b => by
    have ih := eqLs_int n a b
    have e : eqD n (.int x) (.int y) = decide (x = y) := by cases n <;> exact beq_dec x y
    simp [eqLs, ih, e]
theorem dEq_L (a b : List Int) : dEq (.lst (a.map .int)) (.lst (b.map .int)) = some (.bl (decide (a = b))) := by
  have h1 := pl_int 7 a
  have h2 := pl_int 7 b
  simp only [dEq, pl, h1, h2, eqD, eqLs_int]
  rfl
theorem dNe_L (a b : List Int) : dNe (.lst (a.map .int)) (.lst (b.map .int)) = some (.bl (!decide (a = b))) := by
  have h1 := pl_int 7 a
  have h2 := pl_int 7 b
  simp only [dNe, pl, h1, h2, eqD, eqLs_int]
  rfl
theorem dEq_T (a b : List Int) : dEq (.tup (a.map .int)) (.tup (b.map .int)) = some (.bl (decide (a = b))) := by
  have h1 := pl_int 7 a
  have h2 := pl_int 7 b
  simp only [dEq, pl, h1, h2, eqD, eqLs_int]
  rfl
theorem dNe_T (a b : List Int) : dNe (.tup (a.map .int)) (.tup (b.map .int)) = some (.bl (!decide (a = b))) := by
  have h1 := pl_int 7 a
  have h2 := pl_int 7 b
  simp only [dNe, pl, h1, h2, eqD, eqLs_int]
  rfl
theorem dEq_T0 (a : List Int) : dEq (.tup (a.map .int)) (.tup []) = some (.bl (decide (a = []))) := dEq_T a []
theorem dEq_L0 (a : List Int) : dEq (.lst (a.map .int)) (.lst []) = some (.bl (decide (a = []))) := dEq_L a []
theorem dNe_L0 (a : List Int) : dNe (.lst (a.map .int)) (.lst []) = some (.bl (!decide (a = []))) := dNe_L a []
theorem dNe_T0 (a : List Int) : dNe (.tup (a.map .int)) (.tup []) = some (.bl (!decide (a = []))) := dNe_T a []
theorem dEq_B (a b : Bool) : dEq (.bl a) (.bl b) = some (.bl (a == b)) := rfl
theorem dNe_B (a b : Bool) : dNe (.bl a) (.bl b) = some (.bl (!(a == b))) := rfl
theorem dIn_L (x : Int) (l : List Int) : dIn (.int x) (.lst (l.map .int)) = some (.bl (decide (x ∈ l))) := by
  have h1 := pl_int 7 l
  have h2 : pl 8 (.lst (l.map .int)) = true := h1
  have e : ((l.map D.int).any fun z => eqD 8 z (.int x)) = decide (x ∈ l) := by
    rw [List.any_map]
    rw [Bool.eq_iff_iff, List.any_eq_true, decide_eq_true_iff]
    constructor
    · rintro ⟨y, hy, hx⟩
      have : y = x := by simpa [eqD] using hx
      exact this ▸ hy
    · intro h
      exact ⟨x, h, by simp [eqD]⟩
  simp only [dIn, dInB, h2, e]
  rfl
/-! ### pairs of neighbours -/
def prs : Int → List Int → List (Int × Int)
  | _, [] => []
  | p, q :: l => (p, q) :: prs q l
theorem prs_zipD : ∀ (l : List Int) (p : Int), List.zip (p :: l.dropLast) l = prs p l
  | [], _ => rfl
  | [q], p => rfl
  | q :: q2 :: l, p => by
    have ih := prs_zipD (q2 :: l) q
    rw [List.dropLast_cons_cons, List.zip_cons_cons, ih]
    rfl
theorem prs_zip : ∀ (l : List Int) (p : Int), List.zip (p :: l) l = prs p l
  | [], _ => rfl
  | q :: l, p => by rw [List.zip_cons_cons, prs_zip l q]; rfl
theorem prs_gaps : ∀ (l : List Int) (p : Int), (prs p l).map (fun x => x.2 - x.1) = gaps p l
  | [], _ => rfl
  | q :: l, p => by simp [prs, gaps, prs_gaps l q]
theorem prs_mem : ∀ (l : List Int) (p : Int), (p :: l).Pairwise (· < ·) → ∀ x ∈ prs p l, x.1 ∈ p :: l ∧ x.2 ∈ l ∧ x.1 < x.2 ∧ ∀ y ∈ l, ¬ (x.1 < y ∧ y < x.2)
  | [], _, _, _, h => by simp [prs] at h
  | q :: l, p, so, x, h => by
    have so2 := List.pairwise_cons.1 so
    have so3 := List.pairwise_cons.1 so2.2
    rw [prs, List.mem_cons] at h
    obtain rfl | h := h
    · refine ⟨by simp, by simp, so2.1 q (by simp), fun y hy hh => ?_⟩
      rw [List.mem_cons] at hy
      obtain rfl | hy := hy
      · simp at hh
      · have := so3.1 y hy; simp at hh; omega
    · obtain ⟨h1, h2, h3, h4⟩ := prs_mem l q so2.2 x h
      refine ⟨by simp at h1 ⊢; right; exact h1, by simp [h2], h3, fun y hy hh => ?_⟩
      rw [List.mem_cons] at hy
      obtain rfl | hy := hy
      · rw [List.mem_cons] at h1
        obtain e | h1 := h1
        · omega
        · have := so3.1 _ h1; omega
      · exact h4 y hy hh
/-! ### paginations -/
def Pag (l : List Int) (S h : Int) (c : List Int) : Prop := c ≠ [] ∧ (∀ x ∈ c, x ∈ l) ∧ c.getLast? = some S ∧ ∀ g ∈ gaps 0 c, 0 < g ∧ g ≤ h
instance (l : List Int) (S h : Int) (c : List Int) : Decidable (Pag l S h c) := by unfold Pag; exact inferInstance
theorem ev_has_pagination {d : Doc} {r : Rul} (hd : VD d) (g : VR r) (h : Int) (c : List Int) (hc : c.length ≤ 1000) : m_has_pagination [encDoc d, encR r, .int h, .tup (c.map .int)] = .ok (.bl (decide (Pag (ends r d) (siz d) h c))) := by
  have K := kn_ends hd g
  have e1 := ev_find_ends hd g
  have el := atLast ((ends r d).map D.int) (by simp [K.ne])
  rw [List.getLast?_map, K.la] at el
  simp only [Option.map_some] at el
  generalize hl : ends r d = l at *
  generalize hS : siz d = S at *
  rw [m_has_pagination, S_has_pagination]
  by_cases c0 : c = []
  · have hn : ¬ Pag l S h c := fun x => x.1 c0
    have q := dEq_T0 c
    rw [decide_eq_false hn]
    simp only [c0, List.map_nil, decide_true] at q ⊢
    simp [initD, e1, dIsi, q]
  have b1 : c.length ≤ 1000000 := by omega
  have b2 : 1 + c.length ≤ 1000000 := by omega
  have cl := atLast (c.map D.int) (by simp [c0])
  rw [List.getLast?_map] at cl
  obtain ⟨z, hz⟩ : ∃ z, c.getLast? = some z := by
    cases e : c.getLast? with
    | none => rw [List.getLast?_eq_none_iff] at e; exact absurd e c0
    | some q => exact ⟨q, rfl⟩
  rw [hz] at cl
  simp only [Option.map_some] at cl
  obtain ⟨f1, hf1⟩ : ∃ f : Int → Bool, ∀ x, f x = decide (1 ≤ x ∧ x ≤ S) := ⟨_, fun _ => rfl⟩
  obtain ⟨f2, hf2⟩ : ∃ f : Int → Bool, ∀ x, f x = decide (x ∈ l) := ⟨_, fun _ => rfl⟩
  obtain ⟨f3, hf3⟩ : ∃ f : Int × Int → Bool, ∀ x, f x = decide (0 < x.2 - x.1 ∧ x.2 - x.1 ≤ h) := ⟨_, fun _ => rfl⟩
  have L1 := lc_map (T := tgName 5) (C := cYes) (E := (eF m_is_int (aCons (eVar 5) (aCons (eC (.int 1)) (aCons (eBin dIx (eVar 4) (eUn dNeg (eC (.int 1)))) aNil))))) (ρ := [some (encDoc d), some (encR r), some (.int h), some (.tup (c.map .int)), some (.lst (l.map .int)), none, none]) D.int (fun x => .bl (f1 x)) c fun x _ => by
    simp [el, hf1]
  have L2 := lc_map (T := tgName 5) (C := cYes) (E := (eBin dIn (eVar 5) (eVar 4))) (ρ := [some (encDoc d), some (encR r), some (.int h), some (.tup (c.map .int)), some (.lst (l.map .int)), none, none]) D.int (fun x => .bl (f2 x)) c fun x _ => by
    simp [dIn_L, hf2]
  have L3 := lc_map (T := (tgTup (tgCons (tgName 6) (tgCons (tgName 5) tgNil)))) (C := cYes) (E := (eChain dLt dLe (eC (.int 0)) (eBin dSub (eVar 5) (eVar 6)) (eVar 2))) (ρ := [some (encDoc d), some (encR r), some (.int h), some (.tup (c.map .int)), some (.lst (l.map .int)), none, none]) encP (fun x => .bl (f3 x)) ((0 :: c).zip c) fun x _ => by
    by_cases q : x.1 < x.2
    · simp [encP, q, hf3]
    · simp [encP, q, hf3]
  rw [← zipT_int] at L3
  simp only [List.map_cons] at L3
  by_cases c1 : c.all f1 = true
  · by_cases c2 : z = S
    · by_cases c3 : c.all f2 = true
      · have a3 : ((0 :: c).zip c).all f3 = decide (Pag l S h c) := by
          rw [Bool.eq_iff_iff, List.all_eq_true, decide_eq_true_iff, prs_zip]
          constructor
          · intro hh
            refine ⟨c0, fun x hx => ?_, by rw [hz, c2], fun g0 hg => ?_⟩
            · have := List.all_eq_true.1 c3 x hx
              rw [hf2] at this
              exact of_decide_eq_true this
            · rw [← prs_gaps] at hg
              obtain ⟨x, hx, rfl⟩ := List.mem_map.1 hg
              have := hh x hx
              rw [hf3] at this
              exact of_decide_eq_true this
          · rintro ⟨_, _, _, hh⟩ x hx
            rw [← prs_gaps] at hh
            rw [hf3]
            exact decide_eq_true (hh _ (List.mem_map_of_mem hx))
        have b3 : (zipT (D.int 0 :: c.map .int) (c.map .int)).length ≤ 1000000 := by rw [zipT]; simp; omega
        simp [initD, e1, intD, dIsi, dEq_T0, c0, b1, b2, b3, L1, L2, L3, el, cl, c2, c1, c3, a3]
      · have hn : ¬ Pag l S h c := fun x => c3 (List.all_eq_true.2 fun y hy => by rw [hf2]; exact decide_eq_true (x.2.1 y hy))
        rw [decide_eq_false hn]
        simp [initD, e1, intD, dIsi, dEq_T0, c0, b1, b2, L1, L2, el, cl, c2, c1, c3]
    · have hn : ¬ Pag l S h c := fun x => c2 (by have := x.2.2.1; rw [hz] at this; simpa using this)
      rw [decide_eq_false hn]
      simp [initD, e1, intD, dIsi, dEq_T0, c0, b1, b2, L1, el, cl, c2, c1]
  · have hn : ¬ Pag l S h c := fun x => c1 (List.all_eq_true.2 fun y hy => by
      rw [hf1]
      have := K.pos (x.2.1 y hy)
      have := K.top (x.2.1 y hy)
      exact decide_eq_true (by omega))
    rw [decide_eq_false hn]
    simp [initD, e1, intD, dIsi, dEq_T0, c0, b1, b2, L1, el, c1]
theorem ev_filled {d : Doc} {r : Rul} (hd : VD d) (g : VR r) {h : Int} (hh : 1 ≤ h ∧ h ≤ 40) (hl : lg (ends r d) ≤ h) : m_filled [encDoc d, encR r, .int h] = .ok (.tup ((filled (ends r d) h (siz d)).map .int)) := by
  rw [m_filled, S_filled]
  simp [initD, ev_check_three hd g hh, ev_find_filled hd g hl]
theorem ev_filled_no {d : Doc} {r : Rul} (hd : VD d) (g : VR r) {h : Int} (hh : 1 ≤ h ∧ h ≤ 40) (hl : ¬ lg (ends r d) ≤ h) : m_filled [encDoc d, encR r, .int h] = .ok .non := by
  rw [m_filled, S_filled]
  simp [initD, ev_check_three hd g hh, ev_find_filled_no hd g hl]
theorem neL_nil {α : Type} (f : α → D) (xs : List α) (h : ∀ x ∈ xs, pl 7 (f x) = true) : dNe (.lst (xs.map f)) (.lst []) = some (.bl (!decide (xs = []))) := by
  cases xs with
  | nil => rfl
  | cons x xs =>
    have : (List.map f (x :: xs)).all (pl 7) = true := by
      rw [List.all_eq_true]
      intro y hy
      obtain ⟨z, hz, rfl⟩ := List.mem_map.1 hy
      exact h z hz
    simp only [List.map_cons] at this ⊢
    simp [dNe, pl, this, eqD, eqLs]
/-- the parts that are too long -/
def tooLong (l : List Int) (h : Int) : List (Int × Int) := (prs 0 l).filter fun x => decide (h < x.2 - x.1)
theorem tooLong_nil {l : List Int} {S h : Int} (K : KN l S) : tooLong l h = [] ↔ lg l ≤ h := by
  rw [lg, maxL_le (gaps_ne 0 K.ne), ← prs_gaps, tooLong, List.filter_eq_nil_iff]
  constructor
  · intro hh x hx
    obtain ⟨y, hy, rfl⟩ := List.mem_map.1 hx
    have := hh y hy
    simp at this; exact this
  · intro hh x hx
    have := hh _ (List.mem_map_of_mem hx)
    simp; omega
/-! ### filling is best -/
section
variable {l : List Int} {S : Int} (K : KN l S)
include K
theorem fil_pag {h : Int} (hh : lg l ≤ h) : ∀ (n : Nat) (p : Int), p ∈ 0 :: l → (S - p).toNat ≤ n → (∀ x ∈ fil l h S n p, x ∈ l) ∧ (p :: fil l h S n p).getLast? = some S ∧ ∀ g ∈ gaps p (fil l h S n p), 0 < g ∧ g ≤ h
  | n, p, hp, hn => by
    have pS : p ≤ S := by
      rw [List.mem_cons] at hp
      obtain rfl | hp := hp
      · have := K.pos K.mem; omega
      · exact K.top hp
    by_cases c : p < S
    · obtain ⟨n, rfl⟩ : ∃ m, n = m + 1 := ⟨n - 1, by omega⟩
      have h1 := nxt_in K hh hp c
      obtain ⟨i1, i2, i3⟩ := fil_pag hh n (nxt l h p) (by simp [h1.1]) (by omega)
      rw [fil, if_pos c]
      refine ⟨?_, by rw [List.getLast?_cons_cons]; exact i2, ?_⟩
      · intro x hx
        rw [List.mem_cons] at hx
        obtain rfl | hx := hx
        · exact h1.1
        · exact i1 x hx
      · intro g0 hg
        rw [gaps, List.mem_cons] at hg
        obtain rfl | hg := hg
        · omega
        · exact i3 g0 hg
    · have e : p = S := by omega
      have : fil l h S n p = [] := by cases n <;> simp [fil, c]
      rw [this]
      simp [e, gaps]
theorem filled_pag {h : Int} (hh : lg l ≤ h) : Pag l S h (filled l h S) := by
  have hp := K.pos K.mem
  have := K.le
  obtain ⟨i1, i2, i3⟩ := fil_pag K hh 40 0 (by simp) (by omega)
  have hne : filled l h S ≠ [] := by simp [filled, fil, hp]
  refine ⟨hne, i1, ?_, i3⟩
  have : (0 :: filled l h S).getLast? = some S := i2
  rw [List.getLast?_cons] at this
  cases e : (filled l h S).getLast? with
  | none => rw [List.getLast?_eq_none_iff] at e; exact absurd e hne
  | some q => rw [e] at this; simpa using this
theorem ends_pag {h : Int} (hh : lg l ≤ h) : Pag l S h l := by
  refine ⟨K.ne, fun _ h => h, K.la, fun g hg => ⟨?_, Int.le_trans (le_maxL hg) hh⟩⟩
  rw [← prs_gaps] at hg
  obtain ⟨x, hx, rfl⟩ := List.mem_map.1 hg
  have := (prs_mem l 0 K.so x hx).2.2.1
  omega
omit K in
theorem fil_best {h : Int} : ∀ (c : List Int) (n : Nat) (p p' : Int), p' ≤ p → (p' :: c).getLast? = some S → (∀ x ∈ c, x ∈ l) → (∀ g ∈ gaps p' c, 0 < g ∧ g ≤ h) → (fil l h S n p).length ≤ c.length
  | [], n, p, p', hp, hl, _, _ => by
    have : p' = S := by simpa using hl
    have : ¬ p < S := by omega
    cases n <;> simp [fil, this]
  | q :: c, 0, p, p', hp, hl, hm, hg => by simp [fil]
  | q :: c, n + 1, p, p', hp, hl, hm, hg => by
    rw [fil]
    split
    · have g1 := hg (q - p') (by simp [gaps])
      have h1 : q ≤ nxt l h p := le_maxL (ns := l.filter fun q => decide (q ≤ p + h)) (by simp [hm q (by simp)]; omega)
      have := fil_best c n (nxt l h p) q h1 (by rw [List.getLast?_cons_cons] at hl; exact hl) (fun x hx => hm x (by simp [hx])) (fun g hh => hg g (by simp [gaps, hh]))
      simp; omega
    · simp
omit K in
theorem few_min {h : Int} {c : List Int} (P : Pag l S h c) : few l S h ≤ c.length := by
  have := fil_best (l := l) (S := S) (h := h) c 40 0 0 (by omega) (by rw [List.getLast?_cons, P.2.2.1]; rfl) P.2.1 P.2.2.2
  simp only [few, filled]; omega
theorem filled_S {h : Int} (hS : S ≤ h) : filled l h S = [S] := by
  have hp := K.pos K.mem
  have e : nxt l h 0 = S := by
    have h1 := nxt_in K (Int.le_trans K.lgS hS) (p := 0) (by simp) hp
    apply Int.le_antisymm (K.top h1.1)
    exact le_maxL (ns := l.filter fun q => decide (q ≤ 0 + h)) (by simp [K.mem]; omega)
  simp [filled, fil, hp, e]
theorem filled_len {h : Int} : (filled l h S).length ≤ 40 := by
  have := few_le K (h := h)
  simp only [few] at this; omega
end
theorem next_any : ∀ (l : List Int) (p0 p S : Int), (p0 :: l).getLast? = some S → p0 ≤ p → p < S → ∃ q ∈ l, p < q ∧ ∃ g ∈ gaps p0 l, q - p ≤ g
  | [], p0, p, S, h, hp, hl => by
    simp at h; omega
  | q :: l, p0, p, S, h, hp, hl => by
    by_cases c : p < q
    · exact ⟨q, by simp, c, q - p0, by simp [gaps], by omega⟩
    · obtain ⟨x, hx, h1, g, hg, h2⟩ := next_any l q p S (by simpa using h) (by omega) hl
      exact ⟨x, by simp [hx], h1, g, by simp [gaps, hg], h2⟩
/-- more ends: no longer part -/
theorem lg_more {l l' : List Int} {S : Int} (K : KN l S) (K' : KN l' S) (hs : ∀ x ∈ l, x ∈ l') : lg l' ≤ lg l := by
  rw [lg, maxL_le (gaps_ne 0 K'.ne), ← prs_gaps]
  intro g hg
  obtain ⟨x, hx, rfl⟩ := List.mem_map.1 hg
  obtain ⟨h1, h2, h3, h4⟩ := prs_mem l' 0 K'.so x hx
  have x0 : 0 ≤ x.1 := by
    rw [List.mem_cons] at h1
    obtain e | h1 := h1
    · omega
    · have := K'.pos h1; omega
  have xS := K'.top h2
  obtain ⟨q, hq, q1, g, hg, q2⟩ := next_any l 0 x.1 S (by rw [List.getLast?_cons, K.la]; rfl) x0 (by omega)
  have := h4 q (hs q hq)
  have := le_maxL hg
  rw [lg]
  omega
theorem pag_more {l l' c : List Int} {S h : Int} (hs : ∀ x ∈ l, x ∈ l') (P : Pag l S h c) : Pag l' S h c := ⟨P.1, fun x hx => hs x (P.2.1 x hx), P.2.2⟩
theorem ends_weak {r r' : Rul} (ha : r'.1 ≤ r.1) (hb : r'.2 ≤ r.2) : ∀ (d : Doc) (s x : Int), x ∈ endsF r s d → x ∈ endsF r' s d
  | [], _, _, h => by simp [endsF] at h
  | b :: d, s, x, h => by
    rw [endsF, List.mem_append, List.mem_append] at h ⊢
    obtain h | h | h := h
    · left
      split at h
      · rename_i c
        rw [if_pos c]
        rw [mem_rgI] at h ⊢; omega
      · simp at h
    · exact .inr (.inl h)
    · exact .inr (.inr (ends_weak ha hb d _ x h))
end LW

namespace LW
open PySem PB L2
/-! ### the law's own ends -/
theorem sorted_ext : ∀ {a b : List Int}, a.Pairwise (· < ·) → b.Pairwise (· < ·) → (∀ x, x ∈ a ↔ x ∈ b) → a = b
  | [], [], _, _, _ => rfl
  | [], y :: b, _, _, h => absurd ((h y).2 (by simp)) (by simp)
  | x :: a, [], _, _, h => absurd ((h x).1 (by simp)) (by simp)
  | x :: a, y :: b, ha, hb, h => by
    rw [List.pairwise_cons] at ha hb
    have e : x = y := by
      have h1 := (h x).1 (by simp)
      have h2 := (h y).2 (by simp)
      rw [List.mem_cons] at h1 h2
      obtain e | h1 := h1
      · exact e
      · obtain e | h2 := h2
        · exact e.symm
        · have := ha.1 y h2; have := hb.1 x h1; omega
    subst e
    congr 1
    refine sorted_ext ha.2 hb.2 fun z => ?_
    have hz := h z
    simp only [List.mem_cons] at hz
    constructor
    · intro q
      have := ha.1 z q
      obtain e | q2 := hz.1 (.inr q)
      · omega
      · exact q2
    · intro q
      have := hb.1 z q
      obtain e | q2 := hz.2 (.inr q)
      · omega
      · exact q2
theorem inner_ends (s l : Int) (r : Rul) (hr : VR r) : ((rgI 1 l).filter fun n => decide (r.1 ≤ n ∧ r.2 ≤ l - n)).map (fun n => s + n) = rgI (s + r.1) (s + l - r.2 + 1) := by
  have ha := hr.a
  have hb := hr.b
  refine sorted_ext ?_ (rgI_sorted _ _ _ rfl) fun x => ?_
  · rw [List.pairwise_map]
    refine ((rgI_sorted l _ 1 rfl).filter _).imp fun h => by omega
  · rw [mem_rgI, List.mem_map]
    constructor
    · rintro ⟨n, hn, rfl⟩
      rw [List.mem_filter, mem_rgI] at hn
      have := of_decide_eq_true hn.2
      omega
    · intro h
      refine ⟨x - s, ?_, by omega⟩
      rw [List.mem_filter, mem_rgI]
      exact ⟨by omega, decide_eq_true (by omega)⟩
theorem ev_inner (a0 : D) (r : Rul) (m : Mk) (l s : Int) (kk : Option D) : ∀ (t : List Int) (acc : List Int) (x : Option D), acc.length + t.length ≤ 1000 →
    ∃ x', forL (tgName 7) (sIf (cAnd (cE (eBin dEq (eVar 6) (eC (.str "")))) (cAnd (cE (eBin dGe (eVar 7) (eBin dIx (eVar 1) (eC (.int 0))))) (cE (eBin dGe (eBin dSub (eVar 5) (eVar 7)) (eBin dIx (eVar 1) (eC (.int 1))))))) (sApp [2] 2 (aCons (eBin dAdd (eVar 3) (eVar 7)) aNil)) sNil) (t.map .int)
      [some a0, some (encR r), some (intD acc), some (.int s), kk, some (.int l), some (.str m.s), x] =
    .ok (.nx [some a0, some (encR r), some (intD (acc ++ if m = .pl then (t.filter fun n => decide (r.1 ≤ n ∧ r.2 ≤ l - n)).map (fun n => s + n) else [])), some (.int s), kk, some (.int l), some (.str m.s), x'])
  | [], acc, x, _ => ⟨x, by simp [forL]⟩
  | n :: t, acc, x, h => by
    have hl : acc.length < 1000000 := by simp at h; omega
    by_cases c : m = .pl
    · by_cases c1 : r.1 ≤ n
      · by_cases c2 : r.2 ≤ l - n
        · obtain ⟨x', ih⟩ := ev_inner a0 r m l s kk t (acc ++ [s + n]) (some (.int n)) (by simp at h ⊢; omega)
          refine ⟨x', ?_⟩
          simp [encR, intD, c] at ih
          simp [forL, mk_pl, c, encR, at0, at1, c1, c2, intD, hl, ih]
        · obtain ⟨x', ih⟩ := ev_inner a0 r m l s kk t acc (some (.int n)) (by simp at h ⊢; omega)
          refine ⟨x', ?_⟩
          simp [encR, intD, c] at ih
          simp [forL, mk_pl, c, encR, at0, at1, c1, c2, intD, ih]
      · obtain ⟨x', ih⟩ := ev_inner a0 r m l s kk t acc (some (.int n)) (by simp at h ⊢; omega)
        refine ⟨x', ?_⟩
        simp [encR, intD, c] at ih
        simp [forL, mk_pl, c, encR, at0, at1, c1, intD, ih]
    · obtain ⟨x', ih⟩ := ev_inner a0 r m l s kk t acc (some (.int n)) (by simp at h ⊢; omega)
      refine ⟨x', ?_⟩
      simp [encR, intD, c] at ih
      simp [forL, mk_pl, c, encR, at0, at1, intD, ih]
theorem ev_lends_loop (d0 : Doc) (r : Rul) (hr : VR r) : ∀ (d : Doc) (k : Nat) (acc : List Int) (s : Int) (x y z w : Option D), (∀ b ∈ d, 1 ≤ b.1 ∧ b.1 ≤ 12) → k + d.length = d0.length → d0.length ≤ 8 → acc.length ≤ 13 * k → 0 ≤ s → s ≤ 12 * k →
    ∃ x' y' z' w', forL (tgTup (tgCons (tgName 4) (tgCons (tgTup (tgCons (tgName 5) (tgCons (tgName 6) tgNil))) tgNil))) (seqS (sFor [2] (sRg2 (aCons (eC (.int 1)) (aCons (eVar 5) aNil))) (tgName 7) (sIf (cAnd (cE (eBin dEq (eVar 6) (eC (.str "")))) (cAnd (cE (eBin dGe (eVar 7) (eBin dIx (eVar 1) (eC (.int 0))))) (cE (eBin dGe (eBin dSub (eVar 5) (eVar 7)) (eBin dIx (eVar 1) (eC (.int 1))))))) (sApp [2] 2 (aCons (eBin dAdd (eVar 3) (eVar 7)) aNil)) sNil))
    (seqS (sAsg [2] (tgName 3) (eBin dAdd (eVar 3) (eVar 5)))
    (sIf (cOr (cE (eBin dNe (eVar 6) (eC (.str "head")))) (cE (eBin dEq (eBin dAdd (eVar 4) (eC (.int 1))) (eCall gLen (aCons (eVar 0) aNil))))) (sApp [2] 2 (aCons (eVar 3) aNil)) sNil))) (enumT k (d.map encB))
      [some (encDoc d0), some (encR r), some (intD acc), some (.int s), x, y, z, w] =
    .ok (.nx [some (encDoc d0), some (encR r), some (intD (acc ++ endsF r s d)), some (.int (s + siz d)), x', y', z', w'])
  | [], k, acc, s, x, y, z, w, _, _, _, _, _, _ => ⟨x, y, z, w, by simp [enumT, forL, endsF, siz]⟩
  | b :: d, k, acc, s, x, y, z, w, hb, hk, h8, ha, h0, hs => by
    have hb1 := hb b (by simp)
    have hra := hr.a
    have hrb := hr.b
    have hk2 : k + d.length + 1 = d0.length := by simpa [Nat.add_assoc] using hk
    have hl : (rgI (s + r.1) (s + b.1 - r.2 + 1)).length ≤ 12 := by rw [rgI_len]; omega
    have hlast : ((k : Int) + 1 = (d0.length : Int)) ↔ d = [] := by
      rw [← List.length_eq_zero_iff]; omega
    have hin := inner_ends s b.1 r hr
    obtain ⟨w1, ei⟩ := ev_inner (encDoc d0) r b.2 b.1 s (some (.int k)) (rgI 1 b.1) acc w (by rw [rgI_len]; omega)
    rw [hin] at ei
    generalize hg : (if b.2 = .pl then rgI (s + r.1) (s + b.1 - r.2 + 1) else []) = g1 at *
    generalize hg2 : (if b.2 ≠ .he ∨ d = [] then [s + b.1] else []) = g2
    have l1 : g1.length ≤ 12 := by rw [← hg]; split <;> simp [hl]
    have l2 : g2.length ≤ 1 := by rw [← hg2]; split <;> simp
    obtain ⟨x', y', z', w', ih⟩ := ev_lends_loop d0 r hr d (k + 1) (acc ++ (g1 ++ g2)) (s + b.1) (some (.int k)) (some (.int b.1)) (some (.str b.2.s)) w1 (fun c hc => hb c (by simp [hc])) (by omega) h8 (by simp; omega) (by omega) (by omega)
    refine ⟨x', y', z', w', ?_⟩
    have ee : endsF r s (b :: d) = g1 ++ (g2 ++ endsF r (s + b.1) d) := by rw [endsF, hg, hg2]
    rw [ee, siz_cons]
    rw [show s + (b.1 + siz d) = s + b.1 + siz d by omega, show acc ++ (g1 ++ (g2 ++ endsF r (s + b.1) d)) = acc ++ (g1 ++ g2) ++ endsF r (s + b.1) d by simp]
    rw [← ih]
    have b1 : -1000000 ≤ b.1 := by omega
    have b2 : b.1 ≤ 1000000 := by omega
    have b6 : acc.length + g1.length < 1000000 := by omega
    have b7 : acc.length < 1000000 := by omega
    simp [intD] at ei
    subst hg2
    by_cases c2 : b.2 = .he
    · by_cases c3 : d = []
      · simp [enumT, forL, encB, encDoc, intD, mk_ne_he, c2, c3, hlast, b1, b2, b6] at ei ⊢
        simp [ei, mk_ne_he, hlast, c3, b6]
      · simp [enumT, forL, encB, encDoc, intD, mk_ne_he, c2, c3, hlast, b1, b2, b6] at ei ⊢
        simp [ei, mk_ne_he, hlast, c3, b6]
    · simp [enumT, forL, encB, encDoc, intD, mk_ne_he, c2, b1, b2, b6] at ei ⊢
      simp [ei, mk_ne_he, c2, b6]
/-! ### values that are no documents, no rules -/
theorem ev_check_document_no {o : D} (h : m_is_document [o] = .ok (.bl false)) : m_check_document [o] = .ex x_InvalidDocument := by
  rw [m_check_document, S_check_document]
  simp [initD, h]
theorem ev_check_both_no {o p : D} (h : m_is_document [o] = .ok (.bl false)) : m_check_both [o, p] = .ex x_InvalidDocument := by
  rw [m_check_both, S_check_both]
  simp [initD, ev_check_document_no h]
theorem ev_check_both_no2 {d : Doc} {p : D} (hd : VD d) (h : m_is_rule [p] = .ok (.bl false)) : m_check_both [encDoc d, p] = .ex x_InvalidRule := by
  rw [m_check_both, S_check_both]
  simp [initD, ev_check_document hd, h]
theorem ev_check_three_no {o p q : D} (h : m_is_document [o] = .ok (.bl false)) : m_check_three [o, p, q] = .ex x_InvalidDocument := by
  rw [m_check_three, S_check_three]
  simp [initD, ev_check_both_no h]
theorem ev_check_three_no2 {d : Doc} {p q : D} (hd : VD d) (h : m_is_rule [p] = .ok (.bl false)) : m_check_three [encDoc d, p, q] = .ex x_InvalidRule := by
  rw [m_check_three, S_check_three]
  simp [initD, ev_check_both_no2 hd h]
theorem ev_check_three_no3 {d : Doc} {r : Rul} {q : D} (hd : VD d) (g : VR r) (h : m_is_int [q, .int 1, .int 40] = .ok (.bl false)) : m_check_three [encDoc d, encR r, q] = .ex x_InvalidHeight := by
  rw [m_check_three, S_check_three]
  simp [initD, ev_check_both hd g, h]
end LW

namespace LW
open PySem PB L2
/-! ### the law's own filling and its own word for a pagination -/
theorem last_max : ∀ {l : List Int}, l.Pairwise (· < ·) → l ≠ [] → l.getLast? = some (maxL l) := by
  intro l so hne
  obtain ⟨ys, e⟩ : ∃ ys, l = ys ++ [maxL l] := by
    have h1 := maxL_mem hne
    obtain ⟨z, hz⟩ : ∃ z, l.getLast? = some z := by
      cases e : l.getLast? with
      | none => rw [List.getLast?_eq_none_iff] at e; exact absurd e hne
      | some q => exact ⟨q, rfl⟩
    obtain ⟨ys, e⟩ := List.getLast?_eq_some_iff.1 hz
    have h2 : maxL l = z := by
      apply Int.le_antisymm
      · rw [e, List.pairwise_append] at so
        rw [e, List.mem_append] at h1
        rw [← e] at h1
        obtain h1 | h1 := h1
        · exact Int.le_of_lt (so.2.2 _ h1 z (by simp))
        · simp at h1; omega
      · exact le_maxL (List.mem_of_getLast? hz)
    exact ⟨ys, by rw [h2]; exact e⟩
  rw [List.getLast?_eq_some_iff]
  exact ⟨ys, e⟩
theorem cutLast {α : Type} (xs : List α) : cutD xs (some (-1)) none = xs.drop (xs.length - 1) := by
  unfold cutD
  have e : HT.sIx xs.length 0 (some (-1)) = xs.length - 1 := by simp [HT.sIx]; omega
  rw [e]
  simp only [HT.sIx]
  rw [List.take_of_length_le (by simp)]
theorem dNotIn_L (x : Int) (l : List Int) : dNotIn (.int x) (.lst (l.map .int)) = some (.bl (!decide (x ∈ l))) := by
  have h := dIn_L x l
  unfold dIn at h
  unfold dNotIn
  cases e : dInB (.int x) (.lst (l.map .int)) with
  | none => rw [e] at h; cases h
  | some b =>
    rw [e] at h
    simp at h
    simp [h]
end LW

namespace LW
open PySem PB L2
/-! ### the second drawing: _law_pick, _law_paper, _law_short, _law_rule -/
theorem ev_pick (ns : List Int) (hns : ns.length ≤ 63) (k many : Int) (hk : 0 ≤ k) (hk2 : k ≤ 10000) (hm : 0 < many) : ∃ v, m__law_pick [.scr ns, .int k, .int many] = .ok (.int v) ∧ 0 ≤ v ∧ v < many := by
  have en : dNe (.scr ns) (.lst []) = some (.bl (!ns.isEmpty)) := rfl
  obtain ⟨z, hz⟩ : ∃ z : Int, (eIf (cE (eBin dNe (eVar 0) (eLst aNil))) (eBin dIx (eVar 0) (eBin dMod (eVar 1) (eCall gLen (aCons (eVar 0) aNil)))) (eC (.int 0))) [some (.scr ns), some (.int k), some (.int many), none, none, none, none] = .ok (.int z) := by
    by_cases e : ns = []
    · subst e
      exact ⟨0, by simp [en]⟩
    · have hl : 0 < ns.length := List.length_pos_iff.2 e
      have hl2 : 0 < (ns.length : Int) := by omega
      have q1 : 0 ≤ k % (ns.length : Int) := Int.emod_nonneg _ (by omega)
      have q2 : k % (ns.length : Int) < ns.length := Int.emod_lt_of_pos _ hl2
      obtain ⟨z, hz⟩ : ∃ z, atI ns (k % (ns.length : Int)) = some z := by
        rw [atN ns _ q1 q2, List.getElem?_eq_getElem (by omega)]
        exact ⟨_, rfl⟩
      have hd : ns.isEmpty = false := by simp [e]
      exact ⟨z, by simp [en, hd, hl, hz]⟩
  obtain ⟨L, hL⟩ : ∃ L : Int, L = if (1 : Int) > (ns.length : Int) then 1 else (ns.length : Int) := ⟨_, rfl⟩
  have L0 : 0 < L := by rw [hL]; split <;> omega
  have L1 : L ≤ 10 ^ 30 := by rw [hL]; split <;> omega
  have q3 : 0 ≤ k / L := Int.ediv_nonneg hk (by omega)
  have q4 : k / L ≤ 10000 := Int.le_trans (Int.ediv_le_self _ hk) hk2
  have gm : gMax [.int (ns.length : Nat), .int 1] = some (.int L) := by rw [r_max2, hL]
  have go : ∃ v, S__law_pick [some (.scr ns), some (.int k), some (.int many), none, none, none, none] = .ok (.rt (.int v)) ∧ 0 ≤ v ∧ v < many := by
    unfold S__law_pick
    obtain ⟨ρ', ew, t', r', rfl⟩ := while_m (C := (cAnd (cE (eBin dGt (eVar 4) (eC (.int 0)))) (cE (eBin dGt (eVar 5) (eC (.int 0)))))) (S := (sAsg [] (tg2 4 5) (eTup (aCons (eBin dDiv (eVar 4) (eC (.int 840))) (aCons (eBin dSub (eVar 5) (eC (.int 1))) aNil)))))
      (fun n ρ => ∃ t r, ρ = [some (.scr ns), some (.int k), some (.int many), some (.int z), some (.int r), some (.int t), none] ∧ n = t.toNat)
      (fun ρ => ∃ t r, ρ = [some (.scr ns), some (.int k), some (.int many), some (.int z), some (.int r), some (.int t), none])
      (by
        rintro n ρ ⟨t, r, rfl, hn⟩
        by_cases c1 : 0 < r
        · by_cases c2 : 0 < t
          · right
            exact ⟨[some (.scr ns), some (.int k), some (.int many), some (.int z), some (.int (r / 840)), some (.int (t - 1)), none], (t - 1).toNat, by simp [c1, c2], by simp, by omega, _, _, rfl, rfl⟩
          · left
            exact ⟨by simp [c1, c2], _, _, rfl⟩
        · left
          exact ⟨by simp [c1], _, _, rfl⟩)
      100000 (k / L).toNat [some (.scr ns), some (.int k), some (.int many), some (.int z), some (.int (z / 10 ^ 18)), some (.int (k / L)), none] (by omega) ⟨_, _, rfl, rfl⟩
    have s1 : ∀ (U : Sl → Rs Out) (r : Rs Out), U [some (.scr ns), some (.int k), some (.int many), some (.int z), some (.int r'), some (.int t'), none] = r → (seqS (sAsg [] (tgName 3) (eIf (cE (eBin dNe (eVar 0) (eLst aNil))) (eBin dIx (eVar 0) (eBin dMod (eVar 1) (eCall gLen (aCons (eVar 0) aNil)))) (eC (.int 0))))
    (seqS (sAsg [] (tg2 4 5) (eTup (aCons (eBin dDiv (eVar 3) (eBin dPow (eC (.int 10)) (eC (.int 18)))) (aCons (eBin dDiv (eVar 1) (eCall gMax (aCons (eCall gLen (aCons (eVar 0) aNil)) (aCons (eC (.int 1)) aNil)))) aNil))))
    (seqS (sWhile 100000 (cAnd (cE (eBin dGt (eVar 4) (eC (.int 0)))) (cE (eBin dGt (eVar 5) (eC (.int 0))))) (sAsg [] (tg2 4 5) (eTup (aCons (eBin dDiv (eVar 4) (eC (.int 840))) (aCons (eBin dSub (eVar 5) (eC (.int 1))) aNil))))) U))) [some (.scr ns), some (.int k), some (.int many), none, none, none, none] = r := by
      intro U r hU
      refine seq_nx (ρ' := [some (.scr ns), some (.int k), some (.int many), some (.int z), none, none, none]) (by
        simp only [r_sAsg, r_wipe0, hz, bd_ok]
        rfl) ?_
      refine seq_nx (ρ' := [some (.scr ns), some (.int k), some (.int many), some (.int z), some (.int (z / 10 ^ 18)), some (.int (k / L)), none]) (by
        have l1 : (eCall gMax (aCons (eCall gLen (aCons (eVar 0) aNil)) (aCons (eC (.int 1)) aNil))) [some (.scr ns), some (.int k), some (.int many), some (.int z), none, none, none] = .ok (.int L) := by
          have : gLen [.scr ns] = some (.int (ns.length : Nat)) := rfl
          simp only [r_eCall, r_aCons, r_aNil, r_eVar, List.getElem?_cons_zero, bd_ok, this, r_eC, of_so, gm]
        simp only [r_sAsg, r_wipe0, r_eTup, r_aCons, r_aNil, r_eBin, l1]
        simp at L1
        simp [L0, L1]) ?_
      refine seq_nx ?_ hU
      rw [r_sWhile]
      exact ew
    by_cases c2 : 0 < r'
    · refine ⟨r' % 840 % many, s1 _ _ ?_, Int.emod_nonneg _ (by omega), Int.emod_lt_of_pos _ hm⟩
      simp [c2, hm]
    · have b1 : ∀ z : Int, -(2 ^ 64) < z % 2147483399 ∧ z % 2147483399 < 2 ^ 64 := fun z => by omega
      simp at b1
      refine ⟨((z * 31 + 6151 * (k + 1)) * 40692 % 2147483399 * ((z * 31 + 6151 * (k + 1)) * 40692 % 2147483399) + (z * 31 + 6151 * (k + 1)) * 40692 % 2147483399 / 31) % 2147483629 % many, s1 _ _ ?_, Int.emod_nonneg _ (by omega), Int.emod_lt_of_pos _ hm⟩
      simp [c2, hm, b1]
  obtain ⟨v, e, hv⟩ := go
  refine ⟨v, ?_, hv⟩
  rw [m__law_pick, run3]
  have : initD 7 [.scr ns, .int k, .int many] = [some (.scr ns), some (.int k), some (.int many), none, none, none, none] := rfl
  rw [this, e]
  rfl
theorem ev_rule2 (ns : List Int) (hns : ns.length ≤ 63) (a : Int) (ha : 0 ≤ a) (ha2 : a ≤ 1000) : ∃ r, m__law_rule [.scr ns, .int a] = .ok (encR r) ∧ VR r := by
  obtain ⟨v, e, v0, v1⟩ := ev_pick ns hns a 3 ha (by omega) (by omega)
  obtain ⟨w, e2, w0, w1⟩ := ev_pick ns hns (a + 1) 3 (by omega) (by omega) (by omega)
  refine ⟨(1 + v, 1 + w), ?_, ?_⟩
  · rw [m__law_rule, S__law_rule]
    simp [initD, e, e2, encR]
  · exact ⟨by simp only; omega, by simp only; omega⟩
structure DE (d : Doc) (n : Nat) : Prop where
  ne : d ≠ []
  ln : d.length ≤ n
  li : ∀ b ∈ d, 1 ≤ b.1 ∧ b.1 ≤ 5
theorem siz_le5 : ∀ {d : Doc}, (∀ b ∈ d, 1 ≤ b.1 ∧ b.1 ≤ 5) → siz d ≤ 5 * d.length
  | [], _ => by simp [siz]
  | b :: d, h => by
    have h1 := h b (by simp)
    have h2 := siz_le5 (d := d) fun c hc => h c (by simp [hc])
    rw [siz_cons]; simp; omega
theorem DE.vd {d : Doc} {n : Nat} (h : DE d n) (hn : n ≤ 8) : VD d := by
  have := siz_le5 h.li
  have := h.ln
  exact ⟨h.ne, by omega, fun b hb => by have := h.li b hb; omega, by omega⟩
theorem pk_mark {v : Int} (h0 : 0 ≤ v) (h6 : v < 5) : ∃ m : Mk, atI [D.str "", .str "", .str "", .str "solid", .str "head"] v = some (.str m.s) := by
  obtain rfl | rfl | rfl | rfl | rfl : v = 0 ∨ v = 1 ∨ v = 2 ∨ v = 3 ∨ v = 4 := by omega
  · exact ⟨.pl, rfl⟩
  · exact ⟨.pl, rfl⟩
  · exact ⟨.pl, rfl⟩
  · exact ⟨.so, rfl⟩
  · exact ⟨.he, rfl⟩
theorem ev_paper (ns : List Int) (hns : ns.length ≤ 63) (a : Int) (w : Nat) (ha : 0 ≤ a) (ha2 : a ≤ 1000) (hw : 0 < w) (hw2 : w ≤ 8) : ∃ d, m__law_paper [.scr ns, .int a, .int w] = .ok (encDoc d) ∧ DE d w := by
  obtain ⟨v, e, v0, vw⟩ := ev_pick ns hns a w ha (by omega) (by omega)
  have b1 : -1000000 ≤ 1 + v := by omega
  have b2 : 1 + v ≤ 1000000 := by omega
  have go : ∃ d, S__law_paper [some (.scr ns), some (.int a), some (.int w), none, none, none] = .ok (.rt (encDoc d)) ∧ DE d w := by
    obtain ⟨ρ', g, d, x, y, rfl, hl, hb⟩ := for_rel (T := tgName 4) (S := (seqS (sAsg [3] (tgName 5) (eBin dIx (eTup (aCons (eC (.str "")) (aCons (eC (.str "")) (aCons (eC (.str "")) (aCons (eC (.str "solid")) (aCons (eC (.str "head")) aNil)))))) (eF m__law_pick (aCons (eVar 0) (aCons (eBin dAdd (eBin dAdd (eVar 1) (eC (.int 1))) (eBin dMul (eC (.int 2)) (eVar 4))) (aCons (eC (.int 5)) aNil))))))
    (sApp [3] 3 (aCons (eTup (aCons (eBin dAdd (eC (.int 1)) (eF m__law_pick (aCons (eVar 0) (aCons (eBin dAdd (eBin dAdd (eVar 1) (eC (.int 2))) (eBin dMul (eC (.int 2)) (eVar 4))) (aCons (eC (.int 5)) aNil))))) (aCons (eVar 5) aNil))) aNil)))) D.int (fun t ρ => ∃ (d : Doc) (x y : Option D), ρ = [some (.scr ns), some (.int a), some (.int w), some (.lst (d.map encB)), x, y] ∧ ((d.length : Int) + (t.length : Int) = 1 + v ∧ ∀ k ∈ t, 0 ≤ k ∧ k < 1 + v) ∧ ∀ b ∈ d, 1 ≤ b.1 ∧ b.1 ≤ 5) (rgI 0 (1 + v)) [some (.scr ns), some (.int a), some (.int w), some (.lst []), none, none] (by
        rintro k t ρ ⟨d, x, y, rfl, ⟨hl, hk⟩, hb⟩
        have hk1 := hk k (by simp)
        obtain ⟨v1, e1, p1, q1⟩ := ev_pick ns hns (a + 1 + 2 * k) 5 (by omega) (by omega) (by omega)
        obtain ⟨v2, e2, p2, q2⟩ := ev_pick ns hns (a + 2 + 2 * k) 5 (by omega) (by omega) (by omega)
        obtain ⟨m, f1⟩ := pk_mark p1 q1
        have bl : d.length < 1000000 := by simp at hl; omega
        refine ⟨_, [some (.scr ns), some (.int a), some (.int w), some (.lst ((d ++ [(1 + v2, m)]).map encB)), some (.int k), some (.str m.s)], rfl, ?_, d ++ [(1 + v2, m)], _, _, rfl, ⟨by simp at hl ⊢; omega, fun j hj => hk j (by simp [hj])⟩, fun b hb2 => ?_⟩
        · simp [e1, e2, f1, bl, encB]
        · rw [List.mem_append] at hb2
          obtain hb2 | hb2 := hb2
          · exact hb b hb2
          · simp at hb2; subst hb2; exact ⟨by simp only; omega, by simp only; omega⟩) ⟨[], none, none, rfl, ⟨by rw [rgI_len]; simp; omega, fun k hk => mem_rgI.1 hk⟩, by simp⟩
    refine ⟨d, ?_, ?_, ?_, hb⟩
    · unfold S__law_paper
      refine seq_nx (by simp; rfl) ?_
      refine seq_forE (by simp [e, b1, b2]) g ?_
      simp [encDoc]
    · intro c; subst c; simp at hl; omega
    · simp at hl; omega
  obtain ⟨d, e, hd⟩ := go
  refine ⟨d, ?_, hd⟩
  rw [m__law_paper, run3]
  have : initD 6 [.scr ns, .int a, .int w] = [some (.scr ns), some (.int a), some (.int w), none, none, none] := rfl
  rw [this, e]
  rfl
end LW

namespace LW
open PySem PB L2
/-! ### texts of documents -/
def Mk.x : Mk → Str
  | .pl => "" | .so => "s" | .he => "h"
def bt (b : Int × Mk) : Str := Str.ofString (toString b.1) ++ b.2.x
theorem bt_text {b : Int × Mk} (h : 1 ≤ b.1 ∧ b.1 ≤ 5) : m_block_text [encB b] = .ok (.str (bt b)) := by
  obtain ⟨l, m⟩ := b
  have h1 : l = 1 ∨ l = 2 ∨ l = 3 ∨ l = 4 ∨ l = 5 := by simp at h; omega
  rcases h1 with rfl | rfl | rfl | rfl | rfl <;> cases m <;> kernel_rfl
theorem bt_read {b : Int × Mk} (h : 1 ≤ b.1 ∧ b.1 ≤ 5) : m_read_block [.str (bt b)] = .ok (encB b) := by
  obtain ⟨l, m⟩ := b
  have h1 : l = 1 ∨ l = 2 ∨ l = 3 ∨ l = 4 ∨ l = 5 := by simp at h; omega
  rcases h1 with rfl | rfl | rfl | rfl | rfl <;> cases m <;> kernel_rfl
theorem bt_law {b : Int × Mk} (h : 1 ≤ b.1 ∧ b.1 ≤ 5) : gStr [.int b.1] = some (.str (Str.ofString (toString b.1))) ∧ dCutS none (some 1) (.str b.2.s) = some (.str b.2.x) ∧ dAdd (.str (Str.ofString (toString b.1))) (.str b.2.x) = some (.str (bt b)) := by
  obtain ⟨l, m⟩ := b
  have h1 : l = 1 ∨ l = 2 ∨ l = 3 ∨ l = 4 ∨ l = 5 := by simp at h; omega
  rcases h1 with rfl | rfl | rfl | rfl | rfl <;> cases m <;> exact ⟨by kernel_rfl, by kernel_rfl, by kernel_rfl⟩
theorem bt_ok {b : Int × Mk} (h : 1 ≤ b.1 ∧ b.1 ≤ 5) : (bt b).length ≤ 2 ∧ PyData.strOk (bt b) = true ∧ 32 ∉ TL.tl (bt b) := by
  obtain ⟨l, m⟩ := b
  have h1 : l = 1 ∨ l = 2 ∨ l = 3 ∨ l = 4 ∨ l = 5 := by simp at h; omega
  rcases h1 with rfl | rfl | rfl | rfl | rfl <;> cases m <;> exact ⟨by decide +kernel, by decide +kernel, by decide +kernel⟩
def tx (d : Doc) : Str := Txt.join " " (d.map bt)
theorem ok_sp : PyData.strOk (" " : Str) = true := by decide +kernel
theorem sp_len : (" " : Str).length = 1 := by decide +kernel
theorem tx_ok {d : Doc} (h : ∀ b ∈ d, 1 ≤ b.1 ∧ b.1 ≤ 5) : PyData.strOk (tx d) = true := join_ok ok_sp fun w hw => by
  obtain ⟨b, hb, rfl⟩ := List.mem_map.1 hw
  exact (bt_ok (h b hb)).2.1
theorem tx_join {d : Doc} (h : ∀ b ∈ d, 1 ≤ b.1 ∧ b.1 ≤ 5) (hl : d.length ≤ 8) : dJoin (.str " ") (.lst (d.map fun b => .str (bt b))) = some (.str (tx d)) :=
  dJoin_map (n := 2) (fun b hb => (bt_ok (h b hb)).1) (by rw [sp_len]; omega)
theorem tx_split {d : Doc} (h : ∀ b ∈ d, 1 ≤ b.1 ∧ b.1 ≤ 5) (hl : d.length ≤ 8) (hn : d ≠ []) : dSplit (.str (tx d)) (.str " ") = some (.lst (d.map fun b => .str (bt b))) := by
  have e := dSplit_join (y := " ") (c := 32) (ws := d.map bt) (n := 2) (by decide +kernel) (by decide +kernel) (by simp [hn]) (fun p hp => by
    obtain ⟨b, hb, rfl⟩ := List.mem_map.1 hp
    exact (bt_ok (h b hb)).2.2) (fun p hp => by
    obtain ⟨b, hb, rfl⟩ := List.mem_map.1 hp
    exact (bt_ok (h b hb)).1) (by rw [sp_len, List.length_map]; omega)
  rw [List.map_map] at e
  exact e
theorem ev_document_text {d : Doc} (h : ∀ b ∈ d, 1 ≤ b.1 ∧ b.1 ≤ 5) (hl : d.length ≤ 8) : m_document_text [encDoc d] = .ok (.str (tx d)) := by
  have e := lc_map (T := tgName 1) (C := cYes) (E := (eF m_block_text (aCons (eVar 1) aNil))) (ρ := [some (encDoc d), none]) encB (fun b => .str (bt b)) d fun b hb => by
    have := bt_text (h b hb)
    simp [this]
  have b1 : d.length ≤ 1000000 := by omega
  rw [m_document_text, S_document_text]
  simp [initD, encDoc, b1] at e ⊢
  simp [e, tx_join h hl]
theorem ev_format_document {d : Doc} (hd : VD d) (h : ∀ b ∈ d, 1 ≤ b.1 ∧ b.1 ≤ 5) : m_format_document [encDoc d] = .ok (.str (tx d)) := by
  have e1 := ev_check_document hd
  have e2 := ev_document_text h hd.ln
  rw [m_format_document, S_format_document]
  simp [initD, e1, e2]
theorem ev_check_text (x : Str) : m_check_text [.str x] = .ok .non := by
  rw [m_check_text, S_check_text]
  simp [initD, dIsi]
theorem ev_parse_document {d : Doc} (hd : VD d) (h : ∀ b ∈ d, 1 ≤ b.1 ∧ b.1 ≤ 5) : m_parse_document [.str (tx d)] = .ok (encDoc d) := by
  have e0 := ev_check_text (tx d)
  have es := tx_split h hd.ln hd.ne
  have ed := ev_is_document hd
  have et := ev_document_text h hd.ln
  have en := dNe_s (tx_ok h) (tx_ok h)
  have b1 : d.length ≤ 1000000 := by have := hd.ln; omega
  have e := lc_map (T := tgName 2) (C := cYes) (E := (eF m_read_block (aCons (eVar 2) aNil))) (ρ := [some (.str (tx d)), none, none]) (fun b => .str (bt b)) encB d fun b hb => by
    have := bt_read (h b hb)
    simp [this]
  rw [m_parse_document, S_parse_document]
  simp [initD] at e ⊢
  simp [e0, es, b1, e]
  simp [encDoc] at ed et
  simp [gTuple, ed, et, en, encDoc]
end LW

namespace LW
open PySem PB L2
/-! ### texts of paginations -/
def cums : Int → List Int → List Int
  | _, [] => []
  | p, g :: gs => (p + g) :: cums (p + g) gs
theorem gaps_cums : ∀ (us : List Int) (p : Int), gaps p (cums p us) = us
  | [], _ => rfl
  | u :: us, p => by
    show (p + u - p) :: gaps (p + u) (cums (p + u) us) = _
    rw [gaps_cums us]
    congr 1
    omega
theorem cums_gaps : ∀ (c : List Int) (p : Int), cums p (gaps p c) = c
  | [], _ => rfl
  | x :: c, p => by
    show (p + (x - p)) :: cums (p + (x - p)) (gaps x c) = _
    have e : p + (x - p) = x := by omega
    rw [e, cums_gaps c]
theorem cums_len : ∀ (us : List Int) (p : Int), (cums p us).length = us.length
  | [], _ => rfl
  | u :: us, p => by
    show (cums (p + u) us).length + 1 = _
    rw [cums_len us]
    rfl
theorem cums_snoc : ∀ (us : List Int) (p u : Int), ∃ a, cums p (us ++ [u]) = a ++ [p + us.sum + u]
  | [], p, u => ⟨[], by simp [cums]⟩
  | v :: us, p, u => by
    obtain ⟨a, e⟩ := cums_snoc us (p + v) u
    refine ⟨(p + v) :: a, ?_⟩
    show (p + v) :: cums (p + v) (us ++ [u]) = _
    rw [e]
    simp [Int.add_assoc]
theorem gaps_sum : ∀ (c : List Int) (p S : Int), c.getLast? = some S → (gaps p c).sum = S - p
  | [], _, _, h => by simp at h
  | [x], p, S, h => by
    simp at h
    subst h
    simp [gaps]
  | x :: y :: c, p, S, h => by
    have ih := gaps_sum (y :: c) x S (by simpa using h)
    show (x - p) + (gaps x (y :: c)).sum = _
    rw [ih]
    omega
def pw (g : Int) : Str := Str.ofString (toString g)
theorem pw_ok {g : Int} (h : 1 ≤ g ∧ g ≤ 8) : (pw g).length = 1 ∧ PyData.strOk (pw g) = true ∧ 43 ∉ TL.tl (pw g) := by
  have h1 : g = 1 ∨ g = 2 ∨ g = 3 ∨ g = 4 ∨ g = 5 ∨ g = 6 ∨ g = 7 ∨ g = 8 := by omega
  rcases h1 with rfl | rfl | rfl | rfl | rfl | rfl | rfl | rfl <;> exact ⟨by decide +kernel, by decide +kernel, by decide +kernel⟩
theorem pw_read {g : Int} (h : 1 ≤ g ∧ g ≤ 8) : gStr [.int g] = some (.str (pw g)) ∧ m_read_number [.str (pw g)] = .ok (.int g) ∧ m_read_number [.str (pw g ++ " ")] = .ok .non ∧ m_read_number [.str ("0" ++ pw g)] = .ok (.int g) := by
  have h1 : g = 1 ∨ g = 2 ∨ g = 3 ∨ g = 4 ∨ g = 5 ∨ g = 6 ∨ g = 7 ∨ g = 8 := by omega
  rcases h1 with rfl | rfl | rfl | rfl | rfl | rfl | rfl | rfl <;> exact ⟨by kernel_rfl, by kernel_rfl, by kernel_rfl, by kernel_rfl⟩
theorem ok_plus : PyData.strOk ("+" : Str) = true := by decide +kernel
theorem plus_len : ("+" : Str).length = 1 := by decide +kernel
def px (us : List Int) : Str := Txt.join "+" (us.map pw)
theorem px_ok {us : List Int} (h : ∀ g ∈ us, 1 ≤ g ∧ g ≤ 8) : PyData.strOk (px us) = true := join_ok ok_plus fun w hw => by
  obtain ⟨b, hb, rfl⟩ := List.mem_map.1 hw
  exact (pw_ok (h b hb)).2.1
theorem px_join {us : List Int} (h : ∀ g ∈ us, 1 ≤ g ∧ g ≤ 8) (hl : us.length ≤ 100) : dJoin (.str "+") (.lst (us.map fun g => .str (pw g))) = some (.str (px us)) :=
  dJoin_map (n := 2) (fun b hb => by have := (pw_ok (h b hb)).1; omega) (by rw [plus_len]; omega)
theorem prs_len : ∀ (c : List Int) (p : Int), (prs p c).length = c.length
  | [], _ => rfl
  | x :: c, p => by
    show (prs x c).length + 1 = _
    rw [prs_len c]
    rfl
theorem ev_pagination_text {c : List Int} (h : ∀ g ∈ gaps 0 c, 1 ≤ g ∧ g ≤ 8) (hl : c.length ≤ 100) : m_pagination_text [.tup (c.map .int)] = .ok (.str (px (gaps 0 c))) := by
  have ez : zipT (.int 0 :: c.map .int) (c.map .int) = (prs 0 c).map encP := by
    have := zipT_int (0 :: c) c
    rw [List.map_cons] at this
    rw [this, prs_zip]
  have e := lc_map (T := (tgTup (tgCons (tgName 1) (tgCons (tgName 2) tgNil)))) (C := cYes) (E := (eCall gStr (aCons (eBin dSub (eVar 2) (eVar 1)) aNil))) (ρ := [some (.tup (c.map .int)), none, none]) encP (fun q => .str (pw (q.2 - q.1))) (prs 0 c) fun q hq => by
    have := pw_read (h (q.2 - q.1) (by rw [← prs_gaps]; exact List.mem_map.2 ⟨q, hq, rfl⟩))
    simp [encP, this.1]
  have eg : (prs 0 c).map (fun q => D.str (pw (q.2 - q.1))) = (gaps 0 c).map fun g => D.str (pw g) := by rw [← prs_gaps, List.map_map]; rfl
  have b1 : (prs 0 c).length ≤ 1000000 := by rw [prs_len]; omega
  have b2 : 1 + c.length ≤ 1000000 := by omega
  have ej := px_join h (by rw [← prs_gaps, List.length_map, prs_len]; exact hl)
  rw [m_pagination_text, S_pagination_text]
  simp [initD, b2, ez, b1] at e ⊢
  rw [eg] at e
  simp [e, ej]
def optD : Option Int → D
  | some n => .int n
  | none => .non
theorem optD_not (v : Option Int) : dNotN (optD v) .non = some (.bl v.isSome) := by cases v <;> rfl
theorem ev_parse {d : Doc} {r : Rul} {h : Int} (hd : VD d) (g : VR r) (hh : 1 ≤ h ∧ h ≤ 8) (wv : List (Str × Option Int)) (hne : wv ≠ []) (hl : wv.length ≤ 100) (hw : ∀ p ∈ wv, m_read_number [.str p.1] = .ok (optD p.2) ∧ p.1.length ≤ 3 ∧ 43 ∉ TL.tl p.1 ∧ PyData.strOk p.1 = true) :
    m_parse_pagination [encDoc d, encR r, .int h, .str (Txt.join "+" (wv.map Prod.fst))] = if Pag (ends r d) (siz d) h (cums 0 (wv.map fun p => p.2.getD 0)) ∧ px (wv.map fun p => p.2.getD 0) = Txt.join "+" (wv.map Prod.fst) then .ok (.tup ((cums 0 (wv.map fun p => p.2.getD 0)).map .int)) else .ex x_ParseError := by
  have e1 := ev_check_three (k := h) hd g ⟨hh.1, by omega⟩
  have e2 := ev_check_text (Txt.join "+" (wv.map Prod.fst))
  have es := dSplit_join (y := "+") (c := 43) (ws := wv.map Prod.fst) (n := 3) (by decide +kernel) (by decide +kernel) (by simp [hne]) (fun p hp => by
    obtain ⟨b, hb, rfl⟩ := List.mem_map.1 hp
    exact (hw b hb).2.2.1) (fun p hp => by
    obtain ⟨b, hb, rfl⟩ := List.mem_map.1 hp
    exact (hw b hb).2.1) (by rw [plus_len, List.length_map]; omega)
  have ok := join_ok (ws := wv.map Prod.fst) ok_plus fun w hw' => by
    obtain ⟨b, hb, rfl⟩ := List.mem_map.1 hw'
    exact (hw b hb).2.2.2
  generalize Txt.join "+" (wv.map Prod.fst) = t at *
  have ef : ∃ ρ', forL (tgName 6) (seqS (sAsg [] (tgName 7) (eF m_read_number (aCons (eVar 6) aNil)))
    (seqS (sAsg [] (tgName 5) (eBin dAdd (eVar 5) (eIf (cE (eBin dNotN (eVar 7) (eC .non))) (eVar 7) (eC (.int 0)))))
    (sAsg [] (tgName 4) (eBin dAdd (eVar 4) (eTup (aCons (eVar 5) aNil)))))) (wv.map fun p => .str p.1) [some (encDoc d), some (encR r), some (.int h), some (.str t), some (.tup []), some (.int 0), none, none] = .ok (.nx ρ') ∧ ∃ p x y, ρ' = [some (encDoc d), some (encR r), some (.int h), some (.str t), some (.tup ((cums 0 (wv.map fun p => p.2.getD 0)).map .int)), some (.int p), x, y] := by
    obtain ⟨ρ', q1, acc, p, x, y, rfl, q2, q3, q4⟩ := for_rel (T := tgName 6) (S := seqS (sAsg [] (tgName 7) (eF m_read_number (aCons (eVar 6) aNil)))
      (seqS (sAsg [] (tgName 5) (eBin dAdd (eVar 5) (eIf (cE (eBin dNotN (eVar 7) (eC .non))) (eVar 7) (eC (.int 0)))))
      (sAsg [] (tgName 4) (eBin dAdd (eVar 4) (eTup (aCons (eVar 5) aNil)))))) (fun p : Str × Option Int => D.str p.1) (fun t' ρ => ∃ (acc : List Int) (p : Int) (x y : Option D), ρ = [some (encDoc d), some (encR r), some (.int h), some (.str t), some (.tup (acc.map .int)), some (.int p), x, y] ∧ acc ++ cums p (t'.map fun p => p.2.getD 0) = cums 0 (wv.map fun p => p.2.getD 0) ∧ (∀ p ∈ t', p ∈ wv) ∧ acc.length + t'.length ≤ 100) wv [some (encDoc d), some (encR r), some (.int h), some (.str t), some (.tup []), some (.int 0), none, none] (by
        rintro q t' ρ ⟨acc, p, x, y, rfl, q2, q3, q4⟩
        have hr := (hw q (q3 q (by simp))).1
        have hb : acc.length + 1 ≤ 1000000 := by simp at q4; omega
        obtain ⟨w, v⟩ := q
        refine ⟨_, [some (encDoc d), some (encR r), some (.int h), some (.str t), some (.tup ((acc ++ [p + v.getD 0]).map .int)), some (.int (p + v.getD 0)), some (.str w), some (optD v)], rfl, ?_, acc ++ [p + v.getD 0], _, _, _, rfl, ?_, fun z hz => q3 z (by simp [hz]), by simp at q4 ⊢; omega⟩
        · cases v with
          | none =>
            have n1 := optD_not none
            simp at hr
            simp [hr, n1, hb, optD] at n1 ⊢
          | some n =>
            have n1 := optD_not (some n)
            simp at hr
            simp [hr, n1, hb, optD] at n1 ⊢
        · rw [← q2]
          simp [cums]) ⟨[], 0, none, none, rfl, rfl, fun z hz => hz, by simpa using hl⟩
    refine ⟨_, q1, p, x, y, ?_⟩
    simp only [List.map_nil, cums, List.append_nil] at q2
    rw [q2]
  obtain ⟨ρ', q1, p, x, y, rfl⟩ := ef
  have eh := ev_has_pagination hd g h (cums 0 (wv.map fun p => p.2.getD 0)) (by rw [cums_len, List.length_map]; omega)
  have go : S_parse_pagination [some (encDoc d), some (encR r), some (.int h), some (.str t), none, none, none, none] = if Pag (ends r d) (siz d) h (cums 0 (wv.map fun p => p.2.getD 0)) ∧ px (wv.map fun p => p.2.getD 0) = t then .ok (.rt (.tup ((cums 0 (wv.map fun p => p.2.getD 0)).map .int))) else .ex x_ParseError := by
    unfold S_parse_pagination
    refine seq_nx (by simp [e1]; rfl) ?_
    refine seq_nx (by simp [e2]; rfl) ?_
    refine seq_nx (by simp; rfl) ?_
    refine seq_forE (ds := wv.map fun p => .str p.1) (by simp [es]) q1 ?_
    by_cases hp : Pag (ends r d) (siz d) h (cums 0 (wv.map fun p => p.2.getD 0))
    · have hg : ∀ z ∈ wv.map (fun p => p.2.getD 0), 1 ≤ z ∧ z ≤ 8 := fun z hz => by
        have := hp.2.2.2 z (by rw [gaps_cums]; exact hz)
        omega
      have et := ev_pagination_text (c := cums 0 (wv.map fun p => p.2.getD 0)) (by rw [gaps_cums]; exact hg) (by rw [cums_len, List.length_map]; exact hl)
      rw [gaps_cums] at et
      have en := dNe_s (px_ok hg) ok
      rw [decide_eq_true hp] at eh
      by_cases hx : px (wv.map fun p => p.2.getD 0) = t
      · rw [if_pos ⟨hp, hx⟩]
        have hb : (px (wv.map fun p => p.2.getD 0) == t) = true := by rw [hx]; exact beq_self_eq_true t
        rw [hb] at en
        simp [eh, et, en]
      · rw [if_neg (fun z => hx z.2)]
        have hb : (px (wv.map fun p => p.2.getD 0) == t) = false := by simpa using hx
        rw [hb] at en
        simp [eh, et, en]
    · rw [if_neg (fun z => hp z.1)]
      rw [decide_eq_false hp] at eh
      simp [eh]
  rw [m_parse_pagination, run4]
  have e0 : initD 8 [encDoc d, encR r, .int h, .str t] = [some (encDoc d), some (encR r), some (.int h), some (.str t), none, none, none, none] := rfl
  rw [e0, go]
  split <;> rfl
end LW

namespace LW
open PySem PB L2
/-! ### what is read back, and what is not -/
theorem rn_no : m_read_number [.str ""] = .ok .non ∧ m_read_number [.str "1a"] = .ok .non ∧ m_read_number [.str "0"] = .ok (.int 0) ∧ m_read_number [.str "1"] = .ok (.int 1) := ⟨by kernel_rfl, by kernel_rfl, by kernel_rfl, by kernel_rfl⟩
theorem no_zero {l us : List Int} {S h : Int} (hz : 0 ∈ us) : ¬ Pag l S h (cums 0 us) := fun P => by
  have := P.2.2.2 0 (by rw [gaps_cums]; exact hz)
  omega
def wv0 (us : List Int) : List (Str × Option Int) := us.map fun g => (pw g, some g)
theorem wv_fst (us : List Int) : (wv0 us).map Prod.fst = us.map pw := by simp [wv0]
theorem wv_snd (us : List Int) : (wv0 us).map (fun p => p.2.getD 0) = us := by
  rw [wv0, List.map_map]
  exact List.map_id us
section
variable {d : Doc} {r : Rul} {h : Int} {c : List Int} (hd : VD d) (g : VR r) (hh : 1 ≤ h ∧ h ≤ 8) (hp : Pag (ends r d) (siz d) h c) (hl : c.length ≤ 40)
theorem gap8 (hh : 1 ≤ h ∧ h ≤ 8) (hp : Pag (ends r d) (siz d) h c) : ∀ z ∈ gaps 0 c, 1 ≤ z ∧ z ≤ 8 := fun z hz => by
  have := hp.2.2.2 z hz
  omega
theorem gap_len : ∀ (c : List Int) (p : Int), (gaps p c).length = c.length
  | [], _ => rfl
  | x :: c, p => by
    show (gaps x c).length + 1 = _
    rw [gap_len c]
    rfl
theorem wv_ok {us : List Int} (h8 : ∀ z ∈ us, 1 ≤ z ∧ z ≤ 8) : ∀ p ∈ wv0 us, m_read_number [.str p.1] = .ok (optD p.2) ∧ p.1.length ≤ 3 ∧ 43 ∉ TL.tl p.1 ∧ PyData.strOk p.1 = true := fun p hp => by
  obtain ⟨z, hz, rfl⟩ := List.mem_map.1 hp
  have h1 := pw_ok (h8 z hz)
  have h2 := pw_read (h8 z hz)
  exact ⟨h2.2.1, by simp only; omega, h1.2.2, h1.2.1⟩
include hd g hh hp hl
theorem ev_parse_row : m_parse_pagination [encDoc d, encR r, .int h, .str (px (gaps 0 c))] = .ok (.tup (c.map .int)) := by
  have h8 := gap8 hh hp
  have e := ev_parse hd g hh (wv0 (gaps 0 c)) (by
    intro z
    have := congrArg List.length z
    rw [wv0, List.length_map, gap_len] at this
    exact hp.1 (List.length_eq_zero_iff.1 this)) (by rw [wv0, List.length_map, gap_len]; omega) (wv_ok h8)
  rw [wv_fst, wv_snd, cums_gaps] at e
  rw [if_pos ⟨hp, rfl⟩] at e
  exact e
/-- one more word ahead that tells nothing or 0 -/
theorem ev_parse_ahead {w : Str} {v : Option Int} (hv : v.getD 0 = 0) (hw : m_read_number [.str w] = .ok (optD v)) (w3 : w.length ≤ 3) (w4 : 43 ∉ TL.tl w) (w5 : PyData.strOk w = true) : m_parse_pagination [encDoc d, encR r, .int h, .str (w ++ "+" ++ px (gaps 0 c))] = .ex x_ParseError := by
  have h8 := gap8 hh hp
  have ne : (gaps 0 c).map pw ≠ [] := by
    intro z
    have := congrArg List.length z
    rw [List.length_map, gap_len] at this
    exact hp.1 (List.length_eq_zero_iff.1 this)
  have e := ev_parse hd g hh ((w, v) :: wv0 (gaps 0 c)) (by simp) (by rw [List.length_cons, wv0, List.length_map, gap_len]; omega) (fun p hp' => by
    rcases List.mem_cons.1 hp' with rfl | hp'
    · exact ⟨hw, w3, w4, w5⟩
    · exact wv_ok h8 p hp')
  rw [List.map_cons, List.map_cons, wv_fst, wv_snd, join_cons ne] at e
  rw [if_neg (fun z => no_zero (by rw [hv]; simp) z.1)] at e
  exact e
/-- one more word behind -/
theorem ev_parse_behind {w : Str} {v : Option Int} (hv : v.getD 0 = 0 ∨ v.getD 0 = 1) (hw : m_read_number [.str w] = .ok (optD v)) (w3 : w.length ≤ 3) (w4 : 43 ∉ TL.tl w) (w5 : PyData.strOk w = true) : m_parse_pagination [encDoc d, encR r, .int h, .str (px (gaps 0 c) ++ "+" ++ w)] = .ex x_ParseError := by
  have h8 := gap8 hh hp
  have ne : (gaps 0 c).map pw ≠ [] := by
    intro z
    have := congrArg List.length z
    rw [List.length_map, gap_len] at this
    exact hp.1 (List.length_eq_zero_iff.1 this)
  have e := ev_parse hd g hh (wv0 (gaps 0 c) ++ [(w, v)]) (by simp) (by rw [List.length_append, wv0, List.length_map, gap_len]; simp; omega) (fun p hp' => by
    rcases List.mem_append.1 hp' with hp' | hp'
    · exact wv_ok h8 p hp'
    · rw [List.mem_singleton.1 hp']
      exact ⟨hw, w3, w4, w5⟩)
  rw [List.map_append, List.map_append, wv_fst, wv_snd] at e
  simp only [List.map_cons, List.map_nil] at e
  rw [join_snoc ne] at e
  rw [if_neg (fun z => ?_)] at e
  · exact e
  · rcases hv with hv | hv
    · exact no_zero (by rw [hv]; simp) z.1
    · have hla := z.1.2.2.1
      obtain ⟨a, ea⟩ := cums_snoc (gaps 0 c) 0 (v.getD 0)
      have hs := gaps_sum c 0 _ hp.2.2.1
      rw [ea] at hla
      simp at hla
      omega
theorem ev_parse_space : m_parse_pagination [encDoc d, encR r, .int h, .str (px (gaps 0 c) ++ " ")] = .ex x_ParseError := by
  have h8 := gap8 hh hp
  have hn : gaps 0 c ≠ [] := fun z => by
    have := congrArg List.length z
    rw [gap_len] at this
    exact hp.1 (List.length_eq_zero_iff.1 this)
  have hl' : (gaps 0 c).length ≤ 40 := by rw [gap_len]; exact hl
  generalize gaps 0 c = us at *
  obtain ⟨us', u, rfl⟩ : ∃ us' u, us = us' ++ [u] := ⟨us.dropLast, us.getLast hn, (List.dropLast_concat_getLast hn).symm⟩
  have hu := h8 u (by simp)
  have h1 := pw_ok hu
  have h2 := pw_read hu
  have e := ev_parse hd g hh (wv0 us' ++ [(pw u ++ " ", none)]) (by simp) (by rw [List.length_append, wv0, List.length_map]; simp at hl' ⊢; omega) (fun p hp' => by
    rcases List.mem_append.1 hp' with hp' | hp'
    · exact wv_ok (fun z hz => h8 z (by simp [hz])) p hp'
    · rw [List.mem_singleton.1 hp']
      refine ⟨h2.2.2.1, ?_, ?_, ?_⟩
      · rw [tl_len, TL.tl_append, List.length_append, ← tl_len, ← tl_len, sp_len]; omega
      · show 43 ∉ TL.tl (pw u ++ " ")
        rw [TL.tl_append, List.mem_append]
        rintro (z | z)
        · exact h1.2.2 z
        · exact absurd z (by decide +kernel)
      · show PyData.strOk (pw u ++ " ") = true
        rw [strOk_tl, TL.tl_append, List.all_append, ← strOk_tl, ← strOk_tl, h1.2.1, ok_sp]
        rfl)
  rw [List.map_append, List.map_append, wv_fst, wv_snd] at e
  simp only [List.map_cons, List.map_nil] at e
  rw [if_neg (fun z => no_zero (by simp) z.1)] at e
  have ej : px (us' ++ [u]) ++ " " = Txt.join "+" (us'.map pw ++ [pw u ++ " "]) := by
    unfold px
    rw [List.map_append]
    by_cases h0 : us' = []
    · subst h0
      simp only [List.map_nil, List.nil_append, List.map_cons, join_one]
    · have ne : us'.map pw ≠ [] := by simp [h0]
      simp only [List.map_cons, List.map_nil]
      rw [join_snoc ne, join_snoc ne]
      simp only [app_assoc]
  rw [ej]
  exact e
theorem ev_parse_zero : m_parse_pagination [encDoc d, encR r, .int h, .str ("0" ++ px (gaps 0 c))] = .ex x_ParseError := by
  have h8 := gap8 hh hp
  have hn : gaps 0 c ≠ [] := fun z => by
    have := congrArg List.length z
    rw [gap_len] at this
    exact hp.1 (List.length_eq_zero_iff.1 this)
  have hl' : (gaps 0 c).length ≤ 40 := by rw [gap_len]; exact hl
  generalize gaps 0 c = us at *
  obtain ⟨u, us', rfl⟩ : ∃ u us', us = u :: us' := by
    cases us with
    | nil => exact absurd rfl hn
    | cons u us' => exact ⟨u, us', rfl⟩
  have hu := h8 u (by simp)
  have h1 := pw_ok hu
  have h2 := pw_read hu
  have z1 : ("0" : Str).length = 1 := by decide +kernel
  have e := ev_parse hd g hh (("0" ++ pw u, some u) :: wv0 us') (by simp) (by rw [List.length_cons, wv0, List.length_map]; simp at hl' ⊢; omega) (fun p hp' => by
    rcases List.mem_cons.1 hp' with rfl | hp'
    · refine ⟨h2.2.2.2, ?_, ?_, ?_⟩
      · show (("0" : Str) ++ pw u).length ≤ 3
        rw [tl_len, TL.tl_append, List.length_append, ← tl_len, ← tl_len, z1]; omega
      · show 43 ∉ TL.tl ("0" ++ pw u)
        rw [TL.tl_append, List.mem_append]
        rintro (z | z)
        · exact absurd z (by decide +kernel)
        · exact h1.2.2 z
      · show PyData.strOk ("0" ++ pw u) = true
        rw [strOk_tl, TL.tl_append, List.all_append, ← strOk_tl, ← strOk_tl, h1.2.1]
        decide +kernel
    · exact wv_ok (fun z hz => h8 z (by simp [hz])) p hp')
  have ej : "0" ++ px (u :: us') = Txt.join "+" (((("0" : Str) ++ pw u, some u) :: wv0 us').map Prod.fst) := by
    rw [List.map_cons, wv_fst]
    unfold px
    rw [List.map_cons]
    by_cases h0 : us' = []
    · subst h0
      simp only [List.map_nil, join_one]
    · have ne : us'.map pw ≠ [] := by simp [h0]
      rw [join_cons ne, join_cons ne]
      simp only [app_assoc]
  have es : (("0" ++ pw u, some u) :: wv0 us').map (fun p : Str × Option Int => p.2.getD 0) = u :: us' := by
    rw [List.map_cons, wv_snd]
    rfl
  rw [← ej, es] at e
  rw [if_neg (fun z => ?_)] at e
  · exact e
  · have q := congrArg Str.length z.2
    rw [tl_len ("0" ++ px (u :: us')), TL.tl_append, List.length_append, ← tl_len, ← tl_len, z1] at q
    omega
omit hp hl in
theorem ev_parse_empty : m_parse_pagination [encDoc d, encR r, .int h, .str ""] = .ex x_ParseError := by
  have e := ev_parse hd g hh [("", none)] (by simp) (by simp) (fun p hp' => by
    rw [List.mem_singleton.1 hp']
    exact ⟨rn_no.1, by decide +kernel, by decide +kernel, by decide +kernel⟩)
  simp only [List.map_cons, List.map_nil, join_one] at e
  rw [if_neg (fun z => no_zero (by simp) z.1)] at e
  exact e
omit hp hl in
theorem ev_parse_not {x : D} (hx : m_check_text [x] = .ex x_ParseError) : m_parse_pagination [encDoc d, encR r, .int h, x] = .ex x_ParseError := by
  have e1 := ev_check_three (k := h) hd g ⟨hh.1, by omega⟩
  rw [m_parse_pagination, S_parse_pagination]
  simp [initD, e1, hx]
end
end LW

namespace LW
open PySem PB L2
abbrev nmL : List Str := ["script", "i", "paper", "rule", "text", "height", "some", "row", "bad", "value", "lines", "word", "start", "end"]
theorem st0 : statB nmL (defScope s_law) lam_law_0 [3, 2, 5, 8] = true := by decide +kernel
theorem st1 : statB nmL (defScope s_law) lam_law_1 [9] = true := by decide +kernel
theorem key0 : keyL lam_law_0 = 208041 := by decide +kernel
theorem key1 : keyL lam_law_1 = 214033 := by decide +kernel
theorem beta0 (ds : List D) : beta lam_law_0 ds = f_law_0 (ds.map some) := betaT_at key0
theorem beta1 (ds : List D) : beta lam_law_1 ds = f_law_1 (ds.map some) := (betaT_ne key1 rfl).trans (betaT_at key1)
theorem lcw13 : lcW clsL clsW x_ParseError = some "ParseError" := by kernel_rfl
theorem eq_err : dEq (.tup [.str "error", .str "ParseError"]) (.tup [.str "error", .str "ParseError"]) = some (.bl true) := by kernel_rfl
theorem all_pe {L : LamD} {ds : List D} (hn : ndcs ds = true) (hb : beta L ds = .ex x_ParseError) : m__law_all [.lst [.clo L ds], .str "ParseError"] = .ok (.bl true) := by
  have e1 : m__law_result [.clo L ds] = .ok (.tup [.str "error", .str "ParseError"]) := by
    have q : S__law_result [some (.clo L ds), none] = .ok (.rt (.tup [.str "error", .str "ParseError"])) := by
      unfold S__law_result
      refine try_ex (c := x_ParseError) ?_ lcw13
      rw [r_sRet, call_ex hn hb]
      rfl
    rw [m__law_result, run1]
    have : initD 2 [D.clo L ds] = [some (.clo L ds), none] := rfl
    rw [this, q]
    rfl
  have ee := eq_err
  rw [m__law_all, S__law_all]
  simp [initD, lcL, e1, ee, gAll, asBls]
theorem ndc_doc (d : Doc) : ndc (encDoc d) = true := by
  have : ∀ l : Doc, ndcs (l.map encB) = true := fun l => by
    induction l with
    | nil => rfl
    | cons b l ih => simp [ndcs, ih, encB, ndc]
  simp [encDoc, ndc, this]
theorem nd4 (d : Doc) (r : Rul) (h : Int) {x : D} (hx : ndc x = true) : ndcs [encR r, encDoc d, .int h, x] = true := by
  simp [ndcs, ndc_doc, hx, encR, ndc]
/-- a row of the law's: parse_pagination refuses -/
theorem fx_row {g : List (Str × Addr)} {a0 a1 a4 a6 a7 a9 a10 a11 a12 a13 : Option D} {d : Doc} {r : Rul} {h : Int} {x : D} (hx : ndc x = true) (hp : m_parse_pagination [encDoc d, encR r, .int h, x] = .ex x_ParseError) :
    eFX nmL (defScope s_law) g m__law_all (aCons (eLst (aCons (eC (.lam lam_law_0 [3, 2, 5, 8] g)) aNil)) (aCons (eC (.str "ParseError")) aNil)) [a0, a1, some (encDoc d), some (encR r), a4, some (.int h), a6, a7, some x, a9, a10, a11, a12, a13] = .ok (.bl true) := by
  refine fx_one (ds := [encR r, encDoc d, .int h, x]) st0 rfl rfl (all_pe (nd4 d r h hx) ?_)
  rw [beta0]
  simp [f_law_0, hp]
theorem fx_doc {g : List (Str × Addr)} {a0 a1 a2 a3 a4 a5 a6 a7 a8 a10 a11 a12 a13 : Option D} {x : D} (hx : ndc x = true) (hp : m_parse_document [x] = .ex x_ParseError) :
    eFX nmL (defScope s_law) g m__law_all (aCons (eLst (aCons (eC (.lam lam_law_1 [9] g)) aNil)) (aCons (eC (.str "ParseError")) aNil)) [a0, a1, a2, a3, a4, a5, a6, a7, a8, some x, a10, a11, a12, a13] = .ok (.bl true) := by
  refine fx_one (ds := [x]) st1 rfl rfl (all_pe (by simp [ndcs, hx]) ?_)
  rw [beta1]
  simp [f_law_1, hp]
def badL : List D := [.non, .int 5, .str "", .str " ", .str "0", .str "13", .str "05", .str "5 ", .str " 5", .str "5  4", .str "5S", .str "s", .str "s5", .str "5sh", .str "5x", .str "5,4", .str "-1", .str "5\n", .str "5+4", .str "1 1 1 1 1 1 1 1 1", .str "12 12 12 5"]
theorem bad_no : ∀ x ∈ badL, ndc x = true ∧ m_parse_document [x] = .ex x_ParseError := by
  intro x hx
  simp only [badL, List.mem_cons, List.not_mem_nil, or_false] at hx
  rcases hx with rfl | rfl | rfl | rfl | rfl | rfl | rfl | rfl | rfl | rfl | rfl | rfl | rfl | rfl | rfl | rfl | rfl | rfl | rfl | rfl | rfl <;> exact ⟨by kernel_rfl, by kernel_rfl⟩
theorem nines : (eM1 dJoin (eC (.str " ")) (eBin dMul (eLst (aCons (eC (.str "1")) aNil)) (eC (.int 9)))) [] = .ok (.str "1 1 1 1 1 1 1 1 1") := by kernel_rfl
theorem last_eq : (m_parse_document [.str "5 1h 4 3s"]).bind (fun x => Rs.of (dEq x (.tup [.tup [.int 5, .str ""], .tup [.int 1, .str "head"], .tup [.int 4, .str ""], .tup [.int 3, .str "solid"]]))) = .ok (.bl true) := by kernel_rfl
theorem DE5 {d : Doc} {n : Nat} (h : DE d n) : ∀ b ∈ d, 1 ≤ b.1 ∧ b.1 ≤ 5 := h.li
theorem doc_pl (d : Doc) : pl 8 (encDoc d) = true := by
  show (d.map encB).all (pl 7) = true
  rw [List.all_eq_true]
  intro x hx
  obtain ⟨b, _, rfl⟩ := List.mem_map.1 hx
  show ([D.int b.1, .str b.2.s] : List D).all (pl 6) = true
  simp [pl, ok_mk]
theorem eqB (n : Nat) (b : Int × Mk) : eqD (n + 1) (encB b) (encB b) = true := by
  show eqLs (eqD n) [.int b.1, .str b.2.s] [.int b.1, .str b.2.s] = true
  cases n <;> simp [eqLs, eqD]
theorem ne_doc (d : Doc) : dNe (encDoc d) (encDoc d) = some (.bl false) := by
  have e : eqD 8 (encDoc d) (encDoc d) = true := by
    show eqLs (eqD 7) (d.map encB) (d.map encB) = true
    induction d with
    | nil => rfl
    | cons b d ih =>
      show (eqD 7 (encB b) (encB b) && eqLs (eqD 7) (d.map encB) (d.map encB)) = true
      rw [eqB, ih]
      rfl
  have h := doc_pl d
  unfold encDoc at h e ⊢
  simp only [dNe, h, e]
  simp
theorem law_S (g : List (Str × Addr)) (ns : List Int) (hns : ns.length ≤ 63) : S_law g [some (.scr ns), none, none, none, none, none, none, none, none, none, none, none, none, none] = .ok (.rt (.bl true)) := by
  unfold S_law
  refine seq_for D.int (fun t ρ => (∀ y ∈ t, 0 ≤ y ∧ y < 3) ∧ ∃ x1 x2 x3 x4 x5 x6 x7 x8, ρ = [some (.scr ns), x1, x2, x3, x4, x5, x6, x7, x8, none, none, none, none, none]) (rgI 0 3) (by simp) ⟨fun y hy => mem_rgI.1 hy, _, _, _, _, _, _, _, _, rfl⟩ ?_ ?_
  · rintro i t ρ ⟨ht, x1, x2, x3, x4, x5, x6, x7, x8, rfl⟩
    have hi := ht i (by simp)
    have ht2 : ∀ y ∈ t, 0 ≤ y ∧ y < 3 := fun y hy => ht y (by simp [hy])
    obtain ⟨d, ed, hd6⟩ := ev_paper ns hns (60 * i) 6 (by omega) (by omega) (by omega) (by omega)
    replace ed : m__law_paper [.scr ns, .int (60 * i), .int 6] = .ok (encDoc d) := ed
    obtain ⟨r, er, hr⟩ := ev_rule2 ns hns (60 * i + 20) (by omega) (by omega)
    obtain ⟨v, ev, v0, v1⟩ := ev_pick ns hns (60 * i + 22) 8 (by omega) (by omega) (by omega)
    have hd := hd6.vd (by omega)
    have h5 := DE5 hd6
    have K := kn_ends hd hr
    have hh : 1 ≤ 1 + v ∧ 1 + v ≤ 40 := ⟨by omega, by omega⟩
    have hh8 : 1 ≤ 1 + v ∧ 1 + v ≤ 8 := ⟨by omega, by omega⟩
    have ef := ev_format_document hd h5
    have ep := ev_parse_document hd h5
    have e1 := dNe_s (tx_ok h5) (tx_ok h5)
    have e2 := ne_doc d
    have b1 : d.length ≤ 1000000 := by have := hd.ln; omega
    have el := lc_map (T := (tgTup (tgCons (tgName 10) (tgCons (tgName 11) tgNil)))) (C := cYes) (E := (eBin dAdd (eCall gStr (aCons (eVar 10) aNil)) (eCutS (eVar 11) pNone (pSome (eC (.int 1)))))) (ρ := [some (.scr ns), some (.int i), some (encDoc d), some (encR r), x4, x5, x6, x7, x8, none, none, none, none, none]) encB (fun b => .str (bt b)) d fun b hb => by
      obtain ⟨q1, q2, q3⟩ := bt_law (h5 b hb)
      replace q1 : gStr [D.int b.1] = some (.str (pw b.1)) := q1
      replace q3 : dAdd (.str (pw b.1)) (.str b.2.x) = some (.str (bt b)) := q3
      refine ⟨_, rfl, rfl, ?_⟩
      simp [q1, q2, q3]
    have ej := tx_join h5 hd.ln
    by_cases hl : lg (ends r d) ≤ 1 + v
    · have efl := ev_filled hd hr hh hl
      have P := filled_pag K hl
      have c40 : (filled (ends r d) (1 + v) (siz d)).length ≤ 40 := filled_len K
      generalize filled (ends r d) (1 + v) (siz d) = c at *
      have h8 := gap8 hh8 P
      have g40 : (gaps 0 c).length ≤ 100 := by rw [gap_len]; omega
      have epr := ev_parse_row hd hr hh8 P c40
      have et := ev_pagination_text h8 (by omega)
      have ejr := px_join h8 g40
      have pok := px_ok h8
      have en := dNe_s pok pok
      have en2 := dNe_T c c
      have ehp := ev_has_pagination hd hr (1 + v) c (by omega)
      rw [decide_eq_true P] at ehp
      have ec3 := ev_check_three (k := 1 + v) hd hr hh
      have efp : m_format_pagination [encDoc d, encR r, .int (1 + v), .tup (c.map .int)] = .ok (.str (px (gaps 0 c))) := by
        have q : m_check_pagination [encDoc d, encR r, .int (1 + v), .tup (c.map .int)] = .ok .non := by
          rw [m_check_pagination, S_check_pagination]
          simp [initD, ec3, ehp]
        rw [m_format_pagination, S_format_pagination]
        simp [initD, q, et]
      have plen : (px (gaps 0 c)).length ≤ 1000 := by
        have := join_le (y := "+") (ws := (gaps 0 c).map pw) (n := 1) fun w hw => by
          obtain ⟨z, hz, rfl⟩ := List.mem_map.1 hw
          rw [(pw_ok (h8 z hz)).1]
          exact Nat.le_refl _
        rw [plus_len, List.length_map, gap_len] at this
        show (Txt.join "+" ((gaps 0 c).map pw)).length ≤ _
        omega
      have ez : zipT (.int 0 :: c.map .int) (c.map .int) = (prs 0 c).map encP := by
        have := zipT_int (0 :: c) c
        rw [List.map_cons] at this
        rw [this, prs_zip]
      have elr := lc_map (T := (tgTup (tgCons (tgName 12) (tgCons (tgName 13) tgNil)))) (C := cYes) (E := (eCall gStr (aCons (eBin dSub (eVar 13) (eVar 12)) aNil))) (ρ := [some (.scr ns), some (.int i), some (encDoc d), some (encR r), some (.str (tx d)), some (.int (1 + v)), some (.tup (c.map .int)), x7, x8, none, none, none, none, none]) encP (fun q => .str (pw (q.2 - q.1))) (prs 0 c) fun q hq => by
        have := pw_read (h8 (q.2 - q.1) (by rw [← prs_gaps]; exact List.mem_map.2 ⟨q, hq, rfl⟩))
        refine ⟨_, rfl, rfl, ?_⟩
        simp [this.1]
      have eg : (prs 0 c).map (fun q => D.str (pw (q.2 - q.1))) = (gaps 0 c).map fun g => D.str (pw g) := by rw [← prs_gaps, List.map_map]; rfl
      rw [eg] at elr
      have bz : (prs 0 c).length ≤ 1000000 := by rw [prs_len]; omega
      have bc : 1 + c.length ≤ 1000000 := by omega
      have nb : dNotN (.tup (c.map .int)) .non = some (.bl true) := rfl
      -- the refused rows
      have n1 := rn_no
      have B1 := ev_parse_behind (w := "") (v := none) hd hr hh8 P c40 (.inl rfl) n1.1 (by decide +kernel) (by decide +kernel) (by decide +kernel)
      have B2 := ev_parse_ahead (w := "") (v := none) hd hr hh8 P c40 rfl n1.1 (by decide +kernel) (by decide +kernel) (by decide +kernel)
      have B3 := ev_parse_behind (w := "1") (v := some 1) hd hr hh8 P c40 (.inr rfl) n1.2.2.2 (by decide +kernel) (by decide +kernel) (by decide +kernel)
      have B4 := ev_parse_space hd hr hh8 P c40
      have B5 := ev_parse_zero hd hr hh8 P c40
      have B6 := ev_parse_ahead (w := "0") (v := some 0) hd hr hh8 P c40 rfl n1.2.2.1 (by decide +kernel) (by decide +kernel) (by decide +kernel)
      have B7 := ev_parse_empty hd hr hh8
      have B8 := ev_parse_not (x := .non) hd hr hh8 (by kernel_rfl)
      have B9 := ev_parse_not (x := .int 5) hd hr hh8 (by kernel_rfl)
      have B10 := ev_parse_ahead (w := "1a") (v := none) hd hr hh8 P c40 rfl n1.2.1 (by decide +kernel) (by decide +kernel) (by decide +kernel)
      generalize px (gaps 0 c) = row at *
      have s1 : row ++ "+" ++ "" = row ++ "+" := TL.ext_tl (by rw [TL.tl_append, show TL.tl ("" : Str) = [] from by decide +kernel, List.append_nil])
      have s2 : "" ++ "+" ++ row = "+" ++ row := TL.ext_tl (by rw [TL.tl_append, TL.tl_append, TL.tl_append, show TL.tl ("" : Str) = [] from by decide +kernel, List.nil_append])
      have s3 : row ++ "+" ++ "1" = row ++ "+1" := by rw [app_assoc, show ("+" : Str) ++ "1" = "+1" from by decide +kernel]
      have s6 : "0" ++ "+" ++ row = "0+" ++ row := by rw [show ("0" : Str) ++ "+" = "0+" from by decide +kernel]
      have s10 : "1a" ++ "+" ++ row = "1a+" ++ row := by rw [show ("1a" : Str) ++ "+" = "1a+" from by decide +kernel]
      rw [s1] at B1
      rw [s2] at B2
      rw [s3] at B3
      rw [s6] at B6
      rw [s10] at B10
      have ad : ∀ {x : Str}, x.length ≤ 3 → dAdd (.str row) (.str x) = some (.str (row ++ x)) ∧ dAdd (.str x) (.str row) = some (.str (x ++ row)) := fun {x} hx => by
        refine ⟨?_, ?_⟩
        · show (if row.length + x.length ≤ 1000000 then _ else _) = _
          rw [if_pos (by omega)]
        · show (if x.length + row.length ≤ 1000000 then _ else _) = _
          rw [if_pos (by omega)]
      have A1 := (ad (x := "+") (by decide +kernel)).1
      have A2 := (ad (x := "+") (by decide +kernel)).2
      have A3 := (ad (x := "+1") (by decide +kernel)).1
      have A4 := (ad (x := " ") (by decide +kernel)).1
      have A5 := (ad (x := "0") (by decide +kernel)).2
      have A6 := (ad (x := "0+") (by decide +kernel)).2
      have A10 := (ad (x := "1a+") (by decide +kernel)).2
      have all : ∀ x ∈ [D.str (row ++ "+"), .str ("+" ++ row), .str (row ++ "+1"), .str (row ++ " "), .str ("0" ++ row), .str ("0+" ++ row), .str "", .non, .int 5, .str ("1a+" ++ row)], ndc x = true ∧ m_parse_pagination [encDoc d, encR r, .int (1 + v), x] = .ex x_ParseError := by
        intro x hx
        simp only [List.mem_cons, List.not_mem_nil, or_false] at hx
        rcases hx with rfl | rfl | rfl | rfl | rfl | rfl | rfl | rfl | rfl | rfl
        · exact ⟨rfl, B1⟩
        · exact ⟨rfl, B2⟩
        · exact ⟨rfl, B3⟩
        · exact ⟨rfl, B4⟩
        · exact ⟨rfl, B5⟩
        · exact ⟨rfl, B6⟩
        · exact ⟨rfl, B7⟩
        · exact ⟨rfl, B8⟩
        · exact ⟨rfl, B9⟩
        · exact ⟨rfl, B10⟩
      obtain ⟨ρ', f1, y8, rfl⟩ := for_inv (T := tgName 8) (S := (sIf (cNot (cE (eFX nmL (defScope s_law) g m__law_all (aCons (eLst (aCons (eC (.lam lam_law_0 [3, 2, 5, 8] g)) aNil)) (aCons (eC (.str "ParseError")) aNil))))) (sRet (eC (.bl false))) sNil)) (fun ρ => ∃ y8, ρ = [some (.scr ns), some (.int i), some (encDoc d), some (encR r), some (.str (tx d)), some (.int (1 + v)), some (.tup (c.map .int)), some (.str row), y8, none, none, none, none, none]) [D.str (row ++ "+"), .str ("+" ++ row), .str (row ++ "+1"), .str (row ++ " "), .str ("0" ++ row), .str ("0+" ++ row), .str "", .non, .int 5, .str ("1a+" ++ row)] [some (.scr ns), some (.int i), some (encDoc d), some (encR r), some (.str (tx d)), some (.int (1 + v)), some (.tup (c.map .int)), some (.str row), x8, none, none, none, none, none] (by
          rintro x hx ρ ⟨y8, rfl⟩
          obtain ⟨q1, q2⟩ := all x hx
          refine ⟨_, [some (.scr ns), some (.int i), some (encDoc d), some (encR r), some (.str (tx d)), some (.int (1 + v)), some (.tup (c.map .int)), some (.str row), some x, none, none, none, none, none], rfl, ?_, _, rfl⟩
          have q := fx_row (g := g) (a0 := some (.scr ns)) (a1 := some (.int i)) (a4 := some (.str (tx d))) (a6 := some (.tup (c.map .int))) (a7 := some (.str row)) (a9 := none) (a10 := none) (a11 := none) (a12 := none) (a13 := none) q1 q2
          simp only [r_setD1, r_setD0, List.set_cons_succ, List.set_cons_zero, r_sIf, r_cNot, r_cE, q, bd_ok, r_dB, of_so, Bool.not_true, r_sNil]) ⟨x8, rfl⟩
      refine ⟨_, [some (.scr ns), some (.int i), some (encDoc d), some (encR r), some (.str (tx d)), some (.int (1 + v)), some (.tup (c.map .int)), some (.str row), y8, none, none, none, none, none], rfl, ?_, ht2, _, _, _, _, _, _, _, _, rfl⟩
      have go2 : (seqS (sAsg [] (tgName 7) (eM1 dJoin (eC (.str "+")) (eLc (sZip (aCons (eBin dAdd (eTup (aCons (eC (.int 0)) aNil)) (eVar 6)) (aCons (eVar 6) aNil))) [12, 13] (tgTup (tgCons (tgName 12) (tgCons (tgName 13) tgNil))) cYes (eCall gStr (aCons (eBin dSub (eVar 13) (eVar 12)) aNil)))))
    (seqS (sIf (cE (eBin dNe (eF m_format_pagination (aCons (eVar 2) (aCons (eVar 3) (aCons (eVar 5) (aCons (eVar 6) aNil))))) (eVar 7))) (sRet (eC (.bl false))) sNil)
    (seqS (sIf (cE (eBin dNe (eF m_parse_pagination (aCons (eVar 2) (aCons (eVar 3) (aCons (eVar 5) (aCons (eVar 7) aNil))))) (eVar 6))) (sRet (eC (.bl false))) sNil)
    (sFor [] (sSeq (eTup (aCons (eBin dAdd (eVar 7) (eC (.str "+"))) (aCons (eBin dAdd (eC (.str "+")) (eVar 7)) (aCons (eBin dAdd (eVar 7) (eC (.str "+1"))) (aCons (eBin dAdd (eVar 7) (eC (.str " "))) (aCons (eBin dAdd (eC (.str "0")) (eVar 7)) (aCons (eBin dAdd (eC (.str "0+")) (eVar 7)) (aCons (eC (.str "")) (aCons (eC .non) (aCons (eC (.int 5)) (aCons (eBin dAdd (eC (.str "1a+")) (eVar 7)) aNil)))))))))))) (tgName 8) (sIf (cNot (cE (eFX nmL (defScope s_law) g m__law_all (aCons (eLst (aCons (eC (.lam lam_law_0 [3, 2, 5, 8] g)) aNil)) (aCons (eC (.str "ParseError")) aNil))))) (sRet (eC (.bl false))) sNil))))) [some (.scr ns), some (.int i), some (encDoc d), some (encR r), some (.str (tx d)), some (.int (1 + v)), some (.tup (c.map .int)), x7, x8, none, none, none, none, none] = .ok (.nx [some (.scr ns), some (.int i), some (encDoc d), some (encR r), some (.str (tx d)), some (.int (1 + v)), some (.tup (c.map .int)), some (.str row), y8, none, none, none, none, none]) := by
        refine seq_nx (ρ' := [some (.scr ns), some (.int i), some (encDoc d), some (encR r), some (.str (tx d)), some (.int (1 + v)), some (.tup (c.map .int)), some (.str row), x8, none, none, none, none, none]) (by simp [bc, ez, bz, elr, ejr]) ?_
        refine seq_nx (by simp [efp, en]; rfl) ?_
        refine seq_nx (by simp [epr, en2]; rfl) ?_
        rw [r_sFor]
        have z : (sSeq (eTup (aCons (eBin dAdd (eVar 7) (eC (.str "+"))) (aCons (eBin dAdd (eC (.str "+")) (eVar 7)) (aCons (eBin dAdd (eVar 7) (eC (.str "+1"))) (aCons (eBin dAdd (eVar 7) (eC (.str " "))) (aCons (eBin dAdd (eC (.str "0")) (eVar 7)) (aCons (eBin dAdd (eC (.str "0+")) (eVar 7)) (aCons (eC (.str "")) (aCons (eC .non) (aCons (eC (.int 5)) (aCons (eBin dAdd (eC (.str "1a+")) (eVar 7)) aNil)))))))))))) (wipeD [some (.scr ns), some (.int i), some (encDoc d), some (encR r), some (.str (tx d)), some (.int (1 + v)), some (.tup (c.map .int)), some (.str row), x8, none, none, none, none, none] []) = .ok [D.str (row ++ "+"), .str ("+" ++ row), .str (row ++ "+1"), .str (row ++ " "), .str ("0" ++ row), .str ("0+" ++ row), .str "", .non, .int 5, .str ("1a+" ++ row)] := by simp [A1, A2, A3, A4, A5, A6, A10]
        rw [z]
        exact f1
      refine seq_nx (by simp [ed, er]; rfl) ?_
      refine seq_nx (ρ' := [some (.scr ns), some (.int i), some (encDoc d), some (encR r), some (.str (tx d)), x5, x6, x7, x8, none, none, none, none, none]) (by simp [encDoc, b1] at el ⊢; simp [el, ej]) ?_
      refine seq_nx (by simp [ef, ep, e1, e2]; rfl) ?_
      refine seq_nx (by simp [ev]; rfl) ?_
      refine seq_nx (by simp [efl]; rfl) ?_
      rw [r_sIf]
      simp only [r_cE, r_eBin, r_eVar, List.set_cons_succ, List.set_cons_zero, List.getElem?_cons_succ, List.getElem?_cons_zero, bd_ok, r_eC, nb, of_so, r_dB]
      exact go2
    · have efl := ev_filled_no hd hr hh hl
      refine ⟨_, [some (.scr ns), some (.int i), some (encDoc d), some (encR r), some (.str (tx d)), some (.int (1 + v)), some .non, x7, x8, none, none, none, none, none], rfl, ?_, ht2, _, _, _, _, _, _, _, _, rfl⟩
      have nb : dNotN .non .non = some (.bl false) := rfl
      refine seq_nx (by simp [ed, er]; rfl) ?_
      refine seq_nx (ρ' := [some (.scr ns), some (.int i), some (encDoc d), some (encR r), some (.str (tx d)), x5, x6, x7, x8, none, none, none, none, none]) (by simp [encDoc, b1] at el ⊢; simp [el, ej]) ?_
      refine seq_nx (by simp [ef, ep, e1, e2]; rfl) ?_
      refine seq_nx (by simp [ev]; rfl) ?_
      refine seq_nx (by simp [efl]; rfl) ?_
      simp [nb]
  · rintro ρ ⟨_, x1, x2, x3, x4, x5, x6, x7, x8, rfl⟩
    have n9 : ∀ ρ : Sl, (eM1 dJoin (eC (.str " ")) (eBin dMul (eLst (aCons (eC (.str "1")) aNil)) (eC (.int 9)))) ρ = .ok (.str "1 1 1 1 1 1 1 1 1") := fun ρ => nines
    obtain ⟨ρ', f1, y9, rfl⟩ := for_inv (T := tgName 9) (S := (sIf (cNot (cE (eFX nmL (defScope s_law) g m__law_all (aCons (eLst (aCons (eC (.lam lam_law_1 [9] g)) aNil)) (aCons (eC (.str "ParseError")) aNil))))) (sRet (eC (.bl false))) sNil)) (fun ρ => ∃ y9, ρ = [some (.scr ns), x1, x2, x3, x4, x5, x6, x7, some (.lst badL), y9, none, none, none, none]) badL [some (.scr ns), x1, x2, x3, x4, x5, x6, x7, some (.lst badL), none, none, none, none, none] (by
      rintro x hx ρ ⟨y9, rfl⟩
      obtain ⟨q1, q2⟩ := bad_no x hx
      refine ⟨_, [some (.scr ns), x1, x2, x3, x4, x5, x6, x7, some (.lst badL), some x, none, none, none, none], rfl, ?_, _, rfl⟩
      have q := fx_doc (g := g) (a0 := some (.scr ns)) (a1 := x1) (a2 := x2) (a3 := x3) (a4 := x4) (a5 := x5) (a6 := x6) (a7 := x7) (a8 := some (.lst badL)) (a10 := none) (a11 := none) (a12 := none) (a13 := none) q1 q2
      simp only [r_setD1, r_setD0, List.set_cons_succ, List.set_cons_zero, r_sIf, r_cNot, r_cE, q, bd_ok, r_dB, of_so, Bool.not_true, r_sNil]) ⟨none, rfl⟩
    refine seq_nx (by simp; rfl) ?_
    refine seq_nx (by simp; rfl) ?_
    refine seq_nx (ρ' := [some (.scr ns), x1, x2, x3, x4, x5, x6, x7, some (.lst badL), none, none, none, none, none]) (by
      simp only [r_sExt, r_aCons, r_eLst, n9, List.getElem?_cons_succ, List.getElem?_cons_zero, bd_ok, r_eC, r_aNil]
      rfl) ?_
    refine seq_forE (ds := badL) (by simp) f1 ?_
    have le := last_eq
    simp only [r_sRet, r_eBin, r_eF, r_aCons, r_eC, r_aNil, bd_ok, r_eTup]
    simp only [List.length_cons, List.length_nil]
    have := last_eq
    cases q : m_parse_document [.str "5 1h 4 3s"] with
    | bad => rw [q] at this; cases this
    | ex c => rw [q] at this; cases this
    | ok z =>
      rw [q] at this
      simp at this ⊢
      cases q2 : dEq z (.tup [.tup [.int 5, .str ""], .tup [.int 1, .str "head"], .tup [.int 4, .str ""], .tup [.int 3, .str "solid"]]) with
      | none => rw [q2] at this; cases this
      | some y =>
        rw [q2] at this
        simp at this ⊢
        exact this
def m_law (ds : List D) : Rs D := match ds with
  | [.scr ns] => if ns.length ≤ 63 then .ok (.bl true) else .bad
  | _ => .bad
theorem law_mt (ns : List Int) (hns : ns.length ≤ 63) : m_law [.scr ns] = .ok (.bl true) := if_pos hns
theorem law_m (g : List (Str × Addr)) (ds : List D) : m_law ds = .bad ∨ runF 1 14 (S_law g) ds = m_law ds := by
  unfold m_law
  split
  · rename_i ns
    by_cases h : ns.length ≤ 63
    · right
      rw [if_pos h, run1]
      have : initD 14 [D.scr ns] = [some (.scr ns), none, none, none, none, none, none, none, none, none, none, none, none, none] := rfl
      rw [this, law_S g ns h]
      rfl
    · left; rw [if_neg h]
  · exact .inl rfl
end LW

open PySem PySem.W PySem.Calls PyProof.Rows in
set_option maxRecDepth 100000 in
set_option maxHeartbeats 0 in
theorem PySem.Challenge.cw_pagebreaks_k64_formats_holds : PySem.Challenge.rw_pagebreaks_k64_formats.Holds := by
  w_on; o_law
  refine HandSHeadRun.head_any (r := OpenLaw.row PySem.Challenge.rw_pagebreaks_k64_formats) (q := view (OpenLaw.row PySem.Challenge.rw_pagebreaks_k64_formats).prog [63]) (H := LW.hk) (ob := LW.ob) (M := 20000) (loose := LW.loose) (d := HandSHeadRun.topDef (OpenLaw.row PySem.Challenge.rw_pagebreaks_k64_formats).prog 63) (kwd := []) LW.ob_eq
    (by kernel_rfl) (fun s => by kernel_rfl) LW.run (by kernel_rfl) (by kernel_rfl) (by kernel_rfl) (by rfl) (by first | assumption | decide +kernel) (by decide +kernel) ⟨rfl, rfl, rfl, rfl, rfl, by decide +kernel⟩ ?hw ?hc
  case hw => w_witness2
  case hc =>
    refine LamX.walk_ofTsE (l := PySem.Challenge.rw_pagebreaks_k64_formats) (n := 63) (k := 11) (x := "script") (CX := fun _ => L2.CX0) rfl (by decide) (by kernel_rfl) ⟨rfl, by decide, by decide⟩ ?F (fun _ _ _ _ _ z => z)
    intro w mg fa h Y G hmg0
    obtain ⟨K, KX, c⟩ := Y
    have T : PB.Tx LW.fa LW.fn K mg := ⟨⟨h, KX, G⟩, c.t.d⟩
    have Z := c.more
    have hmg : mg ("law" : PySem.Str) = some (.ref fa) := by
      have e : (HandSHeadRun.topDef (OpenLaw.row PySem.Challenge.rw_pagebreaks_k64_formats).prog 63).name = ("law" : PySem.Str) := by kernel_rfl
      rw [← e]
      exact hmg0
    have e := hmg.symm.trans (PB.tx_glo T 32 rfl)
    have e2 : fa = He.ga K "law" := by cases e; rfl
    subst e2
    obtain ⟨fd, F⟩ := T.c.def_ 32 (d := LW.d_law) rfl
    have b := L2.FunD.bindsA (ps := ["script"]) F fun _ _ _ _ _ _ us hl => match us, hl with | [_], _ => rfl
    refine ⟨K, KX, fd, LW.tf.map (He.cT K), _, fun p hp => ?_, fun p hp => ?_, fun p hp => ?_, fun s v => b s [v] rfl, ?_, fun base _ _ TB => PB.law_fn (LW.fn_law T Z (fun p hp => ⟨c.hd p hp, TB _ (List.mem_map.2 ⟨p, hp, rfl⟩)⟩) LW.law_m F)⟩
    · obtain ⟨q, hq, rfl⟩ := List.mem_map.1 hp
      exact c.empty q hq
    · obtain ⟨q, hq, rfl⟩ := List.mem_map.1 hp
      exact c.out q hq
    · obtain ⟨q, hq, rfl⟩ := List.mem_map.1 hp
      exact PySem.W.codeHd_of_K KX (c.hd q hq)
    intro H a ns hl _ hT hS
    refine ⟨PB.exA_t Z hT, [.scr ns], .cons (.scr hS) .nil, ?_⟩
    rw [LW.law_mt ns hl]
    exact fun v H' _ rv => PB.rp_bl rv
