import PyProof.Rows.All
import Wide.All
import OpenK.AllK
import Wide.FinOn
import HandS.ForMost
import HandS.ForExc
import HandS.Wide
import HandS.IsInst
import HandS.Deep
import HandS.TupAny
import PyProof.EqAt
import PyProof.Rows.CountFlat
import HandS.ExcCtx
import HandS.HotCalls
import HandS.ExcIs
import HandS.ExcField
import KE.KExcIs
import HandS.Defaults
import HandS.Head0
import HandS.Head1
import HandS.Head2
import HandS.HeadEnd
import HandS.HeadHook1
import HandS.HeadHook2
import HandS.HeadHook3
import HandS.HeadHook4
import HandS.ExcInit
import HandS.EndBits
import HandS.Zip
import HandS.TupMul
import HandS.Conv
import HandS.Style
import HandS.SortInts
import HandS.More
import HandS.TryOnly
import HandS.SortRule
import HandS.TupSets
import HandS.SortKw
import KE.KSortTupAny
import KE.GoesNew
import KE.GoesMore
import KE.GoesEnum
import PyProof.AssignAttr
import HandS.Hot
import PyProof.ConsumeS
import PyProof.Rows.SetFrom
import HandS.SetFor
import HandS.Strs
import HandS.Text
import HandS.Codes
import HandS.Iter
import KE.GoesComp
import KE.KAsSuite
import PyProof.ReprRoads
import PyProof.P3Eq
import PySem.Challenge.RW_rolldiscs_k16_what_is_a_form
set_option Elab.async false
set_option linter.all false
set_option maxRecDepth 100000
set_option maxHeartbeats 0
namespace Ow
open PySem PySem.Spec PyProof.Rows L2

/-- data of Python, by value -/
inductive D where
  | non | bl (b : Bool) | int (i : Int) | str (x : Str) | tup (ds : List D) | lst (ds : List D)
  | dK (kvs : List (Key × D)) | dT (kvs : List (List Int × D)) | ins (c : Str) (fs : List (Str × D))
  | fzl (ds : List D) | exn (c : Str) (p : D)
instance : Inhabited D := ⟨.non⟩
/-- whose an address is: the world's around, the parameters', given up for good, a slot's, a value's on its way -/
inductive Lab where
  | out | prm | fro | slt (i : Nat) | tmp (n : Nat)
  deriving DecidableEq
/-- how a value is held: all its lists are its own; all are others' (or given up); its uppermost list is its own, what is within is others' -/
inductive Kd where
  | own | bor (R : List Lab) | spn (R : List Lab) | exc (R : List Lab)
abbrev Ctx := List (Option Kd)
abbrev Labs := Addr → Lab

/-- the field that an exception of the class bears -/
def pfOf (c : Str) : Option Str := if c = "Ring" then some "ring" else if c = "Stopped" then some "shaft" else none
/-- the classes by their names; the exception that is handled, its class's name, its dict -/
structure CE where
  cl : Str → Addr → Prop
  ex : Str → Addr → Option Addr → Prop
/-- tuples and frozen things stay -/
structure TK (H H' : Hp) : Prop where
  tup : ∀ b xs, H b = some (.tup xs) → H' b = some (.tup xs)
  frz : ∀ b o u, H b = some (.frz o u) → H' b = some (.frz o u)
theorem TK.refl (H : Hp) : TK H H := ⟨fun _ _ h => h, fun _ _ _ h => h⟩
theorem TK.trans {H H1 H2 : Hp} (a : TK H H1) (b : TK H1 H2) : TK H H2 := ⟨fun x xs h => b.tup x xs (a.tup x xs h), fun x o u h => b.frz x o u (a.frz x o u h)⟩
theorem TK.sqt {K : PySem.W.Frag} {H H' : Hp} (t : TK H H') {a : Addr} {xs : List V} (h : SqT K H a xs) : SqT K H' a xs := by
  rcases h with (h | ⟨o, h⟩) | h
  · exact .inl (.inl (t.tup _ _ h))
  · exact .inl (.inr ⟨o, t.frz _ _ _ h⟩)
  · exact .inr h
theorem TK.new {H : Hp} {p : Addr} {o : HO} (h : H p = none) : TK H (upd H p o) :=
  ⟨fun b xs e => by rw [upd_ne (ne_of_none e h)]; exact e, fun b ob u e => by rw [upd_ne (ne_of_none e h)]; exact e⟩
def isMut : HO → Prop
  | .tup _ => False
  | .frz _ _ => False
  | _ => True
theorem TK.mut {H : Hp} {p : Addr} {u o : HO} (h : H p = some u) (m : isMut u) : TK H (upd H p o) :=
  ⟨fun b xs e => by
    by_cases q : b = p
    · subst q; rw [h] at e; cases e; exact m.elim
    · rw [upd_ne q]; exact e, fun b ob v e => by
    by_cases q : b = p
    · subst q; rw [h] at e; cases e; exact m.elim
    · rw [upd_ne q]; exact e⟩

/-- a list that no one may change: the world's, the written part's -/
def FzL (K : PySem.W.Frag) (H : Hp) (a : Addr) (vs : List V) : Prop := (∃ o, H a = some (.frz o (.lst vs))) ∨ ∃ (o : Obj) (its : Array Value) (n : Nat), K.lookup a = some o ∧ o.cls = .type "list" ∧ o.dict = none ∧ o.data = .seq its n ∧ its.size ≤ sizeLine ∧ Vals vs its.toList
theorem FzL.sql {K : PySem.W.Frag} {H : Hp} {a : Addr} {vs : List V} (h : FzL K H a vs) : SqL K H a vs := h.elim (fun ⟨o, h⟩ => .inl (.inr ⟨o, h⟩)) .inr
theorem FzL.tk {K : PySem.W.Frag} {H H' : Hp} {a : Addr} {vs : List V} (h : FzL K H a vs) (t : TK H H') : FzL K H' a vs := h.elim (fun ⟨o, h⟩ => .inl ⟨o, t.frz _ _ _ h⟩) .inr
/-- an object of the heap, just so -/
def atO (a : Addr) (o : Obj) : Heap → Prop := fun h => h.get? a = some o
/-- a dict's object: its keys are tuples of whole numbers, in order, where they lie, and the values -/
structure DxOk (a : Addr) (o : Obj) (us : List (List Int × Addr × Value)) : Prop where
  nm : (a == sysModules) = false
  ex : o.ExactDict
  es : ∃ es ep, o.data = .dict es ep ∧ ∀ (P : Program) (w : World), es.toList = us.map (entryOfKey (tupleKind (intKind P w)))
  nd : (us.map (·.1)).Nodup
  sz : us.length ≤ sizeLine
section
variable (K : PySem.W.Frag) (cl : CE) (H : Hp)
mutual
/-- at H, v is a d; fp: the addresses of all lists, dicts, instances in it -/
inductive Rp : V → D → List Addr → Prop
  | non : Rp .non .non []
  | bl (b : Bool) : Rp (.bl b) (.bl b) []
  | int (i : Int) : Rp (.int i) (.int i) []
  | str (x : Str) : Rp (.str x) (.str x) []
  | tup {a : Addr} {vs : List V} {ds : List D} {fp : List Addr} (h : SqT K H a vs) (r : RpL vs ds fp) : Rp (.ref a) (.tup ds) fp
  | lst {a : Addr} {vs : List V} {ds : List D} {fp : List Addr} (h : H a = some (.lst vs)) (r : RpL vs ds fp) : Rp (.ref a) (.lst ds) (a :: fp)
  | lsf {a : Addr} {vs : List V} {ds : List D} {fp : List Addr} (h : FzL K H a vs) (r : RpL vs ds fp) : Rp (.ref a) (.fzl ds) fp
  | dK {a : Addr} {kvs : List (Key × V)} {kds : List (Key × D)} {fp : List Addr} (h : H a = some (.dK kvs)) (k : kvs.map (·.1) = kds.map (·.1)) (r : RpL (kvs.map (·.2)) (kds.map (·.2)) fp) : Rp (.ref a) (.dK kds) (a :: fp)
  | dT {a : Addr} {o : Obj} {us : List (List Int × Addr × Value)} {vs : List V} {kds : List (List Int × D)} {fp : List Addr} (h : H a = some (.ext (atO a o))) (ok : DxOk a o us) (hk : ∀ u ∈ us, SqT K H u.2.1 (u.1.map V.int)) (k : us.map (·.1) = kds.map (·.1)) (hv : Vals vs (us.map (·.2.2))) (r : RpL vs (kds.map (·.2)) fp) : Rp (.ref a) (.dT kds) (a :: fp)
  | ins {a C dx : Addr} {c : Str} {fs : List (Str × V)} {fds : List (Str × D)} {fp : List Addr} (hc : cl.cl c C) (h : H a = some (.ins C dx fs)) (k : fs.map (·.1) = fds.map (·.1)) (r : RpL (fs.map (·.2)) (fds.map (·.2)) fp) : Rp (.ref a) (.ins c fds) (a :: fp)
inductive RpL : List V → List D → List Addr → Prop
  | nil : RpL [] [] []
  | cons {v : V} {d : D} {f1 : List Addr} {vs : List V} {ds : List D} {f2 : List Addr} (h : Rp v d f1) (r : RpL vs ds f2) : RpL (v :: vs) (d :: ds) (f1 ++ f2)
end
end

section
variable {K : PySem.W.Frag} {cl : CE} {H H' : Hp}
mutual
theorem Rp.ext (tk : TK H H') : ∀ {v : V} {d : D} {fp : List Addr}, Rp K cl H v d fp → (∀ a ∈ fp, H' a = H a) → Rp K cl H' v d fp
  | _, _, _, .non, _ => .non
  | _, _, _, .bl b, _ => .bl b
  | _, _, _, .int i, _ => .int i
  | _, _, _, .str x, _ => .str x
  | _, _, _, .tup h r, e => .tup (tk.sqt h) (RpL.ext tk r e)
  | _, _, _, .lst h r, e => .lst ((e _ List.mem_cons_self).trans h) (RpL.ext tk r fun a ha => e a (List.mem_cons_of_mem _ ha))
  | _, _, _, .lsf h r, e => .lsf (h.tk tk) (RpL.ext tk r e)
  | _, _, _, .dK h k r, e => .dK ((e _ List.mem_cons_self).trans h) k (RpL.ext tk r fun a ha => e a (List.mem_cons_of_mem _ ha))
  | _, _, _, .dT h ok hk k hv r, e => .dT ((e _ List.mem_cons_self).trans h) ok (fun u hu => tk.sqt (hk u hu)) k hv (RpL.ext tk r fun a ha => e a (List.mem_cons_of_mem _ ha))
  | _, _, _, .ins c h k r, e => .ins c ((e _ List.mem_cons_self).trans h) k (RpL.ext tk r fun a ha => e a (List.mem_cons_of_mem _ ha))
theorem RpL.ext (tk : TK H H') : ∀ {vs : List V} {ds : List D} {fp : List Addr}, RpL K cl H vs ds fp → (∀ a ∈ fp, H' a = H a) → RpL K cl H' vs ds fp
  | _, _, _, .nil, _ => .nil
  | _, _, _, .cons h r, e => .cons (Rp.ext tk h fun a ha => e a (List.mem_append_left _ ha)) (RpL.ext tk r fun a ha => e a (List.mem_append_right _ ha))
end
end


mutual
def D.flat : D → Bool
  | .non => true
  | .bl _ => true
  | .int _ => true
  | .str _ => true
  | .tup ds => D.flats ds
  | .lst _ => false
  | .dK _ => false
  | .dT _ => false
  | .ins _ _ => false
  | .fzl _ => false
  | .exn _ _ => false
def D.flats : List D → Bool
  | [] => true
  | d :: ds => d.flat && D.flats ds
end

theorem alloc_head {H : Hp} {b : Addr} {o : HO} (h : H b = some o) (m : isMut o) {fp : List Addr} (r : ∀ x ∈ fp, ∃ o, H x = some o ∧ isMut o) : ∀ x ∈ b :: fp, ∃ o, H x = some o ∧ isMut o := fun x e => by
  rcases List.mem_cons.mp e with q | q
  · exact ⟨o, by rw [q]; exact h, m⟩
  · exact r x q
section
variable {K : PySem.W.Frag} {cl : CE} {H H' : Hp}
mutual
theorem Rp.alloc : ∀ {v : V} {d : D} {fp : List Addr}, Rp K cl H v d fp → ∀ a ∈ fp, ∃ o, H a = some o ∧ isMut o
  | _, _, _, .non, _, h => by simp at h
  | _, _, _, .bl b, _, h => by simp at h
  | _, _, _, .int i, _, h => by simp at h
  | _, _, _, .str x, _, h => by simp at h
  | _, _, _, .tup h r, a, e => RpL.alloc r a e
  | _, _, _, .lst h r, a, e => alloc_head h True.intro (RpL.alloc r) a e
  | _, _, _, .lsf h r, a, e => RpL.alloc r a e
  | _, _, _, .dK h k r, a, e => alloc_head h True.intro (RpL.alloc r) a e
  | _, _, _, .dT h ok hk k hv r, a, e => alloc_head h True.intro (RpL.alloc r) a e
  | _, _, _, .ins c h k r, a, e => alloc_head h True.intro (RpL.alloc r) a e
theorem RpL.alloc : ∀ {vs : List V} {ds : List D} {fp : List Addr}, RpL K cl H vs ds fp → ∀ a ∈ fp, ∃ o, H a = some o ∧ isMut o
  | _, _, _, .nil, _, h => by simp at h
  | _, _, _, .cons h r, a, e => (List.mem_append.mp e).elim (fun q => Rp.alloc h a q) fun q => RpL.alloc r a q
end
mutual
theorem Rp.flat : ∀ {v : V} {d : D} {fp : List Addr}, Rp K cl H v d fp → d.flat = true → fp = []
  | _, _, _, .non, _ => rfl
  | _, _, _, .bl b, _ => rfl
  | _, _, _, .int i, _ => rfl
  | _, _, _, .str x, _ => rfl
  | _, _, _, .tup h r, e => RpL.flat r (by simpa [D.flat] using e)
  | _, _, _, .lst h r, e => by simp [D.flat] at e
  | _, _, _, .lsf h r, e => by simp [D.flat] at e
  | _, _, _, .dK h k r, e => by simp [D.flat] at e
  | _, _, _, .dT h ok hk k hv r, e => by simp [D.flat] at e
  | _, _, _, .ins c h k r, e => by simp [D.flat] at e
theorem RpL.flat : ∀ {vs : List V} {ds : List D} {fp : List Addr}, RpL K cl H vs ds fp → D.flats ds = true → fp = []
  | _, _, _, .nil, _ => rfl
  | _, _, _, .cons h r, e => by
    simp [D.flats] at e
    rw [Rp.flat h e.1, RpL.flat r e.2]
    rfl
end
mutual
/-- by other names -/
theorem Rp.ce {cl' : CE} (h1 : ∀ c C, cl.cl c C → cl'.cl c C) : ∀ {v : V} {d : D} {fp : List Addr}, Rp K cl H v d fp → Rp K cl' H v d fp
  | _, _, _, .non => .non
  | _, _, _, .bl b => .bl b
  | _, _, _, .int i => .int i
  | _, _, _, .str x => .str x
  | _, _, _, .tup h r => .tup h (RpL.ce h1 r)
  | _, _, _, .lst h r => .lst h (RpL.ce h1 r)
  | _, _, _, .lsf h r => .lsf h (RpL.ce h1 r)
  | _, _, _, .dK h k r => .dK h k (RpL.ce h1 r)
  | _, _, _, .dT h ok hk k hv r => .dT h ok hk k hv (RpL.ce h1 r)
  | _, _, _, .ins c h k r => .ins (h1 _ _ c) h k (RpL.ce h1 r)
theorem RpL.ce {cl' : CE} (h1 : ∀ c C, cl.cl c C → cl'.cl c C) : ∀ {vs : List V} {ds : List D} {fp : List Addr}, RpL K cl H vs ds fp → RpL K cl' H vs ds fp
  | _, _, _, .nil => .nil
  | _, _, _, .cons h r => .cons (Rp.ce h1 h) (RpL.ce h1 r)
end
theorem RpL.len : ∀ {vs : List V} {ds : List D} {fp : List Addr}, RpL K cl H vs ds fp → vs.length = ds.length
  | _, _, _, .nil => rfl
  | _, _, _, .cons h r => by simp [RpL.len r]
theorem RpL.get : ∀ {vs : List V} {ds : List D} {fp : List Addr} {i : Nat} {d : D}, RpL K cl H vs ds fp → ds[i]? = some d → ∃ v f, vs[i]? = some v ∧ Rp K cl H v d f ∧ f.Sublist fp
  | _, _, _, _, _, .nil, e => by simp at e
  | _, _, _, 0, _, .cons h r, e => by
    simp at e; subst e
    exact ⟨_, _, rfl, h, List.sublist_append_left _ _⟩
  | _, _, _, i + 1, _, .cons h r, e => by
    obtain ⟨v, f, a, b, c⟩ := RpL.get (i := i) r (by simpa using e)
    exact ⟨v, f, by simpa using a, b, c.trans (List.sublist_append_right _ _)⟩
theorem RpL.append : ∀ {vs ws : List V} {ds es : List D} {f g : List Addr}, RpL K cl H vs ds f → RpL K cl H ws es g → RpL K cl H (vs ++ ws) (ds ++ es) (f ++ g)
  | _, _, _, _, _, _, .nil, s => s
  | _, _, _, _, _, _, .cons h r, s => by
    rw [List.append_assoc]
    exact .cons h (RpL.append r s)
theorem RpL.one {v : V} {d : D} {f : List Addr} (h : Rp K cl H v d f) : RpL K cl H [v] [d] f := by
  have := RpL.cons h .nil
  rwa [List.append_nil] at this
theorem RpL.drop : ∀ {vs : List V} {ds : List D} {f : List Addr} (k : Nat), RpL K cl H vs ds f → ∃ g, RpL K cl H (vs.drop k) (ds.drop k) g ∧ g.Sublist f
  | _, _, _, 0, r => ⟨_, by simpa using r, List.Sublist.refl _⟩
  | _, _, _, k + 1, .nil => ⟨_, by simpa using RpL.nil, List.Sublist.refl _⟩
  | _, _, _, k + 1, .cons h r => by
    obtain ⟨g, a, b⟩ := RpL.drop k r
    exact ⟨g, by simpa using a, b.trans (List.sublist_append_right _ _)⟩
theorem RpL.take : ∀ {vs : List V} {ds : List D} {f : List Addr} (k : Nat), RpL K cl H vs ds f → ∃ g, RpL K cl H (vs.take k) (ds.take k) g ∧ g.Sublist f
  | _, _, _, 0, r => ⟨[], by simpa using RpL.nil, List.nil_sublist _⟩
  | _, _, _, k + 1, .nil => ⟨[], by simpa using RpL.nil, List.Sublist.refl _⟩
  | _, _, _, k + 1, .cons h r => by
    obtain ⟨g, a, b⟩ := RpL.take k r
    exact ⟨_, by simpa using RpL.cons h a, List.Sublist.append (List.Sublist.refl _) b⟩
theorem RpL.set : ∀ {vs : List V} {ds : List D} {f : List Addr} (i : Nat) {v : V} {d : D} {g : List Addr}, RpL K cl H vs ds f → Rp K cl H v d g → f.Nodup → g.Nodup → (∀ a ∈ g, a ∉ f) →
    ∃ f', RpL K cl H (vs.set i v) (ds.set i d) f' ∧ (∀ a ∈ f', a ∈ f ∨ a ∈ g) ∧ f'.Nodup
  | _, _, _, i, _, _, _, .nil, _, nf, _, _ => ⟨[], by simpa using RpL.nil, by simp, nf⟩
  | _, _, _, 0, _, _, g, .cons (f1 := f1) (f2 := f2) h r, s, nf, ng, dj => by
    refine ⟨g ++ f2, by simpa using RpL.cons s r, fun a ha => ?_, ?_⟩
    · rcases List.mem_append.mp ha with q | q
      · exact .inr q
      · exact .inl (List.mem_append_right _ q)
    · rw [List.nodup_append] at nf ⊢
      exact ⟨ng, nf.2.1, fun a ha b hb e => dj a ha (List.mem_append_right _ (e ▸ hb))⟩
  | _, _, _, i + 1, _, _, g, .cons (f1 := f1) (f2 := f2) h r, s, nf, ng, dj => by
    rw [List.nodup_append] at nf
    obtain ⟨f', a, b, c⟩ := RpL.set i r s nf.2.1 ng (fun x hx q => dj x hx (List.mem_append_right _ q))
    refine ⟨f1 ++ f', by simpa using RpL.cons h a, fun x hx => ?_, ?_⟩
    · rcases List.mem_append.mp hx with q | q
      · exact .inl (List.mem_append_left _ q)
      · rcases b x q with q | q
        · exact .inl (List.mem_append_right _ q)
        · exact .inr q
    · rw [List.nodup_append]
      refine ⟨nf.1, c, fun x hx y hy e => ?_⟩
      subst e
      rcases b x hy with q | q
      · exact nf.2.2 x hx x q rfl
      · exact dj x q (List.mem_append_left _ hx)
theorem RpL.erase : ∀ {vs : List V} {ds : List D} {f : List Addr} (i : Nat), RpL K cl H vs ds f → ∃ g, RpL K cl H (vs.eraseIdx i) (ds.eraseIdx i) g ∧ g.Sublist f
  | _, _, _, i, .nil => ⟨[], by simpa using RpL.nil, List.Sublist.refl _⟩
  | _, _, _, 0, .cons h r => ⟨_, by simpa using r, List.sublist_append_right _ _⟩
  | _, _, _, i + 1, .cons h r => by
    obtain ⟨g, a, b⟩ := RpL.erase i r
    exact ⟨_, by simpa using RpL.cons h a, List.Sublist.append (List.Sublist.refl _) b⟩
theorem RpL.nil_inv {vs : List V} {f : List Addr} (h : RpL K cl H vs [] f) : vs = [] ∧ f = [] := by
  cases h; exact ⟨rfl, rfl⟩
theorem RpL.cons_inv {vs : List V} {d : D} {ds : List D} {f : List Addr} (h : RpL K cl H vs (d :: ds) f) : ∃ v ws f1 f2, vs = v :: ws ∧ f = f1 ++ f2 ∧ Rp K cl H v d f1 ∧ RpL K cl H ws ds f2 := by
  cases h with
  | cons a b => exact ⟨_, _, _, _, rfl, rfl, a, b⟩
end

abbrev bw (R : List Lab) (l : Lab) : Prop := l = .fro ∨ l ∈ R
section
variable (K : PySem.W.Frag) (cl : CE)
/-- the exception that is handled: its class, what it bears -/
inductive RpE (H : Hp) : V → D → List Addr → Prop
  | e0 {a : Addr} {c : Str} (h : cl.ex c a none) (hp : pfOf c = none) : RpE H (.ref a) (.exn c .non) []
  | e1 {a dd : Addr} {c f : Str} {v : V} {p : D} {fp : List Addr} (h : cl.ex c a (some dd)) (hp : pfOf c = some f) (hd : H dd = some (.xd [(f, v)])) (r : Rp K cl H v p fp) : RpE H (.ref a) (.exn c p) (dd :: fp)
def VR (H : Hp) (lab : Labs) (k : Kd) (t : Lab) (v : V) (d : D) : Prop :=
  match k with
  | .own => ∃ fp, Rp K cl H v d fp ∧ fp.Nodup ∧ ∀ a ∈ fp, lab a = t
  | .bor R => ∃ fp, Rp K cl H v d fp ∧ ∀ a ∈ fp, bw R (lab a)
  | .spn R => ∃ a vs ds fp, v = .ref a ∧ d = .lst ds ∧ H a = some (.lst vs) ∧ RpL K cl H vs ds fp ∧ lab a = t ∧ ∀ b ∈ fp, b ≠ a ∧ bw R (lab b)
  | .exc R => ∃ fp, RpE K cl H v d fp ∧ (∀ a ∈ fp, bw R (lab a)) ∧ (Lab.out ∈ R → t ∈ R ∧ fp.tail.Nodup ∧ ∀ a ∈ fp, lab a = t)
end
theorem RpE.ext {K : PySem.W.Frag} {cl : CE} {H H' : Hp} (tk : TK H H') {v : V} {d : D} {fp : List Addr} (h : RpE K cl H v d fp) (e : ∀ a ∈ fp, H' a = H a) : RpE K cl H' v d fp := by
  cases h with
  | e0 h hp => exact .e0 h hp
  | e1 h hp hd r => exact .e1 h hp ((e _ List.mem_cons_self).trans hd) (r.ext tk fun a ha => e a (List.mem_cons_of_mem _ ha))
theorem RpE.alloc {K : PySem.W.Frag} {cl : CE} {H : Hp} {v : V} {d : D} {fp : List Addr} (h : RpE K cl H v d fp) : ∀ a ∈ fp, ∃ o, H a = some o ∧ isMut o := by
  cases h with
  | e0 h hp => simp
  | e1 h hp hd r => exact alloc_head hd True.intro r.alloc
theorem RpE.ce {K : PySem.W.Frag} {cl cl' : CE} {H : Hp} {v : V} {d : D} {fp : List Addr} (h : RpE K cl H v d fp) (h1 : ∀ c C, cl.cl c C → cl'.cl c C) (h2 : ∀ c a d, cl.ex c a d → cl'.ex c a d) : RpE K cl' H v d fp := by
  cases h with
  | e0 h hp => exact .e0 (h2 _ _ _ h) hp
  | e1 h hp hd r => exact .e1 (h2 _ _ _ h) hp hd (r.ce h1)
def keepL (m : List Nat) (n : Nat) : Lab → Bool
  | .out => true
  | .prm => true
  | .fro => true
  | .slt i => !m.contains i
  | .tmp j => decide (j < n)
def oldL : Lab → Bool
  | .out => true
  | .prm => true
  | _ => false
/-- what stays: all but the slots at m and what has come since n -/
structure Pres (m : List Nat) (n : Nat) (H : Hp) (lab : Labs) (H' : Hp) (lab' : Labs) : Prop where
  keep : ∀ a, H a ≠ none → keepL m n (lab a) = true → H' a = H a ∧ lab' a = lab a
  tk : TK H H'
  there : ∀ a, H a ≠ none → H' a ≠ none
  old : ∀ a, H' a ≠ none → oldL (lab' a) = true → H a ≠ none ∧ lab a = lab' a
theorem Pres.refl (m : List Nat) (n : Nat) (H : Hp) (lab : Labs) : Pres m n H lab H lab := ⟨fun _ _ _ => ⟨rfl, rfl⟩, TK.refl H, fun _ h => h, fun _ h _ => ⟨h, rfl⟩⟩
/-- (m, n) keeps no more than (m', n') -/
def SubK (m : List Nat) (n : Nat) (m' : List Nat) (n' : Nat) : Prop := ∀ l, keepL m n l = true → keepL m' n' l = true
theorem SubK.refl (m : List Nat) (n : Nat) : SubK m n m n := fun _ h => h
theorem SubK.trans {m m1 m2 : List Nat} {n n1 n2 : Nat} (a : SubK m n m1 n1) (b : SubK m1 n1 m2 n2) : SubK m n m2 n2 := fun l h => b l (a l h)
theorem SubK.of {m m' : List Nat} {n n' : Nat} (h : ∀ i ∈ m', i ∈ m) (hn : n ≤ n') : SubK m n m' n' := fun l => by
  cases l with
  | slt i =>
    simp only [keepL, Bool.not_eq_true', List.contains_eq_mem, decide_eq_false_iff_not]
    exact fun q z => q (h i z)
  | tmp j =>
    simp only [keepL, decide_eq_true_eq]
    omega
  | _ => exact fun q => q
theorem SubK.left (m m' : List Nat) (n : Nat) : SubK (m ++ m') n m n := .of (fun _ h => List.mem_append_left _ h) (Nat.le_refl _)
theorem SubK.right (m m' : List Nat) (n : Nat) : SubK (m ++ m') n m' n := .of (fun _ h => List.mem_append_right _ h) (Nat.le_refl _)
theorem SubK.up (m : List Nat) (n : Nat) : SubK m n m (n + 1) := .of (fun _ h => h) (Nat.le_succ _)
theorem SubK.nil (m : List Nat) (n : Nat) : SubK m n [] n := .of (fun _ h => by simp at h) (Nat.le_refl _)
theorem Pres.trans {m m1 m2 : List Nat} {n n1 n2 : Nat} {H H1 H2 : Hp} {lab lab1 lab2 : Labs} (a : Pres m1 n1 H lab H1 lab1) (b : Pres m2 n2 H1 lab1 H2 lab2) (s1 : SubK m n m1 n1) (s2 : SubK m n m2 n2) : Pres m n H lab H2 lab2 where
  keep := fun x hx hk => by
    obtain ⟨e1, e2⟩ := a.keep x hx (s1 _ hk)
    obtain ⟨e3, e4⟩ := b.keep x (a.there x hx) (by rw [e2]; exact s2 _ hk)
    exact ⟨e3.trans e1, e4.trans e2⟩
  tk := a.tk.trans b.tk
  there := fun x hx => b.there x (a.there x hx)
  old := fun x hx ho => by
    obtain ⟨e1, e2⟩ := b.old x hx ho
    obtain ⟨e3, e4⟩ := a.old x e1 (by rw [e2]; exact ho)
    exact ⟨e3, e4.trans e2⟩
theorem Pres.mono {m m1 : List Nat} {n n1 : Nat} {H H1 : Hp} {lab lab1 : Labs} (a : Pres m1 n1 H lab H1 lab1) (s : SubK m n m1 n1) : Pres m n H lab H1 lab1 := ⟨fun x hx hk => a.keep x hx (s _ hk), a.tk, a.there, a.old⟩
abbrev setL (lab : Labs) (p : Addr) (t : Lab) : Labs := fun b => if b = p then t else lab b
/-- a new object -/
theorem Pres.alloc {m : List Nat} {n : Nat} {H : Hp} {lab : Labs} {p : Addr} {o : HO} {t : Lab} (hp : H p = none) (ht : oldL t = false) : Pres m n H lab (upd H p o) (setL lab p t) where
  keep := fun x hx _ => by
    have : x ≠ p := fun e => hx (by rw [e]; exact hp)
    exact ⟨upd_ne this, if_neg this⟩
  tk := TK.new hp
  there := fun x hx => by rw [upd_ne (fun e => hx (by rw [e]; exact hp))]; exact hx
  old := fun x hx ho => by
    by_cases e : x = p
    · subst e
      simp only [setL, if_true] at ho
      rw [ht] at ho; cases ho
    · simp only [setL, if_neg e] at ho ⊢
      rw [upd_ne e] at hx
      exact ⟨hx, trivial⟩
/-- other labels for what need not stay -/
theorem Pres.relab {m : List Nat} {n : Nat} {H : Hp} {lab lab' : Labs} (h : ∀ a, keepL m n (lab a) = true → lab' a = lab a) (h2 : ∀ a, oldL (lab' a) = true → lab a = lab' a) : Pres m n H lab H lab' :=
  ⟨fun a _ k => ⟨rfl, h a k⟩, TK.refl H, fun _ q => q, fun a q o => ⟨q, h2 a o⟩⟩
/-- an object of one's own is changed -/
theorem Pres.mut {m : List Nat} {n : Nat} {H : Hp} {lab : Labs} {p : Addr} {u o : HO} (hp : H p = some u) (mu : isMut u) (hk : keepL m n (lab p) = false) : Pres m n H lab (upd H p o) lab where
  keep := fun x hx k => by
    have : x ≠ p := fun e => by subst e; rw [hk] at k; cases k
    exact ⟨upd_ne this, rfl⟩
  tk := TK.mut hp mu
  there := fun x hx => by
    by_cases e : x = p
    · subst e; rw [upd_same]; simp
    · rw [upd_ne e]; exact hx
  old := fun x hx ho => by
    by_cases e : x = p
    · subst e; exact ⟨by rw [hp]; simp, rfl⟩
    · rw [upd_ne e] at hx; exact ⟨hx, rfl⟩
/-- does the value stay -/
def okK (m : List Nat) (n : Nat) : Kd → Bool
  | .own => true
  | .bor R => R.all (keepL m n)
  | .spn R => R.all (keepL m n)
  | .exc R => R.all (keepL m n)
section
variable {K : PySem.W.Frag} {cl : CE} {H H' : Hp} {lab lab' : Labs} {m : List Nat} {n : Nat} {k : Kd} {t : Lab} {v : V} {d : D}
theorem bw_keep {R : List Lab} (h : R.all (keepL m n) = true) {l : Lab} (b : bw R l) : keepL m n l = true := by
  rcases b with rfl | b
  · rfl
  · exact List.all_eq_true.mp h _ b
theorem VR.pres (p : Pres m n H lab H' lab') (h : VR K cl H lab k t v d) (ok : okK m n k = true) (ht : keepL m n t = true) : VR K cl H' lab' k t v d := by
  cases k with
  | own =>
    obtain ⟨fp, r, nd, l⟩ := h
    have e : ∀ a ∈ fp, H' a = H a ∧ lab' a = lab a := fun a ha => p.keep a (by obtain ⟨o, e, _⟩ := r.alloc a ha; rw [e]; simp) (by rw [l a ha]; exact ht)
    exact ⟨fp, r.ext p.tk fun a ha => (e a ha).1, nd, fun a ha => (e a ha).2.trans (l a ha)⟩
  | bor R =>
    obtain ⟨fp, r, l⟩ := h
    have e : ∀ a ∈ fp, H' a = H a ∧ lab' a = lab a := fun a ha => p.keep a (by obtain ⟨o, e, _⟩ := r.alloc a ha; rw [e]; simp) (bw_keep ok (l a ha))
    exact ⟨fp, r.ext p.tk fun a ha => (e a ha).1, fun a ha => by rw [(e a ha).2]; exact l a ha⟩
  | spn R =>
    obtain ⟨a, vs, ds, fp, rfl, rfl, ha, r, la, l⟩ := h
    have e0 := p.keep a (by rw [ha]; simp) (by rw [la]; exact ht)
    have e : ∀ b ∈ fp, H' b = H b ∧ lab' b = lab b := fun b hb => p.keep b (by obtain ⟨o, e, _⟩ := r.alloc b hb; rw [e]; simp) (bw_keep ok (l b hb).2)
    exact ⟨a, vs, ds, fp, rfl, rfl, e0.1.trans ha, r.ext p.tk fun b hb => (e b hb).1, e0.2.trans la, fun b hb => ⟨(l b hb).1, by rw [(e b hb).2]; exact (l b hb).2⟩⟩
  | exc R =>
    obtain ⟨fp, r, l, u⟩ := h
    have e : ∀ a ∈ fp, H' a = H a ∧ lab' a = lab a := fun a ha => p.keep a (by obtain ⟨o, e, _⟩ := r.alloc a ha; rw [e]; simp) (bw_keep ok (l a ha))
    exact ⟨fp, r.ext p.tk fun a ha => (e a ha).1, fun a ha => by rw [(e a ha).2]; exact l a ha, fun z => ⟨(u z).1, (u z).2.1, fun a ha => by rw [(e a ha).2]; exact (u z).2.2 a ha⟩⟩
/-- no exception -/
def D.noE : D → Bool
  | .exn _ _ => false
  | _ => true
/-- whatever it is held by: it is d -/
theorem VR.rp (h : VR K cl H lab k t v d) (hn : d.noE = true := by rfl) : ∃ fp, Rp K cl H v d fp := by
  cases k with
  | own => obtain ⟨fp, r, _⟩ := h; exact ⟨fp, r⟩
  | bor R => obtain ⟨fp, r, _⟩ := h; exact ⟨fp, r⟩
  | spn R => obtain ⟨a, vs, ds, fp, rfl, rfl, ha, r, _⟩ := h; exact ⟨_, .lst ha r⟩
  | exc R => obtain ⟨fp, r, _⟩ := h; cases r <;> cases hn
theorem VR.int {i : Int} (h : VR K cl H lab k t v (.int i)) : v = .int i := by
  obtain ⟨fp, r⟩ := h.rp
  cases r; rfl
theorem VR.bl {b : Bool} (h : VR K cl H lab k t v (.bl b)) : v = .bl b := by
  obtain ⟨fp, r⟩ := h.rp
  cases r; rfl
theorem VR.str {x : Str} (h : VR K cl H lab k t v (.str x)) : v = .str x := by
  obtain ⟨fp, r⟩ := h.rp
  cases r; rfl
theorem VR.non (h : VR K cl H lab k t v .non) : v = .non := by
  obtain ⟨fp, r⟩ := h.rp
  cases r; rfl
theorem VR.of_nil (r : Rp K cl H v d []) : VR K cl H lab .own t v d := ⟨[], r, List.nodup_nil, fun a ha => by simp at ha⟩
theorem VR.ce {cl' : CE} (h : VR K cl H lab k t v d) (h1 : ∀ c C, cl.cl c C → cl'.cl c C) (h2 : ∀ c a d, cl.ex c a d → cl'.ex c a d) : VR K cl' H lab k t v d := by
  cases k with
  | own => obtain ⟨fp, r, q⟩ := h; exact ⟨fp, r.ce h1, q⟩
  | bor R => obtain ⟨fp, r, q⟩ := h; exact ⟨fp, r.ce h1, q⟩
  | spn R => obtain ⟨a, vs, ds, fp, e1, e2, ha, r, q⟩ := h; exact ⟨a, vs, ds, fp, e1, e2, ha, r.ce h1, q⟩
  | exc R => obtain ⟨fp, r, q⟩ := h; exact ⟨fp, r.ce h1 h2, q⟩
theorem VR.flat (h : VR K cl H lab k t v d) (f : d.flat = true) {t' : Lab} : VR K cl H' lab' .own t' v d ∨ True := .inr True.intro
theorem VR.flat_own (h : VR K cl H lab k t v d) (f : d.flat = true) {t' : Lab} : VR K cl H lab .own t' v d := by
  obtain ⟨fp, r⟩ := h.rp (by cases d <;> first | rfl | cases f)
  have e := r.flat f
  subst e
  exact .of_nil r
end
end Ow


namespace Ow
open PySem PySem.Spec PyProof.Rows L2
abbrev St := L2.St
/-- in a def of the module -/
abbrev clM (mg : Str → Option Value) : CE := ⟨fun c C => mg c = some (.ref C), fun _ _ _ => False⟩
abbrev clX (X : Cx) : CE := ⟨fun c C => X.mg c = some (.ref C), fun c a dd => X.calm = false ∧ ∃ oe vs C, X.pn.head? = some (a, oe) ∧ oe.data = .fields vs ∧ X.mg c = some (.ref C) ∧ Zc (.ref C) dd oe⟩
/-- the slots' values -/
structure SR (X : Cx) (Γ : Ctx) (σ : St) (H : Hp) (lab : Labs) (σD : List D) : Prop where
  l1 : σ.length = X.N.length
  l2 : σD.length = X.N.length
  at_ : ∀ (i : Nat) k, Γ[i]? = some (some k) → ∃ v d, σ[i]? = some (some v) ∧ σD[i]? = some d ∧ VR X.K (clX X) H lab k (.slt i) v d
/-- no slot leans on what comes later -/
def gok (Γ : Ctx) (n : Nat) : Bool := Γ.all fun k => match k with
  | none => true
  | some k => okK [] n k
theorem gok.at_ {Γ : Ctx} {n : Nat} (h : gok Γ n = true) {i : Nat} {k : Kd} (e : Γ[i]? = some (some k)) : okK [] n k = true :=
  List.all_eq_true.mp h _ (List.mem_of_getElem? e)
theorem keepL.up {m : List Nat} {n : Nat} {l : Lab} (h : keepL m n l = true) : keepL m (n + 1) l = true := by
  cases l with
  | tmp j => simp only [keepL, decide_eq_true_eq] at h ⊢; omega
  | _ => exact h
theorem okK.up {m : List Nat} {n : Nat} {k : Kd} (h : okK m n k = true) : okK m (n + 1) k = true := by
  cases k with
  | own => rfl
  | bor R => exact List.all_eq_true.mpr fun x hx => keepL.up (List.all_eq_true.mp h x hx)
  | spn R => exact List.all_eq_true.mpr fun x hx => keepL.up (List.all_eq_true.mp h x hx)
  | exc R => exact List.all_eq_true.mpr fun x hx => keepL.up (List.all_eq_true.mp h x hx)
theorem gok.up {Γ : Ctx} {n : Nat} (h : gok Γ n = true) : gok Γ (n + 1) = true := List.all_eq_true.mpr fun k hk => by
  have := List.all_eq_true.mp h k hk
  cases k with
  | none => rfl
  | some k => exact okK.up this
/-- the slots that live are not at m, nor lean on those -/
def gokm (Γ : Ctx) (m : List Nat) (n : Nat) : Bool := (List.range Γ.length).all fun i => match Γ[i]? with
  | some (some k) => okK m n k && !m.contains i
  | _ => true
theorem gokm.at_ {Γ : Ctx} {m : List Nat} {n : Nat} (h : gokm Γ m n = true) {i : Nat} {k : Kd} (e : Γ[i]? = some (some k)) : okK m n k = true ∧ keepL m n (.slt i) = true := by
  have := List.all_eq_true.mp h i (List.mem_range.mpr (List.getElem?_eq_some_iff.mp e).1)
  rw [e] at this
  rw [Bool.and_eq_true] at this
  exact this
section
variable {X : Cx} {Γ : Ctx} {σ : St} {H H' : Hp} {lab lab' : Labs} {σD : List D} {m : List Nat} {n : Nat}
theorem SR.pres (s : SR X Γ σ H lab σD) (g : gok Γ n = true) (p : Pres [] n H lab H' lab') : SR X Γ σ H' lab' σD :=
  ⟨s.l1, s.l2, fun i k e => by
    obtain ⟨v, d, a, b, c⟩ := s.at_ i k e
    exact ⟨v, d, a, b, c.pres p (gok.at_ g e) rfl⟩⟩
theorem SR.get (s : SR X Γ σ H lab σD) {i : Nat} {k : Kd} (e : Γ[i]? = some (some k)) : ∃ v, σ[i]? = some (some v) ∧ VR X.K (clX X) H lab k (.slt i) v (σD.getD i .non) := by
  obtain ⟨v, d, a, b, c⟩ := s.at_ i k e
  refine ⟨v, a, ?_⟩
  rw [List.getD_eq_getElem?_getD, b]
  exact c
end

inductive ER (α : Type) where
  | stuck | ok (a : α) (σ : List D) | exc (c : Str) (p : D) (σ : List D)
def ER.bind {α β : Type} (r : ER α) (f : α → List D → ER β) : ER β := match r with
  | .stuck => .stuck
  | .ok a σ => f a σ
  | .exc c p σ => .exc c p σ
def ofO {α : Type} (o : Option α) (σ : List D) : ER α := match o with
  | some a => .ok a σ
  | none => .stuck
@[simp] theorem ER.bind_ok {α β : Type} (a : α) (σ : List D) (f : α → List D → ER β) : (ER.ok a σ).bind f = f a σ := rfl
@[simp] theorem ER.bind_stuck {α β : Type} (f : α → List D → ER β) : (ER.stuck : ER α).bind f = .stuck := rfl
@[simp] theorem ER.bind_exc {α β : Type} (c : Str) (p : D) (σ : List D) (f : α → List D → ER β) : (ER.exc c p σ : ER α).bind f = .exc c p σ := rfl
@[simp] theorem ofO_some {α : Type} (a : α) (σ : List D) : ofO (some a) σ = .ok a σ := rfl
@[simp] theorem ofO_none {α : Type} (σ : List D) : ofO (none : Option α) σ = .stuck := rfl
def PayOk (X : Cx) (H : Hp) (lab : Labs) (n : Nat) (c : Str) (p : D) (dd : Option Addr) : Prop := match pfOf c with
  | none => p = .non ∧ dd = none
  | some f => ∃ (d : Addr) (v : V) (j : Nat), dd = some d ∧ H d = some (.xd [(f, v)]) ∧ lab d = .tmp j ∧ n ≤ j ∧ VR X.K (clX X) H lab .own (.tmp j) v p
abbrev Rel (β α : Type) := List D → Hp → Labs → β → α → Prop
section
variable {α β γ δ : Type}
/-- what a part's outcome asks of what follows -/
def Post (X : Cx) (W : WX) (Γx Γ : Ctx) (σ : St) (m : List Nat) (n : Nat) (rel : Rel β α) (H : Hp) (lab : Labs) (Q : β → Hp → Prop) : ER α → Prop
  | .stuck => False
  | .ok a σD' => ∀ b H' lab', SR X Γ σ H' lab' σD' → Pres m n H lab H' lab' → rel σD' H' lab' b a → Q b H'
  | .exc c p σD' => ∀ H' lab' C dd, X.mg c = some (.ref C) → SR X Γx σ H' lab' σD' → Pres m n H lab H' lab' → PayOk X H' lab' n c p dd → W (.ref C) dd σ H'
variable {X : Cx} {W : WX} {Γx Γ : Ctx} {σ : St} {m m1 m2 : List Nat} {n n1 n2 : Nat} {H H1 : Hp} {lab lab1 : Labs}
theorem PayOk.mono {H : Hp} {lab : Labs} {c : Str} {p : D} {dd : Option Addr} (h : PayOk X H lab n1 c p dd) (hn : n ≤ n1) : PayOk X H lab n c p dd := by
  unfold PayOk at h ⊢
  split at h
  · exact h
  · obtain ⟨d, v, j, a, b, l, c, e⟩ := h
    exact ⟨d, v, j, a, b, l, Nat.le_trans hn c, e⟩
/-- one part, then the rest -/
theorem Post.seq {rel : Rel β α} {rel1 : Rel δ γ} {Q : β → Hp → Prop} {Q1 : δ → Hp → Prop} {r : ER γ} {f : γ → List D → ER α} (h : Post X W Γx Γ σ m n rel H lab Q (r.bind f)) (s1 : SubK m n m1 n1) (h1 : n ≤ n1) (s2 : SubK m n m2 n2) (h2 : n ≤ n2)
    (k : ∀ a σD1 b H1 lab1, SR X Γ σ H1 lab1 σD1 → Pres m1 n1 H lab H1 lab1 → rel1 σD1 H1 lab1 b a → Post X W Γx Γ σ m2 n2 rel H1 lab1 Q (f a σD1) → Q1 b H1) : Post X W Γx Γ σ m1 n1 rel1 H lab Q1 r := by
  cases r with
  | stuck => exact h.elim
  | ok a σD1 =>
    intro b H1 lab1 sr pr rl
    refine k a σD1 b H1 lab1 sr pr rl ?_
    have h : Post X W Γx Γ σ m n rel H lab Q (f a σD1) := h
    cases e : f a σD1 with
    | stuck => rw [e] at h; exact h.elim
    | ok a2 σD2 =>
      rw [e] at h
      intro b2 H2 lab2 sr2 pr2 rl2
      exact h b2 H2 lab2 sr2 (pr.trans pr2 s1 s2) rl2
    | exc c p σD2 =>
      rw [e] at h
      intro H2 lab2 C dd hc sr2 pr2 py
      exact h H2 lab2 C dd hc sr2 (pr.trans pr2 s1 s2) (py.mono h2)
  | exc c p σD1 =>
    intro H1 lab1 C dd hc sr pr py
    have h : Post X W Γx Γ σ m n rel H lab Q (.exc c p σD1) := h
    exact h H1 lab1 C dd hc sr (pr.mono s1) (py.mono h1)
/-- .. the common case -/
theorem Post.seq' {rel : Rel β α} {rel1 : Rel δ γ} {Q : β → Hp → Prop} {Q1 : δ → Hp → Prop} {r : ER γ} {f : γ → List D → ER α} (h : Post X W Γx Γ σ (m1 ++ m2) n rel H lab Q (r.bind f))
    (k : ∀ a σD1 b H1 lab1, SR X Γ σ H1 lab1 σD1 → Pres m1 n H lab H1 lab1 → rel1 σD1 H1 lab1 b a → Post X W Γx Γ σ m2 n rel H1 lab1 Q (f a σD1) → Q1 b H1) : Post X W Γx Γ σ m1 n rel1 H lab Q1 r :=
  h.seq (SubK.left _ _ _) (Nat.le_refl _) (SubK.right _ _ _) (Nat.le_refl _) k
/-- .. the last part -/
theorem Post.last {rel : Rel β α} {rel1 : Rel δ γ} {Q : β → Hp → Prop} {Q1 : δ → Hp → Prop} {r : ER γ} {f : γ → List D → ER α} (h : Post X W Γx Γ σ m n rel H lab Q (r.bind f))
    (k : ∀ a σD1 b H1 lab1, SR X Γ σ H1 lab1 σD1 → Pres m n H lab H1 lab1 → rel1 σD1 H1 lab1 b a → Post X W Γx Γ σ [] n rel H1 lab1 Q (f a σD1) → Q1 b H1) : Post X W Γx Γ σ m n rel1 H lab Q1 r :=
  h.seq (SubK.refl _ _) (Nat.le_refl _) (SubK.nil _ _) (Nat.le_refl _) k
theorem Post.imp {rel rel' : Rel β α} {Q Q' : β → Hp → Prop} {r : ER α} (h : Post X W Γx Γ σ m n rel H lab Q r) (hr : ∀ a σD' H' b lab', SR X Γ σ H' lab' σD' → Pres m1 n1 H lab H' lab' → rel' σD' H' lab' b a → (∀ b H' lab', SR X Γ σ H' lab' σD' → Pres m n H lab H' lab' → rel σD' H' lab' b a → Q b H') → Q' b H') (s : SubK m n m1 n1) (hn : n ≤ n1) : Post X W Γx Γ σ m1 n1 rel' H lab Q' r := by
  cases r with
  | stuck => exact h.elim
  | ok a σD' => exact fun b H' lab' sr pr rl => hr a σD' H' b lab' sr pr rl h
  | exc c p σD' => exact fun H' lab' C dd hc sr pr py => h H' lab' C dd hc sr (pr.mono s) (py.mono hn)
theorem Post.done {rel : Rel β α} {Q : β → Hp → Prop} {σD : List D} {o : Option α} (h : Post X W Γx Γ σ m n rel H lab Q (ofO o σD)) : ∃ z, o = some z ∧ ∀ b H' lab', SR X Γ σ H' lab' σD → Pres m n H lab H' lab' → rel σD H' lab' b z → Q b H' := by
  cases o with
  | none => exact h.elim
  | some z => exact ⟨z, rfl, h⟩
end

section
variable (X : Cx) (W : WX) (Γx Γ : Ctx) (n : Nat) (m : List Nat)
abbrev relE (X : Cx) (n : Nat) (k : Kd) : Rel V D := fun _ H lab v d => VR X.K (clX X) H lab k (.tmp n) v d
abbrev relT : Rel Bool Bool := fun _ _ _ b a => b = a
def rdE (k : Kd) (g : List D → ER D) : TE := fun σ H Q => ∃ σD lab, gok Γ n = true ∧ SR X Γ σ H lab σD ∧ Post X W Γx Γ σ m n (relE X n k) H lab Q (g σD)
def rdT (g : List D → ER Bool) : TT := fun σ H Q => ∃ σD lab, gok Γ n = true ∧ SR X Γ σ H lab σD ∧ Post X W Γx Γ σ m n relT H lab Q (g σD)
abbrev EJ (e : Expr) (g : List D → ER D) (k : Kd) : Prop := PE X e (rdE X W Γx Γ n m k g)
abbrev TJ (e : Expr) (g : List D → ER Bool) : Prop := PT X e (rdT X W Γx Γ n m g)
end
theorem pe_imp {X : Cx} {e : Expr} {t u : TE} (h : PE X e t) (i : ∀ σ H Q, u σ H Q → t σ H Q) : PE X e u := ⟨fun pins s σ H Q I q => h.run pins s σ H Q I (i σ H Q q)⟩
theorem pt_imp {X : Cx} {e : Expr} {t u : TT} (h : PT X e t) (i : ∀ σ H Q, u σ H Q → t σ H Q) : PT X e u := ⟨fun pins s σ H Q I q => h.run pins s σ H Q I (i σ H Q q)⟩
theorem pa_imp {X : Cx} {e : List Expr} {t u : TA} (h : PA X e t) (i : ∀ σ H Q, u σ H Q → t σ H Q) : PA X e u := ⟨fun pos pins s σ H Q I q => h.run pos pins s σ H Q I (i σ H Q q)⟩
theorem ps_imp {X : Cx} {e : Stmt} {t u : TS} (h : PS X e t) (i : ∀ D σ H, u D σ H → t D σ H) : PS X e u := ⟨fun pins s σ H D I q => h.run pins s σ H D I (i D σ H q)⟩
theorem pss_imp {X : Cx} {e : List Stmt} {t u : TS} (h : PSs X e t) (i : ∀ D σ H, u D σ H → t D σ H) : PSs X e u := ⟨fun pins s σ H D I q => h.run pins s σ H D I (i D σ H q)⟩

def borK (i : Nat) : Kd → Kd
  | .own => .bor [.slt i]
  | .bor R => .bor R
  | .spn R => .bor (.slt i :: R)
  | .exc R => .exc (R.filter fun l => decide (l ≠ .out))
section
variable {X : Cx} {W : WX} {Γx Γ : Ctx} {n : Nat} {m m1 m2 : List Nat} {pos : Pos}
theorem VR.borrow {K : PySem.W.Frag} {cl : CE} {H : Hp} {lab : Labs} {k : Kd} {i : Nat} {v : V} {d : D} {t : Lab} (h : VR K cl H lab k (.slt i) v d) : VR K cl H lab (borK i k) t v d := by
  cases k with
  | own =>
    obtain ⟨fp, r, _, l⟩ := h
    exact ⟨fp, r, fun a ha => .inr (by rw [l a ha]; exact List.mem_cons_self)⟩
  | bor R => exact h
  | spn R =>
    obtain ⟨a, vs, ds, fp, rfl, rfl, ha, r, la, l⟩ := h
    refine ⟨_, .lst ha r, fun b hb => ?_⟩
    rcases List.mem_cons.mp hb with q | q
    · exact .inr (by rw [q, la]; exact List.mem_cons_self)
    · exact (l b q).2.elim .inl fun z => .inr (List.mem_cons_of_mem _ z)
  | exc R =>
    obtain ⟨fp, r, l, u⟩ := h
    refine ⟨fp, r, fun a ha => ?_, fun z => by simp at z⟩
    by_cases z : Lab.out ∈ R
    · obtain ⟨u1, _, u3⟩ := u z
      exact .inr (List.mem_filter.mpr ⟨by rw [u3 a ha]; exact u1, by rw [u3 a ha]; rfl⟩)
    · rcases l a ha with e | e
      · exact .inl e
      · exact .inr (List.mem_filter.mpr ⟨e, decide_eq_true fun q => z (q ▸ e)⟩)
def eVar (i : Nat) : List D → ER D := fun σ => .ok (σ.getD i .non) σ
theorem ej_var {i : Nat} {x : Str} {k : Kd} (hΓ : Γ[i]? = some (some k)) (h : PE X (.Name x pos) (tVar i)) : EJ X W Γx Γ n [] (.Name x pos) (eVar i) (borK i k) := by
  refine pe_imp h fun σ H Q hq => ?_
  obtain ⟨σD, lab, g, sr, po⟩ := hq
  obtain ⟨v, hv, hr⟩ := sr.get hΓ
  exact ⟨v, hv, po v H lab sr (.refl _ _ _ _) hr.borrow⟩
def eC (d : D) : List D → ER D := fun σ => .ok d σ
theorem ej_c {e : Expr} {v : V} {d : D} (h : PE X e (tC v)) (r : ∀ H, Rp X.K (clX X) H v d []) : EJ X W Γx Γ n [] e (eC d) .own := by
  refine pe_imp h fun σ H Q hq => ?_
  obtain ⟨σD, lab, g, sr, po⟩ := hq
  exact po v H lab sr (.refl _ _ _ _) (.of_nil (r H))
theorem ej_int {i : Int} {j} : EJ X W Γx Γ n [] (.Constant (.int i) j pos) (eC (.int i)) .own := ej_c pe_int fun _ => .int i
theorem ej_bl {b : Bool} {j} : EJ X W Γx Γ n [] (.Constant (.bool b) j pos) (eC (.bl b)) .own := ej_c pe_bl fun _ => .bl b
theorem ej_non {j} : EJ X W Γx Γ n [] (.Constant .none j pos) (eC .non) .own := ej_c pe_non fun _ => .non
theorem ej_str {x : Str} {j} : EJ X W Γx Γ n [] (.Constant (.str x) j pos) (eC (.str x)) .own := ej_c pe_str fun _ => .str x

inductive SV : V → D → Prop
  | non : SV .non .non
  | bl (b : Bool) : SV (.bl b) (.bl b)
  | int (i : Int) : SV (.int i) (.int i)
  | str (x : Str) : SV (.str x) (.str x)
theorem SV.vr {K : PySem.W.Frag} {cl : CE} {H : Hp} {lab : Labs} {v : V} {d : D} {t : Lab} (h : SV v d) : VR K cl H lab .own t v d := by
  cases h
  · exact .of_nil .non
  · exact .of_nil (.bl _)
  · exact .of_nil (.int _)
  · exact .of_nil (.str _)
def eBin (f : D → D → Option D) (ga gb : List D → ER D) : List D → ER D := fun σ => (ga σ).bind fun x σ1 => (gb σ1).bind fun y σ2 => ofO (f x y) σ2
/-- f is what the operation r does, on scalars -/
def ScalOp (f : D → D → Option D) (r : R2) : Prop := ∀ x y z, f x y = some z → ∃ zv, SV zv z ∧ ∀ (K : PySem.W.Frag) (cl : CE) (H H1 H2 : Hp) (lab lab1 : Labs) (k k1 : Kd) (t t1 : Lab) (v w : V) (Q : VK), VR K cl H lab k t v x → VR K cl H1 lab1 k1 t1 w y → Q zv H2 → r v w H2 Q
theorem bin_imp {f : D → D → Option D} {r : R2} {ta tb : TE} {ga gb : List D → ER D} {k k1 : Kd} (hf : ScalOp f r) (ha : ∀ σ H Q, rdE X W Γx Γ n m1 k ga σ H Q → ta σ H Q) (hb : ∀ σ H Q, rdE X W Γx Γ n m2 k1 gb σ H Q → tb σ H Q) (σ : St) (H : Hp) (Q : VK) (h : rdE X W Γx Γ n (m1 ++ m2) .own (eBin f ga gb) σ H Q) : tOp r ta tb σ H Q := by
  obtain ⟨σD, lab, g, sr, po⟩ := h
  refine ha _ _ _ ⟨σD, lab, g, sr, po.seq' fun x σD1 v H1 lab1 sr1 pr1 rl1 po1 => ?_⟩
  refine hb _ _ _ ⟨σD1, lab1, g, sr1, po1.last fun y σD2 w H2 lab2 sr2 pr2 rl2 po2 => ?_⟩
  obtain ⟨z, e, q⟩ := po2.done
  obtain ⟨zv, sv, hr⟩ := hf x y z e
  exact hr _ _ _ _ _ _ _ _ _ _ _ _ _ _ rl1 rl2 (q zv _ _ sr2 (.refl _ _ _ _) sv.vr)
theorem ej_bin {a b : Expr} {op : Operator} {f : D → D → Option D} {r : R2} {ga gb : List D → ER D} {k k1 : Kd} (hf : ScalOp f r) (ho : OpR X (binaryOp op) r) (ha : EJ X W Γx Γ n m1 a ga k) (hb : EJ X W Γx Γ n m2 b gb k1) : EJ X W Γx Γ n (m1 ++ m2) (.BinOp a op b pos) (eBin f ga gb) .own :=
  pe_imp (pe_op ho ha hb) fun σ H Q h => bin_imp hf (fun _ _ _ q => q) (fun _ _ _ q => q) σ H Q h
theorem ej_cmp {a b : Expr} {op : CmpOp} {f : D → D → Option D} {r : R2} {ga gb : List D → ER D} {k k1 : Kd} (hf : ScalOp f r) (ho : OpR X (compareOp op) r) (ha : EJ X W Γx Γ n m1 a ga k) (hb : EJ X W Γx Γ n m2 b gb k1) (hm : behindInMarks op b = false) : EJ X W Γx Γ n (m1 ++ m2) (.Compare a [op] [b] pos) (eBin f ga gb) .own :=
  pe_imp (pe_cmpR ho ha hb hm) fun σ H Q h => bin_imp hf (fun _ _ _ q => q) (fun _ _ _ q => q) σ H Q h
end
end Ow


namespace Ow
open PySem PySem.Spec PyProof.Rows L2
def mulOk (i j : Int) : Bool := decide (-(2 ^ 64) < i ∧ i < 2 ^ 64) || decide (-(2 ^ 64) < j ∧ j < 2 ^ 64) || decide (i.natAbs.log2 + j.natAbs.log2 < 1000000)
def divOk (j : Int) : Bool := decide (j ≠ 0) && decide (j.natAbs.log2 < 9000)
def powOk (i j : Int) : Bool := decide (0 ≤ j) && decide (j ≤ 1000000) && decide (i.natAbs < 2 ^ 64)
def dAdd : D → D → Option D
  | .int i, .int j => some (.int (i + j))
  | _, _ => none
def dSub : D → D → Option D
  | .int i, .int j => some (.int (i - j))
  | _, _ => none
def dMul : D → D → Option D
  | .int i, .int j => if mulOk i j = true then some (.int (i * j)) else none
  | _, _ => none
def dDiv : D → D → Option D
  | .int i, .int j => if divOk j = true then some (.int (i.fdiv j)) else none
  | _, _ => none
def dMod : D → D → Option D
  | .int i, .int j => if j ≠ 0 then some (.int (i.fmod j)) else none
  | _, _ => none
def dPow : D → D → Option D
  | .int i, .int j => if powOk i j = true then some (.int (i ^ j.toNat)) else none
  | _, _ => none
def dLt : D → D → Option D
  | .int i, .int j => some (.bl (decide (i < j)))
  | _, _ => none
def dLe : D → D → Option D
  | .int i, .int j => some (.bl (decide (i ≤ j)))
  | _, _ => none
def dGt : D → D → Option D
  | .int i, .int j => some (.bl (decide (j < i)))
  | _, _ => none
def dGe : D → D → Option D
  | .int i, .int j => some (.bl (decide (j ≤ i)))
  | _, _ => none
def CFdiv (i j : Int) : Prop := j ≠ 0 ∧ j.natAbs.log2 < 9000
theorem op_fdivA {X : Cx} : OpR X (binaryOp .FloorDiv) (rI CFdiv fun i j => .int (i.fdiv j)) := opI fun i j _ _ _ _ _ hc q => floordiv_int hc.1 q (.inl (PyProof.noPylong_of_log2 hc.2))
theorem op_mulA {X : Cx} : OpR X (binaryOp .Mult) (rI (fun i j => CMul i j ∨ CMulW i j) fun i j => .int (i * j)) := opI fun i j _ _ _ _ _ hc q => mul_int q (hc.elim CMul.ok CMulW.ok)
theorem scal_int2 {f : D → D → Option D} {C : Int → Int → Prop} {g : Int → Int → V} {gd : Int → Int → D} (h : ∀ x y z, f x y = some z → ∃ i j, x = .int i ∧ y = .int j ∧ C i j ∧ z = gd i j) (hg : ∀ i j, SV (g i j) (gd i j)) : ScalOp f (rI C g) := fun x y z e => by
  obtain ⟨i, j, rfl, rfl, c, rfl⟩ := h x y z e
  refine ⟨g i j, hg i j, fun _ _ _ _ _ _ _ _ _ _ _ v w Q h1 h2 q => ?_⟩
  have e1 := h1.int
  have e2 := h2.int
  subst e1 e2
  exact ⟨i, j, rfl, rfl, c, q⟩
theorem scal_int0 {f : D → D → Option D} {g : Int → Int → V} {gd : Int → Int → D} (h : ∀ x y z, f x y = some z → ∃ i j, x = .int i ∧ y = .int j ∧ z = gd i j) (hg : ∀ i j, SV (g i j) (gd i j)) : ScalOp f (rI0 g) := fun x y z e => by
  obtain ⟨i, j, rfl, rfl, rfl⟩ := h x y z e
  refine ⟨g i j, hg i j, fun _ _ _ _ _ _ _ _ _ _ _ v w Q h1 h2 q => ?_⟩
  have e1 := h1.int
  have e2 := h2.int
  subst e1 e2
  exact ⟨i, j, rfl, rfl, q⟩
theorem so_add : ScalOp dAdd (rI0 fun i j => .int (i + j)) := scal_int0 (gd := fun i j => .int (i + j)) (fun x y z e => by
  cases x <;> cases y <;> simp [dAdd] at e
  exact ⟨_, _, rfl, rfl, e.symm⟩) fun _ _ => .int _
theorem so_sub : ScalOp dSub (rI0 fun i j => .int (i - j)) := scal_int0 (gd := fun i j => .int (i - j)) (fun x y z e => by
  cases x <;> cases y <;> simp [dSub] at e
  exact ⟨_, _, rfl, rfl, e.symm⟩) fun _ _ => .int _
theorem so_lt : ScalOp dLt (rI0 fun i j => .bl (decide (i < j))) := scal_int0 (gd := fun i j => .bl (decide (i < j))) (fun x y z e => by
  cases x <;> cases y <;> simp [dLt] at e
  exact ⟨_, _, rfl, rfl, e.symm⟩) fun _ _ => .bl _
theorem so_le : ScalOp dLe (rI0 fun i j => .bl (decide (i ≤ j))) := scal_int0 (gd := fun i j => .bl (decide (i ≤ j))) (fun x y z e => by
  cases x <;> cases y <;> simp [dLe] at e
  exact ⟨_, _, rfl, rfl, e.symm⟩) fun _ _ => .bl _
theorem so_gt : ScalOp dGt (rI0 fun i j => .bl (decide (j < i))) := scal_int0 (gd := fun i j => .bl (decide (j < i))) (fun x y z e => by
  cases x <;> cases y <;> simp [dGt] at e
  exact ⟨_, _, rfl, rfl, e.symm⟩) fun _ _ => .bl _
theorem so_ge : ScalOp dGe (rI0 fun i j => .bl (decide (j ≤ i))) := scal_int0 (gd := fun i j => .bl (decide (j ≤ i))) (fun x y z e => by
  cases x <;> cases y <;> simp [dGe] at e
  exact ⟨_, _, rfl, rfl, e.symm⟩) fun _ _ => .bl _
theorem so_mul : ScalOp dMul (rI (fun i j => CMul i j ∨ CMulW i j) fun i j => .int (i * j)) := scal_int2 (gd := fun i j => .int (i * j)) (fun x y z e => by
  cases x <;> cases y <;> simp [dMul] at e
  refine ⟨_, _, rfl, rfl, ?_, e.2.symm⟩
  have h := e.1
  simp only [mulOk, Bool.or_eq_true, decide_eq_true_eq] at h
  rcases h with (h | h) | h
  · exact .inl (.inl h)
  · exact .inl (.inr h)
  · exact .inr h) fun _ _ => .int _
theorem so_div : ScalOp dDiv (rI CFdiv fun i j => .int (i.fdiv j)) := scal_int2 (gd := fun i j => .int (i.fdiv j)) (fun x y z e => by
  cases x <;> cases y <;> simp [dDiv] at e
  refine ⟨_, _, rfl, rfl, ?_, e.2.symm⟩
  have h := e.1
  simp only [divOk, Bool.and_eq_true, decide_eq_true_eq] at h
  exact h) fun _ _ => .int _
theorem so_mod : ScalOp dMod (rI (fun _ j => j ≠ 0) fun i j => .int (i.fmod j)) := scal_int2 (gd := fun i j => .int (i.fmod j)) (fun x y z e => by
  cases x <;> cases y <;> simp [dMod] at e
  exact ⟨_, _, rfl, rfl, e.1, e.2.symm⟩) fun _ _ => .int _
theorem so_pow : ScalOp dPow (rI CPow fun i j => .int (i ^ j.toNat)) := scal_int2 (gd := fun i j => .int (i ^ j.toNat)) (fun x y z e => by
  cases x <;> cases y <;> simp [dPow] at e
  refine ⟨_, _, rfl, rfl, ?_, e.2.symm⟩
  have h := e.1
  simp only [powOk, Bool.and_eq_true, decide_eq_true_eq] at h
  exact ⟨h.1.1, h.1.2, h.2⟩) fun _ _ => .int _
section
variable {X : Cx} {W : WX} {Γx Γ : Ctx} {n : Nat} {m m1 m2 : List Nat} {pos : Pos} {a b : Expr} {ga gb : List D → ER D} {k k1 : Kd}
theorem ej_add (ha : EJ X W Γx Γ n m1 a ga k) (hb : EJ X W Γx Γ n m2 b gb k1) : EJ X W Γx Γ n (m1 ++ m2) (.BinOp a .Add b pos) (eBin dAdd ga gb) .own := ej_bin so_add op_add ha hb
theorem ej_sub (ha : EJ X W Γx Γ n m1 a ga k) (hb : EJ X W Γx Γ n m2 b gb k1) : EJ X W Γx Γ n (m1 ++ m2) (.BinOp a .Sub b pos) (eBin dSub ga gb) .own := ej_bin so_sub op_sub ha hb
theorem ej_mul (ha : EJ X W Γx Γ n m1 a ga k) (hb : EJ X W Γx Γ n m2 b gb k1) : EJ X W Γx Γ n (m1 ++ m2) (.BinOp a .Mult b pos) (eBin dMul ga gb) .own := ej_bin so_mul op_mulA ha hb
theorem ej_div (ha : EJ X W Γx Γ n m1 a ga k) (hb : EJ X W Γx Γ n m2 b gb k1) : EJ X W Γx Γ n (m1 ++ m2) (.BinOp a .FloorDiv b pos) (eBin dDiv ga gb) .own := ej_bin so_div op_fdivA ha hb
theorem ej_mod (ha : EJ X W Γx Γ n m1 a ga k) (hb : EJ X W Γx Γ n m2 b gb k1) : EJ X W Γx Γ n (m1 ++ m2) (.BinOp a .Mod b pos) (eBin dMod ga gb) .own := ej_bin so_mod op_modN ha hb
theorem ej_pow (ha : EJ X W Γx Γ n m1 a ga k) (hb : EJ X W Γx Γ n m2 b gb k1) : EJ X W Γx Γ n (m1 ++ m2) (.BinOp a .Pow b pos) (eBin dPow ga gb) .own := ej_bin so_pow op_pow ha hb
theorem ej_gt (ha : EJ X W Γx Γ n m1 a ga k) (hb : EJ X W Γx Γ n m2 b gb k1) : EJ X W Γx Γ n (m1 ++ m2) (.Compare a [.Gt] [b] pos) (eBin dGt ga gb) .own := ej_cmp so_gt op_gt ha hb (nomark _)
theorem ej_ge (ha : EJ X W Γx Γ n m1 a ga k) (hb : EJ X W Γx Γ n m2 b gb k1) : EJ X W Γx Γ n (m1 ++ m2) (.Compare a [.GtE] [b] pos) (eBin dGe ga gb) .own := ej_cmp so_ge op_ge ha hb (nomark _)
end
def eUn (f : D → Option D) (ga : List D → ER D) : List D → ER D := fun σ => (ga σ).bind fun x σ1 => ofO (f x) σ1
def dNeg : D → Option D
  | .int i => some (.int (-i))
  | _ => none
section
variable {X : Cx} {W : WX} {Γx Γ : Ctx} {n : Nat} {m m1 m2 : List Nat} {pos : Pos} {a b : Expr} {ga gb : List D → ER D} {k k1 : Kd}
theorem ej_neg (ha : EJ X W Γx Γ n m a ga k) : EJ X W Γx Γ n m (.UnaryOp .USub a pos) (eUn dNeg ga) .own := by
  refine pe_imp (pe_un un_neg ha) fun σ H Q h => ?_
  obtain ⟨σD, lab, g, sr, po⟩ := h
  refine ⟨σD, lab, g, sr, po.last fun x σD1 v H1 lab1 sr1 pr1 rl1 po1 => ?_⟩
  obtain ⟨z, e, q⟩ := po1.done
  cases x <;> simp [dNeg] at e
  subst e
  have e1 := rl1.int
  subst e1
  exact ⟨_, rfl, q _ _ _ sr1 (.refl _ _ _ _) (SV.int _).vr⟩
def tOf (g : List D → ER D) : List D → ER Bool := fun σ => (g σ).bind fun d σ1 => match d with
  | .bl b => .ok b σ1
  | _ => .stuck
theorem tof_imp {tc : TE} {g : List D → ER D} (ha : ∀ σ H Q, rdE X W Γx Γ n m k g σ H Q → tc σ H Q) (σ : St) (H : Hp) (Q : Bool → Hp → Prop) (h : rdT X W Γx Γ n m (tOf g) σ H Q) : tTest tc σ H Q := by
  obtain ⟨σD, lab, gg, sr, po⟩ := h
  refine ha _ _ _ ⟨σD, lab, gg, sr, po.last fun x σD1 v H1 lab1 sr1 pr1 rl1 po1 => ?_⟩
  cases x with
  | bl b =>
    have e1 := rl1.bl
    subst e1
    exact ⟨b, rfl, po1 b H1 lab1 sr1 (.refl _ _ _ _) rfl⟩
  | _ => exact po1.elim
theorem tj_cmp {op : CmpOp} {f : D → D → Option D} {r : R2} (hf : ScalOp f r) (ho : OpR X (compareOp op) r) (ha : EJ X W Γx Γ n m1 a ga k) (hb : EJ X W Γx Γ n m2 b gb k1) (hm : behindInMarks op b = false) : TJ X W Γx Γ n (m1 ++ m2) (.Compare a [op] [b] pos) (tOf (eBin f ga gb)) :=
  pt_imp (pt_cmpR ho ha hb hm) fun σ H Q h => tof_imp (fun σ H Q q => bin_imp hf (fun _ _ _ q => q) (fun _ _ _ q => q) σ H Q q) σ H Q h
theorem tj_lt (ha : EJ X W Γx Γ n m1 a ga k) (hb : EJ X W Γx Γ n m2 b gb k1) : TJ X W Γx Γ n (m1 ++ m2) (.Compare a [.Lt] [b] pos) (tOf (eBin dLt ga gb)) := tj_cmp so_lt op_lt ha hb (nomark _)
theorem tj_gt (ha : EJ X W Γx Γ n m1 a ga k) (hb : EJ X W Γx Γ n m2 b gb k1) : TJ X W Γx Γ n (m1 ++ m2) (.Compare a [.Gt] [b] pos) (tOf (eBin dGt ga gb)) := tj_cmp so_gt op_gt ha hb (nomark _)
/-- truth -/
def D.truth : D → Option Bool
  | .non => some false
  | .bl b => some b
  | .int i => some (i != 0)
  | .str x => if x.length ≤ sizeLine then some ((x.length : Int) != 0) else none
  | .tup ds => some (!ds.isEmpty)
  | .lst ds => some (!ds.isEmpty)
  | .dK kvs => some (!kvs.isEmpty)
  | _ => none
theorem isEmpty_len {α β : Type} {l : List α} {r : List β} (h : l.length = r.length) : l.isEmpty = r.isEmpty := by
  cases l <;> cases r <;> simp_all
theorem VR.truth {K : PySem.W.Frag} {cl : CE} {H : Hp} {lab : Labs} {k : Kd} {t : Lab} {v : V} {d : D} {b : Bool} (hv : VR K cl H lab k t v d) (e : d.truth = some b) : TruV K v H b := by
  obtain ⟨fp, r⟩ := hv.rp (by cases d <;> first | rfl | cases e)
  cases r with
  | non => simp [D.truth] at e; exact (show b = false from e)
  | bl c => simp [D.truth] at e; exact e.symm
  | int i => simp [D.truth] at e; exact e.symm
  | str x =>
    simp [D.truth] at e
    exact ⟨e.1, by rw [← e.2]⟩
  | tup h r =>
    simp only [D.truth, Option.some.injEq] at e
    exact .inr (.inl ⟨_, h, by rw [← e, isEmpty_len r.len]⟩)
  | lst h r =>
    simp only [D.truth, Option.some.injEq] at e
    exact .inl ⟨_, .of h, by rw [← e, isEmpty_len r.len]⟩
  | lsf h r => simp [D.truth] at e
  | dK h kk r =>
    simp only [D.truth, Option.some.injEq] at e
    have := r.len
    rw [List.length_map, List.length_map] at this
    exact .inr (.inr ⟨_, h, by rw [← e, isEmpty_len this]⟩)
  | dT h ok hk kk hv r => simp [D.truth] at e
  | ins c h kk r => simp [D.truth] at e
def tTru (g : List D → ER D) : List D → ER Bool := fun σ => (g σ).bind fun d σ1 => ofO d.truth σ1
theorem tj_truth (ha : EJ X W Γx Γ n m a ga k) (he : ∀ whole, isTrue a X.env whole = (do let v ← whole; standAt a.pos; holding [v] (truthy v)) := by intro _; rfl) : TJ X W Γx Γ n m a (tTru ga) := by
  refine pt_imp (pt_truth ha he) fun σ H Q h => ?_
  obtain ⟨σD, lab, g, sr, po⟩ := h
  refine ⟨σD, lab, g, sr, po.last fun x σD1 v H1 lab1 sr1 pr1 rl1 po1 => ?_⟩
  obtain ⟨z, e, q⟩ := po1.done
  exact ⟨z, rl1.truth e, q z H1 lab1 sr1 (.refl _ _ _ _) rfl⟩
def tNotD (g : List D → ER Bool) : List D → ER Bool := fun σ => (g σ).bind fun b σ1 => .ok (!b) σ1
theorem tj_not {g : List D → ER Bool} (ha : TJ X W Γx Γ n m a g) : TJ X W Γx Γ n m (.UnaryOp .Not a pos) (tNotD g) := by
  refine pt_imp (pt_not ha) fun σ H Q h => ?_
  obtain ⟨σD, lab, gg, sr, po⟩ := h
  refine ⟨σD, lab, gg, sr, po.last fun x σD1 v H1 lab1 sr1 pr1 rl1 po1 => ?_⟩
  subst rl1
  exact po1 _ H1 lab1 sr1 (.refl _ _ _ _) rfl
def tAndD (g h : List D → ER Bool) : List D → ER Bool := fun σ => (g σ).bind fun b σ1 => if b = true then h σ1 else .ok false σ1
def tOrD (g h : List D → ER Bool) : List D → ER Bool := fun σ => (g σ).bind fun b σ1 => if b = true then .ok true σ1 else h σ1
abbrev WJ (X : Cx) (W : WX) (Γx Γ : Ctx) (n : Nat) (m : List Nat) (e : Expr) (g : List D → ER Bool) : Prop := PW X e (rdT X W Γx Γ n m g)
theorem pw_imp {X : Cx} {e : Expr} {t u : TT} (h : PW X e t) (i : ∀ σ H Q, u σ H Q → t σ H Q) : PW X e u := ⟨fun wh pins s σ H Q I q => h.run wh pins s σ H Q I (i σ H Q q)⟩
variable {rest : List Expr} {tg th : List D → ER Bool}
theorem wj_and1 (ha : TJ X W Γx Γ n m a tg) : WJ X W Γx Γ n m (.BoolOp .And [a] pos) tg := pw_and1 ha
theorem wj_or1 (ha : TJ X W Γx Γ n m a tg) : WJ X W Γx Γ n m (.BoolOp .Or [a] pos) tg := pw_or1 ha
theorem wj_and (ha : TJ X W Γx Γ n m1 a tg) (hb : WJ X W Γx Γ n m2 (.BoolOp .And (b :: rest) pos) th) : WJ X W Γx Γ n (m1 ++ m2) (.BoolOp .And (a :: b :: rest) pos) (tAndD tg th) := by
  refine pw_imp (pw_and ha hb) fun σ H Q h => ?_
  obtain ⟨σD, lab, gg, sr, po⟩ := h
  refine ⟨σD, lab, gg, sr, po.seq' fun x σD1 v H1 lab1 sr1 pr1 rl1 po1 => ?_⟩
  subst rl1
  cases v with
  | true => exact ⟨σD1, lab1, gg, sr1, po1⟩
  | false => exact po1 _ H1 lab1 sr1 (.refl _ _ _ _) rfl
theorem wj_or (ha : TJ X W Γx Γ n m1 a tg) (hb : WJ X W Γx Γ n m2 (.BoolOp .Or (b :: rest) pos) th) : WJ X W Γx Γ n (m1 ++ m2) (.BoolOp .Or (a :: b :: rest) pos) (tOrD tg th) := by
  refine pw_imp (pw_or ha hb) fun σ H Q h => ?_
  obtain ⟨σD, lab, gg, sr, po⟩ := h
  refine ⟨σD, lab, gg, sr, po.seq' fun x σD1 v H1 lab1 sr1 pr1 rl1 po1 => ?_⟩
  subst rl1
  cases v with
  | true => exact po1 _ H1 lab1 sr1 (.refl _ _ _ _) rfl
  | false => exact ⟨σD1, lab1, gg, sr1, po1⟩
theorem tj_of_w (h : WJ X W Γx Γ n m a tg) : TJ X W Γx Γ n m a tg := PW.pt h
def eAnd (g h : List D → ER D) : List D → ER D := fun σ => (g σ).bind fun d σ1 => match d with
  | .bl true => h σ1
  | .bl false => .ok (.bl false) σ1
  | _ => .stuck
def eOr (g h : List D → ER D) : List D → ER D := fun σ => (g σ).bind fun d σ1 => match d with
  | .bl true => .ok (.bl true) σ1
  | .bl false => h σ1
  | _ => .stuck
theorem ej_one {op} (ha : EJ X W Γx Γ n m a ga k) : EJ X W Γx Γ n m (.BoolOp op [a] pos) ga k := pe_one ha
theorem ej_and (ha : EJ X W Γx Γ n m1 a ga k) (hb : EJ X W Γx Γ n m2 (.BoolOp .And (b :: rest) pos) gb .own) : EJ X W Γx Γ n (m1 ++ m2) (.BoolOp .And (a :: b :: rest) pos) (eAnd ga gb) .own := by
  refine pe_imp (pe_and ha hb) fun σ H Q h => ?_
  obtain ⟨σD, lab, gg, sr, po⟩ := h
  refine ⟨σD, lab, gg, sr, po.seq' fun x σD1 v H1 lab1 sr1 pr1 rl1 po1 => ?_⟩
  cases x with
  | bl c =>
    have e1 := rl1.bl
    subst e1
    refine ⟨c, rfl, ?_⟩
    cases c with
    | true => exact ⟨σD1, lab1, gg, sr1, po1⟩
    | false => exact po1 _ H1 lab1 sr1 (.refl _ _ _ _) (SV.bl _).vr
  | _ => exact po1.elim
def dNot : D → Option D
  | .bl b => some (.bl (!b))
  | _ => none
theorem ej_notB (ha : EJ X W Γx Γ n m a ga k) : EJ X W Γx Γ n m (.UnaryOp .Not a pos) (eUn dNot ga) .own := by
  refine pe_imp (pe_not ha) fun σ H Q h => ?_
  obtain ⟨σD, lab, g, sr, po⟩ := h
  refine ⟨σD, lab, g, sr, po.last fun x σD1 v H1 lab1 sr1 pr1 rl1 po1 => ?_⟩
  obtain ⟨z, e, q⟩ := po1.done
  cases x <;> simp [dNot] at e
  subst e
  have e1 := rl1.bl
  subst e1
  exact ⟨_, rfl, q _ _ _ sr1 (.refl _ _ _ _) (SV.bl _).vr⟩
/-- a if t else b, both of one kind -/
def eIf (t : List D → ER Bool) (g h : List D → ER D) : List D → ER D := fun σ => (t σ).bind fun b σ1 => if b = true then g σ1 else h σ1
end
end Ow


namespace Ow
open PySem PySem.Spec PyProof.Rows L2
def subK : Kd → Kd
  | .own => .own
  | .bor R => .bor R
  | .spn R => .bor R
  | .exc R => .bor R
section
variable {K : PySem.W.Frag} {cl : CE} {H H' : Hp} {lab lab' : Labs} {k : Kd} {t : Lab} {v : V} {d : D}
theorem RpL.atI {vs : List V} {ds : List D} {fp : List Addr} {i : Int} (r : RpL K cl H vs ds fp) (h : L2.atI ds i = some d) : ∃ v f, L2.atI vs i = some v ∧ Rp K cl H v d f ∧ f.Sublist fp := by
  unfold L2.atI at h ⊢
  rw [r.len]
  cases e : ixN ds.length i with
  | none => rw [e] at h; cases h
  | some j =>
    rw [e] at h
    exact r.get h
/-- what a list or a tuple holds -/
theorem VR.items {ds : List D} (h : VR K cl H lab k t v d) (e : d = .tup ds ∨ d = .lst ds ∨ d = .fzl ds) : ∃ a vs, v = .ref a ∧ (SqL K H a vs ∨ SqT K H a vs) ∧ vs.length = ds.length ∧ ∀ i x, L2.atI ds i = some x → ∃ w, L2.atI vs i = some w ∧ VR K cl H lab (subK k) t w x := by
  cases k with
  | own =>
    obtain ⟨fp, r, nd, l⟩ := h
    have key : ∀ {vs : List V} {fp' : List Addr}, RpL K cl H vs ds fp' → fp'.Sublist fp → ∀ i x, L2.atI ds i = some x → ∃ w, L2.atI vs i = some w ∧ VR K cl H lab .own t w x := fun rr sb i x hx => by
      obtain ⟨w, f, a, b, c⟩ := rr.atI hx
      exact ⟨w, a, f, b, nd.sublist (c.trans sb), fun y hy => l y (sb.subset (c.subset hy))⟩
    rcases e with rfl | rfl | rfl
    · cases r with
      | tup h r => exact ⟨_, _, rfl, .inr h, r.len, key r (List.Sublist.refl _)⟩
    · cases r with
      | lst h r => exact ⟨_, _, rfl, .inl (.of h), r.len, key r (List.sublist_cons_self _ _)⟩
    · cases r with
      | lsf h r => exact ⟨_, _, rfl, .inl h.sql, r.len, key r (List.Sublist.refl _)⟩
  | bor R =>
    obtain ⟨fp, r, l⟩ := h
    have key : ∀ {vs : List V} {fp' : List Addr}, RpL K cl H vs ds fp' → fp'.Sublist fp → ∀ i x, L2.atI ds i = some x → ∃ w, L2.atI vs i = some w ∧ VR K cl H lab (.bor R) t w x := fun rr sb i x hx => by
      obtain ⟨w, f, a, b, c⟩ := rr.atI hx
      exact ⟨w, a, f, b, fun y hy => l y (sb.subset (c.subset hy))⟩
    rcases e with rfl | rfl | rfl
    · cases r with
      | tup h r => exact ⟨_, _, rfl, .inr h, r.len, key r (List.Sublist.refl _)⟩
    · cases r with
      | lst h r => exact ⟨_, _, rfl, .inl (.of h), r.len, key r (List.sublist_cons_self _ _)⟩
    · cases r with
      | lsf h r => exact ⟨_, _, rfl, .inl h.sql, r.len, key r (List.Sublist.refl _)⟩
  | spn R =>
    obtain ⟨a, vs, ds', fp, rfl, rfl, ha, r, la, l⟩ := h
    rcases e with e | e | e
    · cases e
    rotate_left
    · cases e
    · cases e
      refine ⟨_, _, rfl, .inl (.of ha), r.len, fun i x hx => ?_⟩
      obtain ⟨w, f, a, b, c⟩ := r.atI hx
      exact ⟨w, a, f, b, fun y hy => (l y (c.subset hy)).2⟩
  | exc R =>
    obtain ⟨fp, r, l⟩ := h
    cases r <;> rcases e with e | e | e <;> cases e
end
def dIx : D → D → Option D
  | .tup ds, .int i => L2.atI ds i
  | .lst ds, .int i => L2.atI ds i
  | .fzl ds, .int i => L2.atI ds i
  | .str z, .int i => if z.length ≤ sizeLine then (L2.atI z.cps.toList i).map fun c => .str ⟨#[c]⟩ else none
  | _, _ => none
section
variable {X : Cx} {W : WX} {Γx Γ : Ctx} {n : Nat} {m m1 m2 : List Nat} {pos : Pos} {a b : Expr} {ga gb : List D → ER D} {k k1 : Kd}
theorem ej_ix (ha : EJ X W Γx Γ n m1 a ga k) (hb : EJ X W Γx Γ (n + 1) m2 b gb k1) (ok : okK m2 (n + 1) k = true := by decide) (hs : PlainIx b := by exact fun _ _ => rfl) : EJ X W Γx Γ n (m1 ++ m2) (.Subscript a b pos) (eBin dIx ga gb) (subK k) := by
  refine pe_imp (pe_ix ix_seq ha hb hs) fun σ H Q h => ?_
  obtain ⟨σD, lab, g, sr, po⟩ := h
  refine ⟨σD, lab, g, sr, po.seq' fun x σD1 v H1 lab1 sr1 pr1 rl1 po1 => ?_⟩
  refine ⟨σD1, lab1, gok.up g, sr1, po1.seq (SubK.up _ _) (Nat.le_succ _) (SubK.nil _ _) (Nat.le_refl _) fun y σD2 w H2 lab2 sr2 pr2 rl2 po2 => ?_⟩
  have rl1 := VR.pres pr2 rl1 ok (by simp [keepL])
  obtain ⟨z, e, q⟩ := po2.done
  have fin : ∀ {zv : V}, VR X.K (clX X) H2 lab2 (subK k) (.tmp n) zv z → Q zv H2 := fun {zv} hz => q zv H2 lab2 sr2 (.refl _ _ _ _) hz
  cases y with
  | int i =>
    have e2 := rl2.int
    subst e2
    cases x with
    | tup ds =>
      obtain ⟨p, vs, rfl, hq, _, hi⟩ := rl1.items (.inl rfl)
      obtain ⟨zv, hz, r⟩ := hi i z e
      rcases hq with hq | hq
      · exact .inl ⟨p, vs, i, zv, rfl, rfl, hq, hz, fin r⟩
      · exact .inr (.inl ⟨p, vs, i, zv, rfl, rfl, hq, hz, fin r⟩)
    | lst ds =>
      obtain ⟨p, vs, rfl, hq, _, hi⟩ := rl1.items (.inr (.inl rfl))
      obtain ⟨zv, hz, r⟩ := hi i z e
      rcases hq with hq | hq
      · exact .inl ⟨p, vs, i, zv, rfl, rfl, hq, hz, fin r⟩
      · exact .inr (.inl ⟨p, vs, i, zv, rfl, rfl, hq, hz, fin r⟩)
    | fzl ds =>
      obtain ⟨p, vs, rfl, hq, _, hi⟩ := rl1.items (.inr (.inr rfl))
      obtain ⟨zv, hz, r⟩ := hi i z e
      rcases hq with hq | hq
      · exact .inl ⟨p, vs, i, zv, rfl, rfl, hq, hz, fin r⟩
      · exact .inr (.inl ⟨p, vs, i, zv, rfl, rfl, hq, hz, fin r⟩)
    | str s =>
      have e1 := rl1.str
      subst e1
      simp only [dIx] at e
      split at e
      · rename_i hz
        rw [Option.map_eq_some_iff] at e
        obtain ⟨c, hc, rfl⟩ := e
        refine .inr (.inr ⟨s, i, c, rfl, rfl, hz, hc, fin ?_⟩)
        have q2 : VR X.K (clX X) H2 lab2 .own (.tmp n) (.str ⟨#[c]⟩) (.str ⟨#[c]⟩) := (SV.str _).vr
        obtain ⟨fp, r, nd, l⟩ := q2
        cases k with
        | own => exact ⟨fp, r, nd, l⟩
        | bor R => exact ⟨[], by cases r; exact .str _, by simp⟩
        | spn R => exact ⟨[], by cases r; exact .str _, by simp⟩
        | exc R => exact ⟨[], by cases r; exact .str _, by simp⟩
      · cases e
    | _ => simp [dIx] at e
  | _ => cases x <;> simp [dIx] at e
end
inductive AK where
  | val (k : Kd) | slot (r : Nat)
def AR (X : Cx) (σ : St) (σD : List D) (H : Hp) (lab : Labs) : Nat → List AK → List V → List D → Prop
  | _, [], vs, ds => vs = [] ∧ ds = []
  | n, .val k :: ks, vs, ds => ∃ v vs' d ds', vs = v :: vs' ∧ ds = d :: ds' ∧ VR X.K (clX X) H lab k (.tmp n) v d ∧ AR X σ σD H lab (n + 1) ks vs' ds'
  | n, .slot r :: ks, vs, ds => ∃ v vs' ds', vs = v :: vs' ∧ ds = σD.getD r .non :: ds' ∧ σ[r]? = some (some v) ∧ AR X σ σD H lab (n + 1) ks vs' ds'
abbrev relA (X : Cx) (σ : St) (n : Nat) (ks : List AK) : Rel (List V) (List D) := fun σD H lab vs ds => AR X σ σD H lab n ks vs ds
def rdA (X : Cx) (W : WX) (Γx Γ : Ctx) (n : Nat) (m : List Nat) (ks : List AK) (g : List D → ER (List D)) : TA := fun σ H Q => ∃ σD lab, gok Γ n = true ∧ SR X Γ σ H lab σD ∧ Post X W Γx Γ σ m n (relA X σ n ks) H lab Q (g σD)
abbrev AJ (X : Cx) (W : WX) (Γx Γ : Ctx) (n : Nat) (m : List Nat) (es : List Expr) (g : List D → ER (List D)) (ks : List AK) : Prop := PA X es (rdA X W Γx Γ n m ks g)
def aNil : List D → ER (List D) := fun σ => .ok [] σ
def aCons (g : List D → ER D) (gs : List D → ER (List D)) : List D → ER (List D) := fun σ => (g σ).bind fun d σ1 => (gs σ1).bind fun ds σ2 => .ok (d :: ds) σ2
def aSlot (r : Nat) (gs : List D → ER (List D)) : List D → ER (List D) := fun σ => (gs σ).bind fun ds σ2 => .ok (σ2.getD r .non :: ds) σ2
section
variable {X : Cx} {W : WX} {Γx Γ : Ctx} {n : Nat} {m m1 m2 : List Nat} {pos : Pos} {e : Expr} {es : List Expr} {g : List D → ER D} {gs : List D → ER (List D)} {k : Kd} {ks : List AK}
theorem aj_nil : AJ X W Γx Γ n [] [] aNil [] := by
  refine pa_imp pa_nil fun σ H Q h => ?_
  obtain ⟨σD, lab, gg, sr, po⟩ := h
  exact po [] H lab sr (.refl _ _ _ _) ⟨rfl, rfl⟩
theorem aj_cons (ha : EJ X W Γx Γ n m1 e g k) (hr : AJ X W Γx Γ (n + 1) m2 es gs ks) (ok : okK m2 (n + 1) k = true := by decide) (hs : starEach (e :: es) X.env = (false, eval e X.env) :: starEach es X.env := by rfl) : AJ X W Γx Γ n (m1 ++ m2) (e :: es) (aCons g gs) (.val k :: ks) := by
  refine pa_imp (pa_cons ha hr hs) fun σ H Q h => ?_
  obtain ⟨σD, lab, gg, sr, po⟩ := h
  refine ⟨σD, lab, gg, sr, po.seq' fun x σD1 v H1 lab1 sr1 pr1 rl1 po1 => ?_⟩
  refine ⟨σD1, lab1, gok.up gg, sr1, po1.seq (SubK.up _ _) (Nat.le_succ _) (SubK.nil _ _) (Nat.le_refl _) fun ds σD2 vs H2 lab2 sr2 pr2 rl2 po2 => ?_⟩
  exact po2 _ H2 lab2 sr2 (.refl _ _ _ _) ⟨v, vs, x, ds, rfl, rfl, VR.pres pr2 rl1 ok (by simp [keepL]), rl2⟩
theorem aj_slot {r : Nat} {x : Str} (hΓ : Γ[r]? = some (some .own)) (hv : PE X (.Name x pos) (tVar r)) (hr : AJ X W Γx Γ (n + 1) m es gs ks) (hs : starEach (.Name x pos :: es) X.env = (false, eval (.Name x pos) X.env) :: starEach es X.env := by rfl) : AJ X W Γx Γ n m (.Name x pos :: es) (aSlot r gs) (.slot r :: ks) := by
  refine pa_imp (pa_cons hv hr hs) fun σ H Q h => ?_
  obtain ⟨σD, lab, gg, sr, po⟩ := h
  obtain ⟨v, hv, _⟩ := sr.get hΓ
  refine ⟨v, hv, σD, lab, gok.up gg, sr, po.seq (SubK.up _ _) (Nat.le_succ _) (SubK.nil _ _) (Nat.le_refl _) fun ds σD2 vs H2 lab2 sr2 pr2 rl2 po2 => ?_⟩
  exact po2 _ H2 lab2 sr2 (.refl _ _ _ _) ⟨v, vs, ds, rfl, rfl, hv, rl2⟩
def ownA : AK → Bool
  | .val .own => true
  | _ => false
def labsA : AK → List Lab
  | .val (.bor R) => R
  | .val (.spn R) => R
  | .val (.exc R) => R
  | _ => []
def unionR (ks : List AK) : List Lab := ks.flatMap labsA
def valA : AK → Bool
  | .val (.exc _) => false
  | .val _ => true
  | _ => false
theorem AR.own {σ : St} {σD : List D} {H : Hp} {lab : Labs} : ∀ {ks : List AK} {n : Nat} {vs : List V} {ds : List D}, AR X σ σD H lab n ks vs ds → ks.all ownA = true → ∃ fp, RpL X.K (clX X) H vs ds fp ∧ fp.Nodup ∧ ∀ a ∈ fp, ∃ j, n ≤ j ∧ lab a = .tmp j
  | [], n, _, _, ⟨e1, e2⟩, _ => by
    subst e1 e2
    exact ⟨[], .nil, List.nodup_nil, by simp⟩
  | .val .own :: ks, n, _, _, ⟨v, vs', d, ds', e1, e2, r, h⟩, o => by
    subst e1 e2
    obtain ⟨f1, r1, nd1, l1⟩ := r
    obtain ⟨f2, r2, nd2, l2⟩ := AR.own (n := n + 1) h (by simpa [ownA] using o)
    refine ⟨f1 ++ f2, .cons r1 r2, ?_, fun a ha => ?_⟩
    · rw [List.nodup_append]
      refine ⟨nd1, nd2, fun a ha b hb e => ?_⟩
      subst e
      obtain ⟨j, hj, e⟩ := l2 a hb
      rw [l1 a ha] at e
      cases e
      omega
    · rcases List.mem_append.mp ha with q | q
      · exact ⟨n, Nat.le_refl _, l1 a q⟩
      · obtain ⟨j, hj, e⟩ := l2 a q
        exact ⟨j, by omega, e⟩
  | .val (.bor R) :: ks, n, _, _, _, o => by simp [ownA] at o
  | .val (.spn R) :: ks, n, _, _, _, o => by simp [ownA] at o
  | .val (.exc R) :: ks, n, _, _, _, o => by simp [ownA] at o
  | .slot r :: ks, n, _, _, _, o => by simp [ownA] at o
theorem AR.mix {σ : St} {σD : List D} {H : Hp} {lab : Labs} : ∀ {ks : List AK} {n : Nat} {vs : List V} {ds : List D}, AR X σ σD H lab n ks vs ds → ks.all valA = true → ∃ fp, RpL X.K (clX X) H vs ds fp ∧ ∀ a ∈ fp, (∃ j, n ≤ j ∧ lab a = .tmp j) ∨ bw (unionR ks) (lab a)
  | [], n, _, _, ⟨e1, e2⟩, _ => by
    subst e1 e2
    exact ⟨[], .nil, by simp⟩
  | .val k :: ks, n, _, _, ⟨v, vs', d, ds', e1, e2, r, h⟩, o => by
    subst e1 e2
    rw [List.all_cons, Bool.and_eq_true] at o
    obtain ⟨f2, r2, l2⟩ := AR.mix (n := n + 1) h o.2
    have tail : ∀ a ∈ f2, (∃ j, n ≤ j ∧ lab a = .tmp j) ∨ bw (unionR (.val k :: ks)) (lab a) := fun a ha => by
      rcases l2 a ha with ⟨j, hj, e⟩ | q | q
      · exact .inl ⟨j, by omega, e⟩
      · exact .inr (.inl q)
      · exact .inr (.inr (List.mem_flatMap.mpr (by
          obtain ⟨x, hx, e⟩ := List.mem_flatMap.mp q
          exact ⟨x, List.mem_cons_of_mem _ hx, e⟩)))
    have hd : ∀ {R : List Lab}, labsA (.val k) = R → ∀ l, bw R l → bw (unionR (.val k :: ks)) l := fun e l q => q.elim .inl fun z => .inr (List.mem_flatMap.mpr ⟨_, List.mem_cons_self, by rw [e]; exact z⟩)
    cases k with
    | own =>
      obtain ⟨f1, r1, nd1, l1⟩ := r
      exact ⟨f1 ++ f2, .cons r1 r2, fun a ha => (List.mem_append.mp ha).elim (fun q => .inl ⟨n, Nat.le_refl _, l1 a q⟩) (tail a)⟩
    | bor R =>
      obtain ⟨f1, r1, l1⟩ := r
      exact ⟨f1 ++ f2, .cons r1 r2, fun a ha => (List.mem_append.mp ha).elim (fun q => .inr (hd (R := R) rfl _ (l1 a q))) (tail a)⟩
    | spn R =>
      obtain ⟨a0, ws, es, f1, rfl, rfl, ha0, r1, la, l1⟩ := r
      refine ⟨(a0 :: f1) ++ f2, .cons (.lst ha0 r1) r2, fun a ha => (List.mem_append.mp ha).elim (fun q => ?_) (tail a)⟩
      rcases List.mem_cons.mp q with q | q
      · exact .inl ⟨n, Nat.le_refl _, by rw [q]; exact la⟩
      · exact .inr (hd (R := R) rfl _ (l1 a q).2)
    | exc R => cases o.1
  | .slot r :: ks, n, _, _, _, o => by simp [valA] at o
theorem AR.len {σ : St} {σD : List D} {H : Hp} {lab : Labs} : ∀ {ks : List AK} {n : Nat} {vs : List V} {ds : List D}, AR X σ σD H lab n ks vs ds → vs.length = ks.length ∧ ds.length = ks.length
  | [], n, _, _, ⟨e1, e2⟩ => by subst e1 e2; exact ⟨rfl, rfl⟩
  | .val k :: ks, n, _, _, ⟨v, vs', d, ds', e1, e2, r, h⟩ => by
    subst e1 e2
    have := AR.len h
    simp [this.1, this.2]
  | .slot _ :: ks, n, _, _, ⟨v, vs', ds', e1, e2, r, h⟩ => by
    subst e1 e2
    have := AR.len h
    simp [this.1, this.2]
/-- all that has come since n: as tmp n; given up -/
def colT (n : Nat) (lab : Labs) : Labs := fun a => match lab a with
  | .tmp j => if n ≤ j then .tmp n else .tmp j
  | l => l
def colF (n : Nat) (lab : Labs) : Labs := fun a => match lab a with
  | .tmp j => if n ≤ j then .fro else .tmp j
  | l => l
theorem colT_tmp {n j : Nat} {lab : Labs} {a : Addr} (h : lab a = .tmp j) (hj : n ≤ j) : colT n lab a = .tmp n := by unfold colT; rw [h]; exact if_pos hj
theorem colF_tmp {n j : Nat} {lab : Labs} {a : Addr} (h : lab a = .tmp j) (hj : n ≤ j) : colF n lab a = .fro := by unfold colF; rw [h]; exact if_pos hj
theorem colT_keep {n : Nat} {lab : Labs} {a : Addr} {m : List Nat} (h : keepL m n (lab a) = true) : colT n lab a = lab a := by
  unfold colT
  split
  · rename_i j e
    rw [e] at h
    simp only [keepL, decide_eq_true_eq] at h
    rw [if_neg (by omega), e]
  · rfl
theorem colF_keep {n : Nat} {lab : Labs} {a : Addr} {m : List Nat} (h : keepL m n (lab a) = true) : colF n lab a = lab a := by
  unfold colF
  split
  · rename_i j e
    rw [e] at h
    simp only [keepL, decide_eq_true_eq] at h
    rw [if_neg (by omega), e]
  · rfl
theorem colT_old {n : Nat} {lab : Labs} {a : Addr} (h : oldL (colT n lab a) = true) : lab a = colT n lab a := by
  unfold colT at h ⊢
  split
  · rename_i j e
    rw [e] at h
    dsimp only at h
    split at h <;> cases h
  · rfl
theorem colF_old {n : Nat} {lab : Labs} {a : Addr} (h : oldL (colF n lab a) = true) : lab a = colF n lab a := by
  unfold colF at h ⊢
  split
  · rename_i j e
    rw [e] at h
    dsimp only at h
    split at h <;> cases h
  · rfl
theorem Pres.colT {m : List Nat} {n : Nat} {H : Hp} {lab : Labs} : Pres m n H lab H (colT n lab) := .relab (fun _ h => colT_keep h) fun _ h => colT_old h
theorem Pres.colF {m : List Nat} {n : Nat} {H : Hp} {lab : Labs} : Pres m n H lab H (colF n lab) := .relab (fun _ h => colF_keep h) fun _ h => colF_old h
theorem bw_colF {n : Nat} {lab : Labs} {a : Addr} {R : List Lab} (h : (∃ j, n ≤ j ∧ lab a = .tmp j) ∨ bw R (lab a)) : bw R (colF n lab a) := by
  rcases h with ⟨j, hj, e⟩ | h | h
  · exact .inl (colF_tmp e hj)
  · exact .inl (by unfold colF; rw [h])
  · by_cases q : ∃ j, n ≤ j ∧ lab a = .tmp j
    · obtain ⟨j, hj, e⟩ := q
      exact .inl (colF_tmp e hj)
    · refine .inr ?_
      unfold colF
      split
      · rename_i j e
        rw [if_neg (fun z => q ⟨j, z, e⟩), ← e]
        exact h
      · exact h
def eTup (gs : List D → ER (List D)) : List D → ER D := fun σ => (gs σ).bind fun ds σ1 => .ok (.tup ds) σ1
def eLst (gs : List D → ER (List D)) : List D → ER D := fun σ => (gs σ).bind fun ds σ1 => .ok (.lst ds) σ1
theorem ej_tup {x1} (h : AJ X W Γx Γ n m es gs ks) (ho : ks.all ownA = true := by rfl) (hl : ks.length ≤ 1000 := by decide) : EJ X W Γx Γ n m (.Tuple es x1 pos) (eTup gs) .own := by
  refine pe_imp (pe_tup h) fun σ H Q hh => ?_
  obtain ⟨σD, lab, gg, sr, po⟩ := hh
  refine ⟨σD, lab, gg, sr, po.last fun ds σD1 vs H1 lab1 sr1 pr1 rl1 po1 => ?_⟩
  obtain ⟨fp, r, nd, l⟩ := rl1.own ho
  refine ⟨by rw [rl1.len.1]; exact Nat.le_of_lt (small1000 hl), fun p hp => ?_⟩
  have P : Pres [] n H1 lab1 (upd H1 p (.tup vs)) (setL (colT n lab1) p (.tmp n)) := Pres.colT.trans (.alloc hp rfl) (SubK.refl _ _) (SubK.refl _ _)
  have ne : ∀ a ∈ fp, a ≠ p := fun a ha e => by
    obtain ⟨o, q, _⟩ := r.alloc a ha
    rw [e, hp] at q; cases q
  refine po1 _ _ _ (sr1.pres gg P) P ⟨fp, .tup (.of upd_same) (r.ext (TK.new hp) fun a ha => upd_ne (ne a ha)), nd, fun a ha => ?_⟩
  obtain ⟨j, hj, e⟩ := l a ha
  show (if a = p then _ else _) = _
  rw [if_neg (ne a ha)]
  exact colT_tmp e hj
theorem ej_tupM {x1} (h : AJ X W Γx Γ n m es gs ks) (ho : ks.all valA = true := by rfl) (hl : ks.length ≤ 1000 := by decide) : EJ X W Γx Γ n m (.Tuple es x1 pos) (eTup gs) (.bor (unionR ks)) := by
  refine pe_imp (pe_tup h) fun σ H Q hh => ?_
  obtain ⟨σD, lab, gg, sr, po⟩ := hh
  refine ⟨σD, lab, gg, sr, po.last fun ds σD1 vs H1 lab1 sr1 pr1 rl1 po1 => ?_⟩
  obtain ⟨fp, r, l⟩ := rl1.mix ho
  refine ⟨by rw [rl1.len.1]; exact Nat.le_of_lt (small1000 hl), fun p hp => ?_⟩
  have P : Pres [] n H1 lab1 (upd H1 p (.tup vs)) (setL (colF n lab1) p (.tmp n)) := Pres.colF.trans (.alloc hp rfl) (SubK.refl _ _) (SubK.refl _ _)
  have ne : ∀ a ∈ fp, a ≠ p := fun a ha e => by
    obtain ⟨o, q, _⟩ := r.alloc a ha
    rw [e, hp] at q; cases q
  refine po1 _ _ _ (sr1.pres gg P) P ⟨fp, .tup (.of upd_same) (r.ext (TK.new hp) fun a ha => upd_ne (ne a ha)), fun a ha => ?_⟩
  show bw _ (if a = p then _ else _)
  rw [if_neg (ne a ha)]
  exact bw_colF (l a ha)
theorem ej_lst (h : AJ X W Γx Γ n m es gs ks) (ho : ks.all ownA = true := by rfl) (hl : ks.length ≤ 1000 := by decide) : EJ X W Γx Γ n m (.List es pos) (eLst gs) .own := by
  refine pe_imp (pe_lst h) fun σ H Q hh => ?_
  obtain ⟨σD, lab, gg, sr, po⟩ := hh
  refine ⟨σD, lab, gg, sr, po.last fun ds σD1 vs H1 lab1 sr1 pr1 rl1 po1 => ?_⟩
  obtain ⟨fp, r, nd, l⟩ := rl1.own ho
  refine ⟨by rw [rl1.len.1]; exact Nat.le_of_lt (small1000 hl), fun p hp => ?_⟩
  have P : Pres [] n H1 lab1 (upd H1 p (.lst vs)) (setL (colT n lab1) p (.tmp n)) := Pres.colT.trans (.alloc hp rfl) (SubK.refl _ _) (SubK.refl _ _)
  have ne : ∀ a ∈ fp, a ≠ p := fun a ha e => by
    obtain ⟨o, q, _⟩ := r.alloc a ha
    rw [e, hp] at q; cases q
  refine po1 _ _ _ (sr1.pres gg P) P ⟨p :: fp, .lst upd_same (r.ext (TK.new hp) fun a ha => upd_ne (ne a ha)), List.nodup_cons.mpr ⟨fun z => ne p z rfl, nd⟩, fun a ha => ?_⟩
  show (if a = p then _ else _) = _
  rcases List.mem_cons.mp ha with q | q
  · exact if_pos q
  · obtain ⟨j, hj, e⟩ := l a q
    rw [if_neg (ne a q)]
    exact colT_tmp e hj
theorem ej_lstM (h : AJ X W Γx Γ n m es gs ks) (ho : ks.all valA = true := by rfl) (hl : ks.length ≤ 1000 := by decide) : EJ X W Γx Γ n m (.List es pos) (eLst gs) (.spn (unionR ks)) := by
  refine pe_imp (pe_lst h) fun σ H Q hh => ?_
  obtain ⟨σD, lab, gg, sr, po⟩ := hh
  refine ⟨σD, lab, gg, sr, po.last fun ds σD1 vs H1 lab1 sr1 pr1 rl1 po1 => ?_⟩
  obtain ⟨fp, r, l⟩ := rl1.mix ho
  refine ⟨by rw [rl1.len.1]; exact Nat.le_of_lt (small1000 hl), fun p hp => ?_⟩
  have P : Pres [] n H1 lab1 (upd H1 p (.lst vs)) (setL (colF n lab1) p (.tmp n)) := Pres.colF.trans (.alloc hp rfl) (SubK.refl _ _) (SubK.refl _ _)
  have ne : ∀ a ∈ fp, a ≠ p := fun a ha e => by
    obtain ⟨o, q, _⟩ := r.alloc a ha
    rw [e, hp] at q; cases q
  refine po1 _ _ _ (sr1.pres gg P) P ⟨p, vs, ds, fp, rfl, rfl, upd_same, r.ext (TK.new hp) fun a ha => upd_ne (ne a ha), if_pos rfl, fun a ha => ⟨ne a ha, ?_⟩⟩
  show bw _ (if a = p then _ else _)
  rw [if_neg (ne a ha)]
  exact bw_colF (l a ha)
/-- what is flat is one's own -/
def eFlat (g : List D → ER D) : List D → ER D := fun σ => (g σ).bind fun d σ1 => if d.flat = true then .ok d σ1 else .stuck
theorem ej_flat (h : EJ X W Γx Γ n m e g k) : EJ X W Γx Γ n m e (eFlat g) .own := by
  refine pe_imp h fun σ H Q hh => ?_
  obtain ⟨σD, lab, gg, sr, po⟩ := hh
  refine ⟨σD, lab, gg, sr, po.last fun d σD1 v H1 lab1 sr1 pr1 rl1 po1 => ?_⟩
  split at po1
  · rename_i f
    exact po1 _ H1 lab1 sr1 (.refl _ _ _ _) (rl1.flat_own f)
  · exact po1.elim
/-- a list of flat things that is one's own uppermost -/
def eFlatL (g : List D → ER D) : List D → ER D := fun σ => (g σ).bind fun d σ1 => match d with
  | .lst ds => if D.flats ds = true then .ok (.lst ds) σ1 else .stuck
  | _ => .stuck
theorem ej_flatL {R : List Lab} (h : EJ X W Γx Γ n m e g (.spn R)) : EJ X W Γx Γ n m e (eFlatL g) .own := by
  refine pe_imp h fun σ H Q hh => ?_
  obtain ⟨σD, lab, gg, sr, po⟩ := hh
  refine ⟨σD, lab, gg, sr, po.last fun d σD1 v H1 lab1 sr1 pr1 rl1 po1 => ?_⟩
  obtain ⟨a, vs, ds, fp, rfl, rfl, ha, r, la, l⟩ := rl1
  dsimp only at po1
  split at po1
  · rename_i f
    have e := r.flat f
    subst e
    exact po1 _ H1 lab1 sr1 (.refl _ _ _ _) ⟨[a], .lst ha r, by simp, fun b hb => by rw [List.mem_singleton.mp hb]; exact la⟩
  · exact po1.elim
/-- one's own is also another's -/
theorem ej_bor {R : List Lab} (h : EJ X W Γx Γ n m e g .own) : EJ X W Γx Γ n m e g (.bor R) := by
  refine pe_imp h fun σ H Q hh => ?_
  obtain ⟨σD, lab, gg, sr, po⟩ := hh
  cases eg : g σD with
  | stuck => rw [eg] at po; exact po.elim
  | exc c p σD' =>
    refine ⟨σD, lab, gg, sr, ?_⟩
    rw [eg] at po ⊢
    exact po
  | ok d σD' =>
    refine ⟨σD, lab, gg, sr, ?_⟩
    rw [eg] at po ⊢
    intro v H1 lab1 sr1 pr1 rl1
    obtain ⟨fp, r, nd, l⟩ := rl1
    have P : Pres [] n H1 lab1 H1 (colF n lab1) := .colF
    exact po v H1 (colF n lab1) (sr1.pres gg P) (pr1.trans P (SubK.refl _ _) (SubK.nil _ _)) ⟨fp, r, fun a ha => .inl (colF_tmp (l a ha) (Nat.le_refl _))⟩
end
end Ow


namespace Ow
open PySem PySem.Spec PyProof.Rows L2
mutual
def D.py : D → PyData
  | .non => .none
  | .bl b => .bool b
  | .int i => .int i
  | .str x => .str x
  | .tup ds => .tuple (D.pys ds)
  | .lst ds => .list (D.pys ds)
  | .dK _ => .none
  | .dT _ => .none
  | .ins _ _ => .none
  | .fzl _ => .none
  | .exn _ _ => .none
def D.pys : List D → List PyData
  | [] => []
  | d :: ds => d.py :: D.pys ds
end
/-- data without dicts and instances, at most so deep -/
def D.dat : Nat → D → Bool
  | _, .non => true
  | _, .bl _ => true
  | _, .int _ => true
  | _, .str x => PyData.strOk x
  | n + 1, .tup ds => ds.all (D.dat n)
  | n + 1, .lst ds => ds.all (D.dat n)
  | _, _ => false
def D.eqv (x y : D) : Bool := PyData.eqv x.py y.py
theorem D.pys_map : ∀ ds : List D, D.pys ds = ds.map D.py
  | [] => rfl
  | d :: ds => by simp [D.pys, D.pys_map ds]
theorem D.dat_lay : ∀ (n : Nat) (d : D), d.dat n = true → d.py.canLay0 = true ∧ d.py.depth ≤ n
  | n, .non, h => by simp [D.py, PyData.canLay0, PyData.depth]
  | n, .bl _, h => by simp [D.py, PyData.canLay0, PyData.depth]
  | n, .int _, h => by simp [D.py, PyData.canLay0, PyData.depth]
  | n, .str x, h => by
    have h : PyData.strOk x = true := by cases n <;> exact h
    simp [D.py, PyData.canLay0, PyData.depth, h]
  | n + 1, .tup ds, h => by
    have h : ds.all (D.dat n) = true := h
    have : ∀ es : List D, es.all (D.dat n) = true → PyData.canLayAll0 (D.pys es) = true ∧ PyData.depthAll (D.pys es) ≤ n := by
      intro es
      induction es with
      | nil => intro _; simp [D.pys, PyData.canLayAll0, PyData.depthAll]
      | cons e es ih =>
        intro he
        rw [List.all_cons, Bool.and_eq_true] at he
        have h1 := D.dat_lay n e he.1
        have h2 := ih he.2
        simp only [D.pys, PyData.canLayAll0, PyData.depthAll, Bool.and_eq_true]
        exact ⟨⟨h1.1, h2.1⟩, Nat.max_le.mpr ⟨h1.2, h2.2⟩⟩
    have := this ds h
    simp only [D.py, PyData.canLay0, PyData.depth]
    exact ⟨this.1, by omega⟩
  | n + 1, .lst ds, h => by
    have h : ds.all (D.dat n) = true := h
    have : ∀ es : List D, es.all (D.dat n) = true → PyData.canLayAll0 (D.pys es) = true ∧ PyData.depthAll (D.pys es) ≤ n := by
      intro es
      induction es with
      | nil => intro _; simp [D.pys, PyData.canLayAll0, PyData.depthAll]
      | cons e es ih =>
        intro he
        rw [List.all_cons, Bool.and_eq_true] at he
        have h1 := D.dat_lay n e he.1
        have h2 := ih he.2
        simp only [D.pys, PyData.canLayAll0, PyData.depthAll, Bool.and_eq_true]
        exact ⟨⟨h1.1, h2.1⟩, Nat.max_le.mpr ⟨h1.2, h2.2⟩⟩
    have := this ds h
    simp only [D.py, PyData.canLay0, PyData.depth]
    exact ⟨this.1, by omega⟩
  | 0, .tup ds, h => by cases h
  | 0, .lst ds, h => by cases h
  | n, .dK _, h => by cases n <;> cases h
  | n, .dT _, h => by cases n <;> cases h
  | n, .ins _ _, h => by cases n <;> cases h
  | n, .fzl _, h => by cases n <;> cases h
  | n, .exn _ _, h => by cases n <;> cases h
section
variable {K : PySem.W.Frag} {cl : CE} {H : Hp}
mutual
theorem Rp.dp : ∀ {v : V} {d : D} {fp : List Addr} {n : Nat}, Rp K cl H v d fp → d.dat n = true → Dp K H v d.py
  | _, _, _, _, .non, _ => by rw [D.py]; exact .non
  | _, _, _, _, .bl b, _ => by rw [D.py]; exact .bl b
  | _, _, _, _, .int i, _ => by rw [D.py]; exact .int i
  | _, _, _, _, .str x, _ => by rw [D.py]; exact .str x
  | _, _, _, 0, .tup h r, e => by cases e
  | _, _, _, n + 1, .tup h r, e => by rw [D.py]; exact .tup h (RpL.dp r (n := n) e)
  | _, _, _, 0, .lst h r, e => by cases e
  | _, _, _, n + 1, .lst h r, e => by rw [D.py]; exact .lst (.of h) (RpL.dp r (n := n) e)
  | _, _, _, n, .lsf h r, e => by cases n <;> cases e
  | _, _, _, n, .dK h k r, e => by cases n <;> cases e
  | _, _, _, n, .dT h ok hk k hv r, e => by cases n <;> cases e
  | _, _, _, n, .ins c h k r, e => by cases n <;> cases e
theorem RpL.dp : ∀ {vs : List V} {ds : List D} {fp : List Addr} {n : Nat}, RpL K cl H vs ds fp → ds.all (D.dat n) = true → DpAll K H vs (D.pys ds)
  | _, _, _, _, .nil, _ => .nil
  | _, _, _, n, .cons h r, e => by
    rw [List.all_cons, Bool.and_eq_true] at e
    exact .cons (Rp.dp h e.1) (RpL.dp r e.2)
end
end
theorem D.dat_noE {d : D} {n : Nat} (h : d.dat n = true) : d.noE = true := by
  cases d <;> first | rfl | (cases n <;> cases h)
def dEq (x y : D) : Option D := if x.dat 64 = true ∧ y.dat 64 = true then some (.bl (x.eqv y)) else none
def dNe (x y : D) : Option D := if x.dat 64 = true ∧ y.dat 64 = true then some (.bl (!x.eqv y)) else none
theorem D.shaped {d : D} (h : d.dat 64 = true) : SeqAt.shaped d.py = true := by
  have := D.dat_lay 64 d h
  unfold SeqAt.shaped
  rw [this.1, Bool.true_and]
  exact decide_eq_true this.2
section
variable {X : Cx} {W : WX} {Γx Γ : Ctx} {n : Nat} {m m1 m2 : List Nat} {pos : Pos} {a b : Expr} {ga gb : List D → ER D} {k k1 : Kd}
theorem eq_imp {f : D → D → Option D} {r : R2} {ta tb : TE} (hf : ∀ x y z, f x y = some z → ∃ c, z = .bl c ∧ (x.noE = true ∧ y.noE = true) ∧ ∀ H v w fp fq (Q : VK), Rp X.K (clX X) H v x fp → Rp X.K (clX X) H w y fq → Q (.bl c) H → r v w H Q)
    (ha : ∀ σ H Q, rdE X W Γx Γ n m1 k ga σ H Q → ta σ H Q) (hb : ∀ σ H Q, rdE X W Γx Γ (n + 1) m2 k1 gb σ H Q → tb σ H Q) (ok : okK m2 (n + 1) k = true) (σ : St) (H : Hp) (Q : VK) (h : rdE X W Γx Γ n (m1 ++ m2) .own (eBin f ga gb) σ H Q) : tOp r ta tb σ H Q := by
  obtain ⟨σD, lab, g, sr, po⟩ := h
  refine ha _ _ _ ⟨σD, lab, g, sr, po.seq' fun x σD1 v H1 lab1 sr1 pr1 rl1 po1 => ?_⟩
  refine hb _ _ _ ⟨σD1, lab1, gok.up g, sr1, po1.seq (SubK.up _ _) (Nat.le_succ _) (SubK.nil _ _) (Nat.le_refl _) fun y σD2 w H2 lab2 sr2 pr2 rl2 po2 => ?_⟩
  have rl1 := VR.pres pr2 rl1 ok (by simp [keepL])
  obtain ⟨z, e, q⟩ := po2.done
  obtain ⟨c, rfl, hno, hr⟩ := hf x y z e
  obtain ⟨f1, r1⟩ := rl1.rp hno.1
  obtain ⟨f2, r2⟩ := rl2.rp hno.2
  exact hr _ _ _ _ _ _ r1 r2 (q _ _ _ sr2 (.refl _ _ _ _) (SV.bl _).vr)
theorem dEq_ok : ∀ x y z, dEq x y = some z → ∃ c, z = .bl c ∧ (x.noE = true ∧ y.noE = true) ∧ ∀ H v w fp fq (Q : VK), Rp X.K (clX X) H v x fp → Rp X.K (clX X) H w y fq → Q (.bl c) H → rEqD X.K v w H Q := fun x y z e => by
  unfold dEq at e
  split at e
  · rename_i h
    cases e
    exact ⟨_, rfl, ⟨D.dat_noE h.1, D.dat_noE h.2⟩, fun H v w fp fq Q r1 r2 q => ⟨x.py, y.py, r1.dp h.1, r2.dp h.2, D.shaped h.1, D.shaped h.2, q⟩⟩
  · cases e
theorem dNe_ok : ∀ x y z, dNe x y = some z → ∃ c, z = .bl c ∧ (x.noE = true ∧ y.noE = true) ∧ ∀ H v w fp fq (Q : VK), Rp X.K (clX X) H v x fp → Rp X.K (clX X) H w y fq → Q (.bl c) H → rNeD X.K v w H Q := fun x y z e => by
  unfold dNe at e
  split at e
  · rename_i h
    cases e
    exact ⟨_, rfl, ⟨D.dat_noE h.1, D.dat_noE h.2⟩, fun H v w fp fq Q r1 r2 q => ⟨x.py, y.py, r1.dp h.1, r2.dp h.2, D.shaped h.1, D.shaped h.2, q⟩⟩
  · cases e
theorem ej_eq (hu : X.A.units + 64 < cLine) (ha : EJ X W Γx Γ n m1 a ga k) (hb : EJ X W Γx Γ (n + 1) m2 b gb k1) (ok : okK m2 (n + 1) k = true := by decide) : EJ X W Γx Γ n (m1 ++ m2) (.Compare a [.Eq] [b] pos) (eBin dEq ga gb) .own :=
  pe_imp (pe_cmpR (op_eqD hu) ha hb (nomark _)) fun σ H Q h => eq_imp dEq_ok (fun _ _ _ q => q) (fun _ _ _ q => q) ok σ H Q h
theorem ej_ne (hu : X.A.units + 64 < cLine) (ha : EJ X W Γx Γ n m1 a ga k) (hb : EJ X W Γx Γ (n + 1) m2 b gb k1) (ok : okK m2 (n + 1) k = true := by decide) : EJ X W Γx Γ n (m1 ++ m2) (.Compare a [.NotEq] [b] pos) (eBin dNe ga gb) .own :=
  pe_imp (pe_cmpR (op_neD hu) ha hb (nomark _)) fun σ H Q h => eq_imp dNe_ok (fun _ _ _ q => q) (fun _ _ _ q => q) ok σ H Q h
theorem tj_eq (hu : X.A.units + 64 < cLine) (ha : EJ X W Γx Γ n m1 a ga k) (hb : EJ X W Γx Γ (n + 1) m2 b gb k1) (ok : okK m2 (n + 1) k = true := by decide) : TJ X W Γx Γ n (m1 ++ m2) (.Compare a [.Eq] [b] pos) (tOf (eBin dEq ga gb)) :=
  pt_imp (pt_cmpR (op_eqD hu) ha hb (nomark _)) fun σ H Q h => tof_imp (fun σ H Q q => eq_imp dEq_ok (fun _ _ _ q => q) (fun _ _ _ q => q) ok σ H Q q) σ H Q h
theorem tj_ne (hu : X.A.units + 64 < cLine) (ha : EJ X W Γx Γ n m1 a ga k) (hb : EJ X W Γx Γ (n + 1) m2 b gb k1) (ok : okK m2 (n + 1) k = true := by decide) : TJ X W Γx Γ n (m1 ++ m2) (.Compare a [.NotEq] [b] pos) (tOf (eBin dNe ga gb)) :=
  pt_imp (pt_cmpR (op_neD hu) ha hb (nomark _)) fun σ H Q h => tof_imp (fun σ H Q q => eq_imp dNe_ok (fun _ _ _ q => q) (fun _ _ _ q => q) ok σ H Q q) σ H Q h
end
def eCall1 (f : List D → Option D) (gs : List D → ER (List D)) : List D → ER D := fun σ => (gs σ).bind fun ds σ1 => ofO (f ds) σ1
/-- f is what the call does: a scalar comes -/
def ScalCall (X : Cx) (f : List D → Option D) (r : List V → Hp → VK → Prop) : Prop := ∀ ds z, f ds = some z → ∃ zv, SV zv z ∧ ∀ (H : Hp) (vs : List V) (fp : List Addr) (Q : VK), RpL X.K (clX X) H vs ds fp → Q zv H → r vs H Q
section
variable {X : Cx} {W : WX} {Γx Γ : Ctx} {n : Nat} {m m1 m2 : List Nat} {pos p : Pos} {x : Str} {e : Expr} {es : List Expr} {gs : List D → ER (List D)} {ks : List AK} {f : List D → Option D} {r : List V → Hp → VK → Prop} {id T : String}
theorem callB_imp {ta : TA} (hf : ScalCall X f r) (hv : ks.all valA = true) (ha : ∀ σ H Q, rdA X W Γx Γ n m ks gs σ H Q → ta σ H Q) (σ : St) (H : Hp) (Q : VK) (h : rdE X W Γx Γ n m .own (eCall1 f gs) σ H Q) : tCB r ta σ H Q := by
  obtain ⟨σD, lab, g, sr, po⟩ := h
  refine ha _ _ _ ⟨σD, lab, g, sr, po.last fun ds σD1 vs H1 lab1 sr1 pr1 rl1 po1 => ?_⟩
  obtain ⟨z, e, q⟩ := po1.done
  obtain ⟨zv, sv, hr⟩ := hf ds z e
  obtain ⟨fp, rp, _⟩ := rl1.mix hv
  exact hr _ _ _ _ rp (q _ _ _ sr1 (.refl _ _ _ _) sv.vr)
theorem ej_callB (hf : ScalCall X f r) (hc : CallR X (.builtin id) r) (hg : Gl X x) (hm : X.mg x = none) (hv : bootBuiltins x = some (.builtin id)) (ha : AJ X W Γx Γ n m (e :: es) gs ks) (ho : ks.all valA = true := by rfl) (hn : x ≠ "__name__" := by decide) (hdb : (x == ("__debug__" : Str)) = false := by decide)
    (he : starEach (e :: es) X.env = (false, eval e X.env) :: starEach es X.env := by rfl) (hpl : (backTo pos (starEach es X.env)).any (·.1) = false := by rfl) : EJ X W Γx Γ n m (.Call (.Name x p) (e :: es) [] pos) (eCall1 f gs) .own :=
  pe_imp (pe_callB hc hg hm hv ha hn hdb he hpl) fun σ H Q h => callB_imp hf ho (fun _ _ _ q => q) σ H Q h
theorem ej_callTy (hf : ScalCall X f r) (hc : CallR X (.type T) r) (hg : Gl X x) (hm : X.mg x = none) (hv : bootBuiltins x = some (.type T)) (ha : AJ X W Γx Γ n m (e :: es) gs ks) (ho : ks.all valA = true := by rfl) (hn : x ≠ "__name__" := by decide) (hdb : (x == ("__debug__" : Str)) = false := by decide)
    (he : starEach (e :: es) X.env = (false, eval e X.env) :: starEach es X.env := by rfl) (hpl : (backTo pos (starEach es X.env)).any (·.1) = false := by rfl) : EJ X W Γx Γ n m (.Call (.Name x p) (e :: es) [] pos) (eCall1 f gs) .own :=
  pe_imp (pe_callTy hc hg hm hv ha hn hdb he hpl) fun σ H Q h => callB_imp hf ho (fun _ _ _ q => q) σ H Q h
end
def fLen : List D → Option D
  | [.tup ds] => some (.int ds.length)
  | [.lst ds] => some (.int ds.length)
  | [.fzl ds] => some (.int ds.length)
  | [.str z] => if z.length ≤ sizeLine then some (.int z.length) else none
  | _ => none
def fAbs : List D → Option D
  | [.int i] => some (.int (if i < 0 then -i else i))
  | _ => none
def fInt : List D → Option D
  | [.int i] => some (.int i)
  | [.bl b] => some (.int (if b then 1 else 0))
  | _ => none
def fMax2 : List D → Option D
  | [.int i, .int j] => some (.int (if j > i then j else i))
  | _ => none
def fMin2 : List D → Option D
  | [.int i, .int j] => some (.int (if j < i then j else i))
  | _ => none
section
variable {X : Cx}
theorem RpL.one_inv {K : PySem.W.Frag} {cl : CE} {H : Hp} {vs : List V} {d : D} {fp : List Addr} (h : RpL K cl H vs [d] fp) : ∃ v f, vs = [v] ∧ Rp K cl H v d f := by
  obtain ⟨v, ws, f1, f2, rfl, rfl, a, b⟩ := h.cons_inv
  obtain ⟨rfl, rfl⟩ := b.nil_inv
  exact ⟨v, f1, rfl, a⟩
theorem RpL.two_inv {K : PySem.W.Frag} {cl : CE} {H : Hp} {vs : List V} {d e : D} {fp : List Addr} (h : RpL K cl H vs [d, e] fp) : ∃ v w f g, vs = [v, w] ∧ Rp K cl H v d f ∧ Rp K cl H w e g := by
  obtain ⟨v, ws, f1, f2, rfl, rfl, a, b⟩ := h.cons_inv
  obtain ⟨w, g, rfl, c⟩ := b.one_inv
  exact ⟨v, w, f1, g, rfl, a, c⟩
theorem sc_len : ScalCall X fLen (fun xs H Q => ∃ x n, xs = [x] ∧ LenV X.K x H n ∧ Q (.int n) H) := fun ds z e => by
  unfold fLen at e
  split at e
  · cases e
    refine ⟨_, .int _, fun H vs fp Q r q => ?_⟩
    obtain ⟨v, f, rfl, r0⟩ := r.one_inv
    cases r0 with
    | tup h r => exact ⟨_, _, rfl, .inr ⟨_, h, rfl⟩, by rw [r.len]; exact q⟩
  · cases e
    refine ⟨_, .int _, fun H vs fp Q r q => ?_⟩
    obtain ⟨v, f, rfl, r0⟩ := r.one_inv
    cases r0 with
    | lst h r => exact ⟨_, _, rfl, .inl ⟨_, .of h, rfl⟩, by rw [r.len]; exact q⟩
  · cases e
    refine ⟨_, .int _, fun H vs fp Q r q => ?_⟩
    obtain ⟨v, f, rfl, r0⟩ := r.one_inv
    cases r0 with
    | lsf h r => exact ⟨_, _, rfl, .inl ⟨_, h.sql, rfl⟩, by rw [r.len]; exact q⟩
  · split at e
    · rename_i hz
      cases e
      refine ⟨_, .int _, fun H vs fp Q r q => ?_⟩
      obtain ⟨v, f, rfl, r0⟩ := r.one_inv
      cases r0
      exact ⟨_, _, rfl, ⟨hz, rfl⟩, q⟩
    · cases e
  · cases e
theorem sc_abs : ScalCall X fAbs (fun xs H Q => ∃ i, xs = [.int i] ∧ Q (.int (if i < 0 then -i else i)) H) := fun ds z e => by
  unfold fAbs at e
  split at e
  · cases e
    refine ⟨_, .int _, fun H vs fp Q r q => ?_⟩
    obtain ⟨v, f, rfl, r0⟩ := r.one_inv
    cases r0
    exact ⟨_, rfl, q⟩
  · cases e
theorem sc_int : ScalCall X fInt (fun xs H Q => (∃ i, xs = [.int i] ∧ Q (.int i) H) ∨ ∃ k, xs = [.bl k] ∧ Q (.int (if k then 1 else 0)) H) := fun ds z e => by
  unfold fInt at e
  split at e
  · cases e
    refine ⟨_, .int _, fun H vs fp Q r q => ?_⟩
    obtain ⟨v, f, rfl, r0⟩ := r.one_inv
    cases r0
    exact .inl ⟨_, rfl, q⟩
  · cases e
    refine ⟨_, .int _, fun H vs fp Q r q => ?_⟩
    obtain ⟨v, f, rfl, r0⟩ := r.one_inv
    cases r0
    exact .inr ⟨_, rfl, q⟩
  · cases e
theorem sc_max2 : ScalCall X fMax2 (fun xs H Q => ∃ i j, xs = [.int i, .int j] ∧ Q (.int (if j > i then j else i)) H) := fun ds z e => by
  unfold fMax2 at e
  split at e
  · cases e
    refine ⟨_, .int _, fun H vs fp Q r q => ?_⟩
    obtain ⟨v, w, f, g, rfl, r1, r2⟩ := r.two_inv
    cases r1
    cases r2
    exact ⟨_, _, rfl, q⟩
  · cases e
theorem sc_min2 : ScalCall X fMin2 (fun xs H Q => ∃ i j, xs = [.int i, .int j] ∧ Q (.int (if j < i then j else i)) H) := fun ds z e => by
  unfold fMin2 at e
  split at e
  · cases e
    refine ⟨_, .int _, fun H vs fp Q r q => ?_⟩
    obtain ⟨v, w, f, g, rfl, r1, r2⟩ := r.two_inv
    cases r1
    cases r2
    exact ⟨_, _, rfl, q⟩
  · cases e
end
section
variable {X : Cx} {W : WX} {Γx Γ : Ctx} {n : Nat} {m m1 m2 : List Nat} {pos p : Pos} {e : Expr} {es : List Expr} {gs : List D → ER (List D)} {ks : List AK}
theorem ej_len (hm : X.mg "len" = none) (ha : AJ X W Γx Γ n m [e] gs ks) (hg : Gl X "len" := by rfl) (ho : ks.all valA = true := by rfl) (he : starEach [e] X.env = [(false, eval e X.env)] := by rfl) : EJ X W Γx Γ n m (.Call (.Name "len" p) [e] [] pos) (eCall1 fLen gs) .own :=
  ej_callB sc_len call_len hg hm PySem.boot_len ha ho (by decide) (by decide) he (by rfl)
theorem ej_abs (hm : X.mg "abs" = none) (ha : AJ X W Γx Γ n m [e] gs ks) (hg : Gl X "abs" := by rfl) (ho : ks.all valA = true := by rfl) (he : starEach [e] X.env = [(false, eval e X.env)] := by rfl) : EJ X W Γx Γ n m (.Call (.Name "abs" p) [e] [] pos) (eCall1 fAbs gs) .own :=
  ej_callB sc_abs call_abs hg hm (by decide +kernel) ha ho (by decide) (by decide) he (by rfl)
theorem ej_intc (hm : X.mg "int" = none) (ha : AJ X W Γx Γ n m [e] gs ks) (hg : Gl X "int" := by rfl) (ho : ks.all valA = true := by rfl) (he : starEach [e] X.env = [(false, eval e X.env)] := by rfl) : EJ X W Γx Γ n m (.Call (.Name "int" p) [e] [] pos) (eCall1 fInt gs) .own :=
  ej_callTy sc_int call_int1 hg hm (by decide +kernel) ha ho (by decide) (by decide) he (by rfl)
theorem ej_max2 {e2 : Expr} (hc : X.calm = true) (hm : X.mg "max" = none) (ha : AJ X W Γx Γ n m [e, e2] gs ks) (hg : Gl X "max" := by rfl) (ho : ks.all valA = true := by rfl) (he : starEach [e, e2] X.env = (false, eval e X.env) :: starEach [e2] X.env := by rfl) (hpl : (backTo pos (starEach [e2] X.env)).any (·.1) = false := by rfl) : EJ X W Γx Γ n m (.Call (.Name "max" p) [e, e2] [] pos) (eCall1 fMax2 gs) .own :=
  ej_callB sc_max2 (call_max2 hc) hg hm (by decide +kernel) ha ho (by decide) (by decide) he hpl
theorem ej_min2 {e2 : Expr} (hc : X.calm = true) (hm : X.mg "min" = none) (ha : AJ X W Γx Γ n m [e, e2] gs ks) (hg : Gl X "min" := by rfl) (ho : ks.all valA = true := by rfl) (he : starEach [e, e2] X.env = (false, eval e X.env) :: starEach [e2] X.env := by rfl) (hpl : (backTo pos (starEach [e2] X.env)).any (·.1) = false := by rfl) : EJ X W Γx Γ n m (.Call (.Name "min" p) [e, e2] [] pos) (eCall1 fMin2 gs) .own :=
  ej_callB sc_min2 (call_min2 hc) hg hm (by decide +kernel) ha ho (by decide) (by decide) he hpl
end

inductive FR where
  | stuck | ret (d : D) (outs : List D) | exc (c : Str) (p : D) (outs : List D)
def outsR (K : PySem.W.Frag) (ce : CE) (io : List Nat) (vs : List V) (H : Hp) (lab : Labs) (outs : List D) : Prop := ∀ (q : Nat) (i : Nat), io[q]? = some i → ∃ v d, vs[i]? = some v ∧ outs[q]? = some d ∧ VR K ce H lab .own (.slt i) v d
def PayM (K : PySem.W.Frag) (ce : CE) (H : Hp) (lab : Labs) (c : Str) (p : D) (dd : Option Addr) : Prop := match pfOf c with
  | none => p = .non ∧ dd = none
  | some f => ∃ (d : Addr) (v : V) (j : Nat), dd = some d ∧ H d = some (.xd [(f, v)]) ∧ lab d = .tmp j ∧ VR K ce H lab .own (.tmp j) v p
def retK (b : Bool) : Kd := if b then .own else .bor [.prm]
/-- the promise: np parameters, of which those at io are changed in place; own: what comes back is new -/
def parK (io xs : List Nat) (i : Nat) : Kd := if io.contains i then .own else if xs.contains i then .exc [.prm] else .bor [.prm]
def spD (K : PySem.W.Frag) (ce : CE) (np : Nat) (io xs : List Nat) (own : Bool) (F : List D → FR) : Sp := fun vs H Q E => ∃ (ds : List D) (lab : Labs), vs.length = np ∧ ds.length = np ∧
  (∀ (i : Nat) v d, vs[i]? = some v → ds[i]? = some d → VR K ce H lab (parK io xs i) (.slt i) v d) ∧
  (∀ a, H a ≠ none → lab a = .out ∨ lab a = .prm ∨ ∃ i ∈ io, lab a = .slt i) ∧
  match F ds with
  | .stuck => False
  | .ret d outs => ∀ v H' lab' j, Pres io 0 H lab H' lab' → outsR K ce io vs H' lab' outs → VR K ce H' lab' (retK own) (.tmp j) v d → Q v H'
  | .exc c p outs => ∀ H' lab' C dd, ce.cl c C → Pres io 0 H lab H' lab' → outsR K ce io vs H' lab' outs → PayM K ce H' lab' c p dd → E (.ref C) dd H'
end Ow


namespace Ow
open PySem PySem.Spec PyProof.Rows L2
def leK : Kd → Kd → Bool
  | .own, .own => true
  | .bor R, .bor R' => R.all (R'.contains ·)
  | .spn R, .spn R' => R.all (R'.contains ·)
  | .exc R, .exc R' => R.all (R'.contains ·) && (!R'.contains .out || R.contains .out)
  | _, _ => false
/-- .. at slot i: one's own leans on itself -/
def leKi (i : Nat) (k k' : Kd) : Bool := leK k k' || match k, k' with
  | .own, .bor R => R.contains (.slt i)
  | _, _ => false
def leC (Γ Γ' : Ctx) : Bool := (List.range Γ'.length).all fun i => match Γ'[i]? with
  | some (some k') => (match Γ[i]? with
    | some (some k) => leKi i k k'
    | _ => false)
  | _ => true
theorem bw.mono {R R' : List Lab} (h : R.all (R'.contains ·) = true) {l : Lab} (b : bw R l) : bw R' l := b.elim .inl fun z => .inr (by
  have := List.all_eq_true.mp h _ z
  simpa using this)
section
variable {K : PySem.W.Frag} {cl : CE} {H H' : Hp} {lab lab' : Labs} {k k' : Kd} {t : Lab} {v : V} {d : D}
theorem VR.le (h : VR K cl H lab k t v d) (e : leK k k' = true) : VR K cl H lab k' t v d := by
  cases k with
  | own => cases k' with
    | own => exact h
    | _ => cases e
  | bor R => cases k' with
    | bor R' =>
      obtain ⟨fp, r, l⟩ := h
      exact ⟨fp, r, fun a ha => (l a ha).mono e⟩
    | _ => cases e
  | spn R => cases k' with
    | spn R' =>
      obtain ⟨a, vs, ds, fp, e1, e2, ha, r, la, l⟩ := h
      exact ⟨a, vs, ds, fp, e1, e2, ha, r, la, fun b hb => ⟨(l b hb).1, (l b hb).2.mono e⟩⟩
    | _ => cases e
  | exc R => cases k' with
    | exc R' =>
      obtain ⟨fp, r, l, u⟩ := h
      have e : (R.all (R'.contains ·) && (!R'.contains .out || R.contains .out)) = true := e
      rw [Bool.and_eq_true] at e
      refine ⟨fp, r, fun a ha => (l a ha).mono e.1, fun z => ?_⟩
      have mem : Lab.out ∈ R := by
        have z : R'.contains Lab.out = true := by simpa using z
        have := e.2
        rw [z] at this
        simpa using this
      obtain ⟨u1, u2, u3⟩ := u mem
      refine ⟨?_, u2, u3⟩
      have := List.all_eq_true.mp e.1 t u1
      simpa using this
    | _ => cases e
end
theorem leC.at_ {Γ Γ' : Ctx} (h : leC Γ Γ' = true) {i : Nat} {k' : Kd} (e : Γ'[i]? = some (some k')) : ∃ k, Γ[i]? = some (some k) ∧ leKi i k k' = true := by
  have := List.all_eq_true.mp h i (List.mem_range.mpr (List.getElem?_eq_some_iff.mp e).1)
  rw [e] at this
  dsimp only at this
  split at this
  · rename_i k e2
    exact ⟨k, e2, this⟩
  · cases this
theorem VR.lei {K : PySem.W.Frag} {cl : CE} {H : Hp} {lab : Labs} {k k' : Kd} {i : Nat} {v : V} {d : D} (h : VR K cl H lab k (.slt i) v d) (e : leKi i k k' = true) : VR K cl H lab k' (.slt i) v d := by
  unfold leKi at e
  rcases Bool.or_eq_true_iff.mp e with e | e
  · exact h.le e
  · split at e
    · obtain ⟨fp, r, _, l⟩ := h
      exact ⟨fp, r, fun a ha => .inr (by rw [l a ha]; simpa using e)⟩
    · cases e
theorem SR.weak {X : Cx} {Γ Γ' : Ctx} {σ : St} {H : Hp} {lab : Labs} {σD : List D} (s : SR X Γ σ H lab σD) (h : leC Γ Γ' = true) : SR X Γ' σ H lab σD := ⟨s.l1, s.l2, fun i k' e => by
  obtain ⟨k, e1, e2⟩ := leC.at_ h e
  obtain ⟨v, d, a, b, c⟩ := s.at_ i k e1
  exact ⟨v, d, a, b, c.lei e2⟩⟩
def slotAt (ks : List AK) (i : Nat) : Option Nat := match ks[i]? with
  | some (.slot r) => some r
  | _ => none
def slotPos (ks : List AK) : List Nat := (List.range ks.length).filter fun i => (slotAt ks i).isSome
def rsOf (ks : List AK) : List Nat := (slotPos ks).filterMap (slotAt ks)
def posA (ks : List AK) (r : Nat) : Option Nat := (List.range ks.length).find? fun i => slotAt ks i == some r
def uniqA (ks : List AK) : Bool := (List.range ks.length).all fun i => (List.range ks.length).all fun j => (slotAt ks i).isNone || (slotAt ks i != slotAt ks j) || (i == j)
theorem slotAt_lt {ks : List AK} {i r : Nat} (h : slotAt ks i = some r) : i < ks.length := by
  unfold slotAt at h
  split at h
  · rename_i e; exact (List.getElem?_eq_some_iff.mp e).1
  · cases h
theorem uniqA.at_ {ks : List AK} (u : uniqA ks = true) {i j r : Nat} (hi : slotAt ks i = some r) (hj : slotAt ks j = some r) : i = j := by
  have := List.all_eq_true.mp (List.all_eq_true.mp u i (List.mem_range.mpr (slotAt_lt hi))) j (List.mem_range.mpr (slotAt_lt hj))
  rw [hi, hj] at this
  simpa using this
theorem posA_of {ks : List AK} (u : uniqA ks = true) {i r : Nat} (h : slotAt ks i = some r) : posA ks r = some i := by
  unfold posA
  cases e : (List.range ks.length).find? fun i => slotAt ks i == some r with
  | none =>
    have := List.find?_eq_none.mp e i (List.mem_range.mpr (slotAt_lt h))
    simp [h] at this
  | some j =>
    have q := List.find?_some e
    have q : slotAt ks j = some r := by simpa using q
    rw [uniqA.at_ u h q]
theorem of_posA {ks : List AK} {i r : Nat} (h : posA ks r = some i) : slotAt ks i = some r := by
  have := List.find?_some h
  simpa using this
theorem mem_slotPos {ks : List AK} {i : Nat} : i ∈ slotPos ks ↔ ∃ r, slotAt ks i = some r := by
  unfold slotPos
  rw [List.mem_filter, List.mem_range, Option.isSome_iff_exists]
  exact ⟨fun h => h.2, fun ⟨r, h⟩ => ⟨slotAt_lt h, r, h⟩⟩
theorem mem_rsOf {ks : List AK} {r : Nat} : r ∈ rsOf ks ↔ ∃ i, slotAt ks i = some r := by
  unfold rsOf
  rw [List.mem_filterMap]
  exact ⟨fun ⟨i, _, h⟩ => ⟨i, h⟩, fun ⟨i, h⟩ => ⟨i, mem_slotPos.mpr ⟨r, h⟩, h⟩⟩
theorem AR.at_ {X : Cx} {σ : St} {σD : List D} {H : Hp} {lab : Labs} : ∀ {ks : List AK} {n : Nat} {vs : List V} {ds : List D} {i : Nat} {v : V} {d : D}, AR X σ σD H lab n ks vs ds → vs[i]? = some v → ds[i]? = some d →
    (∃ k, ks[i]? = some (.val k) ∧ VR X.K (clX X) H lab k (.tmp (n + i)) v d) ∨ ∃ r, ks[i]? = some (.slot r) ∧ σ[r]? = some (some v) ∧ d = σD.getD r .non
  | [], n, _, _, i, _, _, ⟨e1, e2⟩, h1, _ => by subst e1; simp at h1
  | .val k :: ks, n, _, _, 0, _, _, ⟨v, vs', d, ds', e1, e2, r, h⟩, h1, h2 => by
    subst e1 e2
    simp at h1 h2
    subst h1 h2
    exact .inl ⟨k, rfl, r⟩
  | .slot s :: ks, n, _, _, 0, _, _, ⟨v, vs', ds', e1, e2, r, h⟩, h1, h2 => by
    subst e1 e2
    simp at h1 h2
    subst h1
    exact .inr ⟨s, rfl, r, by rw [← h2]; simp⟩
  | .val k :: ks, n, _, _, i + 1, _, _, ⟨v, vs', d, ds', e1, e2, r, h⟩, h1, h2 => by
    subst e1 e2
    rcases AR.at_ (i := i) h (by simpa using h1) (by simpa using h2) with ⟨k', a, b⟩ | q
    · exact .inl ⟨k', by simpa using a, by rw [show n + (i + 1) = n + 1 + i by omega]; exact b⟩
    · exact .inr (by simpa using q)
  | .slot s :: ks, n, _, _, i + 1, _, _, ⟨v, vs', ds', e1, e2, r, h⟩, h1, h2 => by
    subst e1 e2
    rcases AR.at_ (i := i) h (by simpa using h1) (by simpa using h2) with ⟨k', a, b⟩ | q
    · exact .inl ⟨k', by simpa using a, by rw [show n + (i + 1) = n + 1 + i by omega]; exact b⟩
    · exact .inr (by simpa using q)
def posL (ks : List AK) : Lab → Option Nat
  | .slt r => posA ks r
  | _ => none
def visL (n : Nat) (ks : List AK) (l : Lab) : Bool := match l with
  | .fro => true
  | .tmp j => decide (n ≤ j) || (unionR ks).contains l
  | l => (unionR ks).contains l
def labIn (n : Nat) (ks : List AK) (lab : Labs) : Labs := fun a => match posL ks (lab a) with
  | some i => .slt i
  | none => if visL n ks (lab a) = true then .prm else .out
def labOut (own : Bool) (n : Nat) (ks : List AK) (H : Hp) (lab lab' : Labs) : Labs := fun a => if (H a).isSome = true ∧ posL ks (lab a) = none then (if own then lab a else colF n lab a) else match lab' a with
  | .slt i => (match slotAt ks i with
    | some r => .slt r
    | none => .fro)
  | .tmp _ => .tmp n
  | _ => .fro
def callK (own : Bool) (ks : List AK) : Kd := if own then .own else .bor (unionR ks)
/-- the labels that lean on no slot of the call -/
def freeR (ks : List AK) (R : List Lab) : Bool := R.all fun l => (posL ks l).isNone
def putOuts : List Nat → List D → List D → List D
  | r :: rs, o :: os, σ => putOuts rs os (σ.set r o)
  | _, _, σ => σ
theorem putOuts_len : ∀ (rs : List Nat) (os σ : List D), (putOuts rs os σ).length = σ.length
  | [], _, _ => rfl
  | _ :: _, [], _ => rfl
  | r :: rs, o :: os, σ => by rw [putOuts, putOuts_len, List.length_set]
theorem putOuts_ne : ∀ (rs : List Nat) (os σ : List D) {i : Nat}, i ∉ rs → (putOuts rs os σ)[i]? = σ[i]?
  | [], _, _, _, _ => rfl
  | _ :: _, [], _, _, _ => rfl
  | r :: rs, o :: os, σ, i, h => by
    rw [putOuts, putOuts_ne rs os _ fun z => h (List.mem_cons_of_mem _ z), List.getElem?_set_ne]
    rintro rfl
    exact h List.mem_cons_self
theorem putOuts_at : ∀ (rs : List Nat) (os σ : List D) {q r : Nat} {d : D}, rs.Nodup → rs[q]? = some r → os[q]? = some d → r < σ.length → (putOuts rs os σ)[r]? = some d
  | [], _, _, _, _, _, _, h, _, _ => by simp at h
  | _ :: _, [], _, _, _, _, _, _, h, _ => by simp at h
  | r :: rs, o :: os, σ, 0, _, _, nd, h1, h2, h3 => by
    simp at h1 h2
    subst h1 h2
    rw [putOuts, putOuts_ne rs os _ (List.nodup_cons.mp nd).1, List.getElem?_set_self h3]
  | r :: rs, o :: os, σ, q + 1, r', d, nd, h1, h2, h3 => by
    rw [putOuts]
    exact putOuts_at rs os _ (q := q) (List.nodup_cons.mp nd).2 (by simpa using h1) (by simpa using h2) (by rw [List.length_set]; exact h3)
def eCall (F : List D → FR) (rs : List Nat) (gs : List D → ER (List D)) : List D → ER D := fun σ => (gs σ).bind fun ds σ1 => match F ds with
  | .stuck => .stuck
  | .ret d outs => .ok d (putOuts rs outs σ1)
  | .exc c p outs => .exc c p (putOuts rs outs σ1)
def isOwnAt (Γ : Ctx) (r : Nat) : Bool := match Γ[r]? with
  | some (some .own) => true
  | _ => false
theorem isOwnAt.at_ {Γ : Ctx} {r : Nat} (h : isOwnAt Γ r = true) : Γ[r]? = some (some .own) := by
  unfold isOwnAt at h
  split at h
  · assumption
  · cases h
/-- the slots that live are at rs, or lean on none of the call's slots -/
def restOk (Γ : Ctx) (ks : List AK) (rs : List Nat) : Bool := (List.range Γ.length).all fun i => match Γ[i]? with
  | some (some .own) => true
  | some (some (.bor R)) => !rs.contains i && freeR ks R
  | some (some (.spn R)) => !rs.contains i && freeR ks R
  | some (some (.exc R)) => !rs.contains i && freeR ks R
  | _ => true
def isEx (ks : List AK) (i : Nat) : Bool := match ks[i]? with
  | some (.val (.exc _)) => true
  | _ => false
def excPos (ks : List AK) : List Nat := (List.range ks.length).filter (isEx ks)
theorem excPos_has {ks : List AK} {i : Nat} : (excPos ks).contains i = isEx ks i := by
  cases e : isEx ks i with
  | true =>
    have : i ∈ excPos ks := by
      unfold excPos
      rw [List.mem_filter, List.mem_range]
      refine ⟨?_, e⟩
      unfold isEx at e
      split at e
      · rename_i h; exact (List.getElem?_eq_some_iff.mp h).1
      · cases e
    simpa using this
  | false =>
    cases z : (excPos ks).contains i with
    | false => rfl
    | true =>
      have : i ∈ excPos ks := by simpa using z
      unfold excPos at this
      rw [List.mem_filter, e] at this
      cases this.2
structure CallOk (Γ Γx : Ctx) (n np : Nat) (io xs : List Nat) (ks : List AK) (rs : List Nat) : Prop where
  x : excPos ks = xs
  u : uniqA ks = true
  l : ks.length = np
  i : slotPos ks = io
  r : rsOf ks = rs
  nd : rs.Nodup
  o : rs.all (isOwnAt Γ) = true
  rest : restOk Γ ks rs = true
  fr : freeR ks (unionR ks) = true
  lx : leC Γ Γx = true
section
variable {X : Cx} {W : WX} {Γx Γ : Ctx} {n : Nat} {m : List Nat} {ks : List AK} {rs io xs : List Nat} {σ : St} {H H' : Hp} {lab lab' : Labs} {σD : List D} {np : Nat} {own : Bool}
theorem posL_slot (u : uniqA ks = true) {i r : Nat} (h : slotAt ks i = some r) : posL ks (.slt r) = some i := posA_of u h
theorem of_posL {l : Lab} {i : Nat} (h : posL ks l = some i) : ∃ r, l = .slt r ∧ slotAt ks i = some r := by
  cases l with
  | slt r => exact ⟨r, rfl, of_posA h⟩
  | _ => cases h
theorem keep_posL (c : CallOk Γ Γx n np io xs ks rs) {l : Lab} (h : keepL rs n l = true) : posL ks l = none := by
  cases e : posL ks l with
  | none => rfl
  | some i =>
    obtain ⟨r, rfl, hr⟩ := of_posL e
    have : r ∈ rs := by rw [← c.r]; exact mem_rsOf.mpr ⟨i, hr⟩
    simp [keepL, this] at h
theorem free_bw {R : List Lab} (h : freeR ks R = true) {l : Lab} (b : bw R l) : posL ks l = none := by
  rcases b with rfl | b
  · rfl
  · have := List.all_eq_true.mp h l b
    simpa using this
/-- what the callee gets -/
theorem call_args (c : CallOk Γ Γx n np io xs ks rs) (s : SR X Γ σ H lab σD) {vs : List V} {ds : List D} (r : AR X σ σD H lab n ks vs ds) : ∀ (i : Nat) v d, vs[i]? = some v → ds[i]? = some d → VR X.K (clX X) H (labIn n ks lab) (parK io xs i) (.slt i) v d := by
  intro i v d h1 h2
  have prm : ∀ {a : Addr}, posL ks (lab a) = none → visL n ks (lab a) = true → labIn n ks lab a = .prm := fun {a} e1 e2 => by
    unfold labIn
    rw [e1]
    dsimp only
    rw [if_pos e2]
  rcases r.at_ h1 h2 with ⟨k, hk, hr⟩ | ⟨q, hk, hσ, rfl⟩
  · have hs : slotAt ks i = none := by unfold slotAt; rw [hk]
    have hio : io.contains i = false := by
      rw [← c.i]
      cases z : (slotPos ks).contains i with
      | false => rfl
      | true =>
        have : i ∈ slotPos ks := by simpa using z
        obtain ⟨r, e⟩ := mem_slotPos.mp this
        rw [hs] at e; cases e
    have hx : xs.contains i = isEx ks i := by rw [← c.x]; exact excPos_has
    unfold parK
    rw [hio, hx]
    unfold isEx
    rw [hk]
    have hu : ∀ l ∈ labsA (.val k), l ∈ unionR ks := fun l hl => List.mem_flatMap.mpr ⟨_, List.mem_of_getElem? hk, hl⟩
    have tmpv : ∀ {a : Addr} {j : Nat}, lab a = .tmp j → n ≤ j → labIn n ks lab a = .prm := fun {a j} e hj => prm (by rw [e]; rfl) (by rw [e]; simp [visL, hj])
    have bwv : ∀ {a : Addr} {R : List Lab}, (∀ l ∈ R, l ∈ unionR ks) → bw R (lab a) → labIn n ks lab a = .prm := fun {a R} hR b => by
      refine prm (free_bw c.fr (b.elim .inl fun z => .inr (hR _ z))) ?_
      rcases b with e | b
      · rw [e]; rfl
      · have := hR _ b
        cases e : lab a with
        | fro => rfl
        | tmp j => rw [e] at this; simp [visL, this]
        | _ => rw [e] at this; simp [visL, this]
    cases k with
    | own =>
      obtain ⟨fp, r, nd, l⟩ := hr
      exact ⟨fp, r, fun a ha => .inr (by rw [tmpv (l a ha) (Nat.le_add_right _ _)]; exact List.mem_cons_self)⟩
    | bor R =>
      obtain ⟨fp, r, l⟩ := hr
      exact ⟨fp, r, fun a ha => .inr (by rw [bwv hu (l a ha)]; exact List.mem_cons_self)⟩
    | spn R =>
      obtain ⟨p, ws, es, fp, rfl, rfl, hp, r, lp, l⟩ := hr
      refine ⟨p :: fp, .lst hp r, fun a ha => .inr ?_⟩
      rcases List.mem_cons.mp ha with e | e
      · rw [e, tmpv lp (Nat.le_add_right _ _)]; exact List.mem_cons_self
      · rw [bwv hu (l a e).2]; exact List.mem_cons_self
    | exc R =>
      obtain ⟨fp, r, l, _⟩ := hr
      exact ⟨fp, r, fun a ha => .inr (by rw [bwv hu (l a ha)]; exact List.mem_cons_self), fun z => by simp at z⟩
  · have hs : slotAt ks i = some q := by unfold slotAt; rw [hk]
    have hio : io.contains i = true := by
      rw [← c.i]
      simpa using mem_slotPos.mpr ⟨q, hs⟩
    unfold parK
    rw [hio]
    have hq : q ∈ rs := by rw [← c.r]; exact mem_rsOf.mpr ⟨i, hs⟩
    have ho := isOwnAt.at_ (List.all_eq_true.mp c.o q hq)
    obtain ⟨w, hw, fp, r, nd, l⟩ := s.get ho
    rw [hσ] at hw
    cases hw
    refine ⟨fp, r, nd, fun a ha => ?_⟩
    unfold labIn
    rw [l a ha, posL_slot c.u hs]
theorem call_labs (c : CallOk Γ Γx n np io xs ks rs) : ∀ a, H a ≠ none → labIn n ks lab a = .out ∨ labIn n ks lab a = .prm ∨ ∃ i ∈ io, labIn n ks lab a = .slt i := by
  intro a _
  unfold labIn
  cases e : posL ks (lab a) with
  | some i =>
    obtain ⟨r, e1, e2⟩ := of_posL e
    exact .inr (.inr ⟨i, by rw [← c.i]; exact mem_slotPos.mpr ⟨r, e2⟩, rfl⟩)
  | none =>
    dsimp only
    split
    · exact .inr (.inl rfl)
    · exact .inl rfl
/-- an address that is not the call's slots' stays -/
theorem call_stay (p : Pres io 0 H (labIn n ks lab) H' lab') {a : Addr} (ha : H a ≠ none) (e : posL ks (lab a) = none) : H' a = H a ∧ lab' a = labIn n ks lab a ∧ oldL (lab' a) = true := by
  have h1 : labIn n ks lab a = .prm ∨ labIn n ks lab a = .out := by
    unfold labIn
    rw [e]
    dsimp only
    split
    · exact .inl rfl
    · exact .inr rfl
  have h2 := p.keep a ha (by rcases h1 with h1 | h1 <;> rw [h1] <;> rfl)
  exact ⟨h2.1, h2.2, by rw [h2.2]; rcases h1 with h1 | h1 <;> rw [h1] <;> rfl⟩
theorem labOut_stay {a : Addr} (ha : H a ≠ none) (e : posL ks (lab a) = none) : labOut own n ks H lab lab' a = if own then lab a else colF n lab a := by
  unfold labOut
  rw [if_pos ⟨by cases q : H a with | none => exact absurd q ha | some _ => rfl, e⟩]
theorem labOut_new {a : Addr} (h : H a = none ∨ posL ks (lab a) ≠ none) : labOut own n ks H lab lab' a = match lab' a with
  | .slt i => (match slotAt ks i with
    | some r => .slt r
    | none => .fro)
  | .tmp _ => .tmp n
  | _ => .fro := by
  unfold labOut
  rw [if_neg]
  rintro ⟨h1, h2⟩
  rcases h with h | h
  · rw [h] at h1; cases h1
  · exact h h2
/-- a new label of the callee's -/
theorem call_new (p : Pres io 0 H (labIn n ks lab) H' lab') {a : Addr} (h : oldL (lab' a) = false) : H a = none ∨ posL ks (lab a) ≠ none := by
  by_cases ha : H a = none
  · exact .inl ha
  · by_cases e : posL ks (lab a) = none
    · rw [(call_stay p ha e).2.2] at h; cases h
    · exact .inr e
theorem call_pres (c : CallOk Γ Γx n np io xs ks rs) (p : Pres io 0 H (labIn n ks lab) H' lab') : Pres rs n H lab H' (labOut own n ks H lab lab') where
  keep := fun a ha hk => by
    have e := keep_posL c hk
    refine ⟨(call_stay p ha e).1, ?_⟩
    rw [labOut_stay ha e]
    split
    · rfl
    · exact colF_keep hk
  tk := p.tk
  there := p.there
  old := fun a ha ho => by
    by_cases q : H a = none ∨ posL ks (lab a) ≠ none
    · rw [labOut_new q] at ho
      split at ho
      · split at ho <;> cases ho
      · cases ho
      · cases ho
    · have h1 : H a ≠ none := fun z => q (.inl z)
      have h2 : posL ks (lab a) = none := Classical.byContradiction fun z => q (.inr z)
      refine ⟨h1, ?_⟩
      rw [labOut_stay h1 h2] at ho ⊢
      split
      · rfl
      · rename_i z
        rw [if_neg z] at ho
        exact colF_old ho
theorem call_own (p : Pres io 0 H (labIn n ks lab) H' lab') {v : V} {d : D} {j : Nat} (h : VR X.K (clX X) H' lab' .own (.tmp j) v d) : VR X.K (clX X) H' (labOut own n ks H lab lab') .own (.tmp n) v d := by
  obtain ⟨fp, r, nd, l⟩ := h
  refine ⟨fp, r, nd, fun a ha => ?_⟩
  rw [labOut_new (call_new p (by rw [l a ha]; rfl)), l a ha]
theorem call_bor (c : CallOk Γ Γx n np io xs ks rs) (p : Pres io 0 H (labIn n ks lab) H' lab') {v : V} {d : D} {t t' : Lab} (h : VR X.K (clX X) H' lab' (.bor [.prm]) t v d) : VR X.K (clX X) H' (labOut false n ks H lab lab') (.bor (unionR ks)) t' v d := by
  obtain ⟨fp, r, l⟩ := h
  refine ⟨fp, r, fun a ha => ?_⟩
  rcases l a ha with e | e
  · rw [labOut_new (call_new p (by rw [e]; rfl)), e]
    exact .inl rfl
  · have e : lab' a = .prm := List.mem_singleton.mp e
    obtain ⟨h1, h2⟩ := p.old a (by obtain ⟨o, q, _⟩ := r.alloc a ha; rw [q]; simp) (by rw [e]; rfl)
    rw [e] at h2
    have h3 : posL ks (lab a) = none := by
      cases z : posL ks (lab a) with
      | none => rfl
      | some i => unfold labIn at h2; rw [z] at h2; cases h2
    have h4 : visL n ks (lab a) = true := by
      unfold labIn at h2
      rw [h3] at h2
      dsimp only at h2
      split at h2
      · assumption
      · cases h2
    rw [labOut_stay h1 h3]
    show bw _ (colF n lab a)
    refine bw_colF ?_
    cases z : lab a with
    | fro => exact .inr (.inl rfl)
    | tmp j =>
      rw [z] at h4
      simp [visL] at h4
      rcases h4 with h4 | h4
      · exact .inl ⟨j, h4, rfl⟩
      · exact .inr (.inr h4)
    | _ =>
      rw [z] at h4
      simp [visL] at h4
      exact .inr (.inr h4)
/-- the slots behind the call -/
theorem call_slots (c : CallOk Γ Γx n np io xs ks rs) (g : gok Γ n = true) (s : SR X Γ σ H lab σD) {vs : List V} {ds : List D} (r : AR X σ σD H lab n ks vs ds) (p : Pres io 0 H (labIn n ks lab) H' lab') {outs : List D} (o : outsR X.K (clX X) io vs H' lab' outs) :
    SR X Γ σ H' (labOut own n ks H lab lab') (putOuts rs outs σD) := by
  refine ⟨s.l1, by rw [putOuts_len]; exact s.l2, fun i k e => ?_⟩
  obtain ⟨v, d, a, b, vr⟩ := s.at_ i k e
  by_cases hi : i ∈ rs
  · have hk : k = .own := by
      have := isOwnAt.at_ (List.all_eq_true.mp c.o i hi)
      rw [e] at this; cases this; rfl
    subst hk
    obtain ⟨q, hq⟩ := List.mem_iff_getElem?.mp hi
    -- the q-th slot of the call
    have hpos : ∃ j, io[q]? = some j ∧ slotAt ks j = some i := by
      have e1 : rsOf ks = (slotPos ks).filterMap (slotAt ks) := rfl
      have e2 : ∀ l : List Nat, (∀ x ∈ l, ∃ r, slotAt ks x = some r) → ∀ (q r : Nat), (l.filterMap (slotAt ks))[q]? = some r → ∃ j : Nat, l[q]? = some j ∧ slotAt ks j = some r := by
        intro l
        induction l with
        | nil => intro _ q r h; simp at h
        | cons x l ih =>
          intro hl q r h
          obtain ⟨rx, hx⟩ := hl x List.mem_cons_self
          rw [List.filterMap_cons, hx] at h
          cases q with
          | zero => simp at h; subst h; exact ⟨x, rfl, hx⟩
          | succ q =>
            obtain ⟨j, h1, h2⟩ := ih (fun y hy => hl y (List.mem_cons_of_mem _ hy)) q r (by simpa using h)
            exact ⟨j, by simpa using h1, h2⟩
      rw [← c.i]
      exact e2 _ (fun x hx => mem_slotPos.mp hx) q i (by rw [← e1, c.r]; exact hq)
    obtain ⟨j, hj, hs⟩ := hpos
    obtain ⟨v', d', h1, h2, fp, rr, nd, l⟩ := o q j hj
    have hv : v' = v := by
      have hlt : j < ds.length := by
        have h3 := (List.getElem?_eq_some_iff.mp h1).1
        have := r.len
        omega
      rcases r.at_ h1 (List.getElem?_eq_getElem hlt) with ⟨k, hk, _⟩ | ⟨q', hk, hσ, _⟩
      · unfold slotAt at hs; rw [hk] at hs; cases hs
      · unfold slotAt at hs
        rw [hk] at hs
        cases hs
        rw [a] at hσ
        cases hσ; rfl
    subst hv
    refine ⟨v', d', a, putOuts_at rs outs σD c.nd hq h2 (List.getElem?_eq_some_iff.mp b).1, fp, rr, nd, fun x hx => ?_⟩
    rw [labOut_new (call_new p (by rw [l x hx]; rfl)), l x hx]
    dsimp only
    rw [hs]
  · refine ⟨v, d, a, by rw [putOuts_ne rs outs σD hi]; exact b, vr.pres (call_pres c p) ?_ (by simp [keepL, hi])⟩
    have hg := gok.at_ g e
    have hr := List.all_eq_true.mp c.rest i (List.mem_range.mpr (List.getElem?_eq_some_iff.mp e).1)
    rw [e] at hr
    have key : ∀ R : List Lab, freeR ks R = true → R.all (keepL [] n) = true → R.all (keepL rs n) = true := fun R h1 h2 => List.all_eq_true.mpr fun l hl => by
      have z1 := List.all_eq_true.mp h1 l hl
      have z2 := List.all_eq_true.mp h2 l hl
      cases l with
      | slt r =>
        simp only [keepL, Bool.not_eq_true', List.contains_eq_mem, decide_eq_false_iff_not]
        intro hm
        rw [← c.r] at hm
        obtain ⟨j, hj⟩ := mem_rsOf.mp hm
        rw [posL_slot c.u hj] at z1
        cases z1
      | _ => exact z2
    cases k with
    | own => rfl
    | bor R =>
      simp only [Bool.and_eq_true] at hr
      exact key R hr.2 hg
    | spn R =>
      simp only [Bool.and_eq_true] at hr
      exact key R hr.2 hg
    | exc R =>
      simp only [Bool.and_eq_true] at hr
      exact key R hr.2 hg
theorem call_pay (p : Pres io 0 H (labIn n ks lab) H' lab') {c : Str} {py : D} {dd : Option Addr} (h : PayM X.K (clX X) H' lab' c py dd) : PayOk X H' (labOut own n ks H lab lab') n c py dd := by
  unfold PayM at h
  unfold PayOk
  split at h
  · rename_i e; first | (rw [e]; exact h) | exact h
  · rename_i f e
    try rw [e]
    obtain ⟨d, v, j, h1, h2, hl, h3⟩ := h
    exact ⟨d, v, n, h1, h2, by rw [labOut_new (call_new p (by rw [hl]; rfl)), hl], Nat.le_refl _, call_own p h3⟩
end
section
variable {X : Cx} {W : WX} {Γx Γ : Ctx} {n lv np : Nat} {m : List Nat} {ks : List AK} {rs io xs : List Nat} {own : Bool} {Fd : List D → FR} {f : Addr} {fd : FuncData} {ps : List Str} {x : Str} {p pos : Pos} {e : Expr} {es : List Expr} {gs : List D → ER (List D)}
/-- the same names -/
structure CEq (a b : CE) : Prop where
  c1 : ∀ c C, a.cl c C → b.cl c C
  c2 : ∀ c C, b.cl c C → a.cl c C
  e1 : ∀ c x d, a.ex c x d → b.ex c x d
  e2 : ∀ c x d, b.ex c x d → a.ex c x d
theorem CEq.calm (hc : X.calm = true) : CEq (clX X) (clM X.mg) := ⟨fun _ _ h => h, fun _ _ h => h, fun _ _ _ h => absurd (hc.symm.trans h.1) (by decide), fun _ _ _ h => False.elim h⟩
theorem outsR.ce {K : PySem.W.Frag} {a b : CE} {vs : List V} {H : Hp} {lab : Labs} {outs : List D} (h : outsR K a io vs H lab outs) (q : CEq a b) : outsR K b io vs H lab outs := fun x i e => by
  obtain ⟨v, d, h1, h2, h3⟩ := h x i e
  exact ⟨v, d, h1, h2, h3.ce q.c1 q.e1⟩
theorem CEq.symm {a b : CE} (q : CEq a b) : CEq b a := ⟨q.c2, q.c1, q.e2, q.e1⟩
theorem PayM.ce {K : PySem.W.Frag} {a b : CE} {H : Hp} {lab : Labs} {c : Str} {p : D} {dd : Option Addr} (h : PayM K a H lab c p dd) (q : CEq a b) : PayM K b H lab c p dd := by
  unfold PayM at h ⊢
  split at h
  · exact h
  · obtain ⟨d, v, j, h1, h2, hl, h3⟩ := h
    exact ⟨d, v, j, h1, h2, hl, h3.ce q.c1 q.e1⟩
theorem spD_call {ce : CE} (tk : L2N.Takes X W) (qe : CEq (clX X) ce) (c : CallOk Γ Γx n np io xs ks rs) {σ : St} {H : Hp} {lab : Labs} {σD : List D} {ds : List D} {vs : List V} {Q : VK} (g : gok Γ n = true) (s : SR X Γ σ H lab σD) (r : AR X σ σD H lab n ks vs ds)
    (po : Post X W Γx Γ σ rs n (relE X n (callK own ks)) H lab Q (match Fd ds with
      | .stuck => .stuck
      | .ret d outs => .ok d (putOuts rs outs σD)
      | .exc c p outs => .exc c p (putOuts rs outs σD))) : spD X.K ce np io xs own Fd vs H Q (WE W σ) := by
  refine ⟨ds, labIn n ks lab, by rw [r.len.1, c.l], by rw [r.len.2, c.l], fun i v d h1 h2 => (call_args c s r i v d h1 h2).ce qe.c1 qe.e1, call_labs c, ?_⟩
  cases e : Fd ds with
  | stuck => rw [e] at po; exact po.elim
  | ret d outs =>
    rw [e] at po
    intro v H' lab' j pp oo vr
    refine po v H' (labOut own n ks H lab lab') (call_slots c g s r pp (oo.ce qe.symm)) (call_pres c pp) ?_
    have vr := VR.ce vr qe.c2 qe.e2
    cases own with
    | true => exact call_own pp vr
    | false => exact call_bor c pp vr
  | exc cn py outs =>
    rw [e] at po
    intro H' lab' C dd hc pp oo pay
    exact po H' (labOut own n ks H lab lab') C dd (qe.c2 _ _ hc) ((call_slots c g s r pp (oo.ce qe.symm)).weak c.lx) (call_pres c pp) (call_pay pp (pay.ce qe.symm))
theorem ej_call (F : FnOk X.prog X.w X.K X.mg X.base (L2N.CX X.prog X.w) lv f fd ps (spD X.K (clM X.mg) np io xs own Fd)) (hc : X.calm = true) (hr : Room lv X.A) (hm : X.mg x = some (.ref f)) (hk : PySem.W.keepIn X.K (.ref f) = true) (hb : Binds X.K fd ps []) (tk : L2N.Takes X W)
    (ha : AJ X W Γx Γ n m (e :: es) gs ks) (c : CallOk Γ Γx n np io xs ks rs) (hg : Gl X x := by rfl) (hdb : (x == ("__debug__" : Str)) = false := by decide) (he : starEach (e :: es) X.env = (false, eval e X.env) :: starEach es X.env := by rfl) (hpl : (backTo pos (starEach es X.env)).any (·.1) = false := by rfl) :
    EJ X W Γx Γ n (m ++ rs) (.Call (.Name x p) (e :: es) [] pos) (eCall Fd rs gs) (callK own ks) := by
  refine pe_imp (pe_callS F hr hg hm hk hb (fun σ => L2N.passAt tk σ) ha hdb he hpl) fun σ H Q h => ?_
  obtain ⟨σD, lab, g, sr, po⟩ := h
  exact ⟨σD, lab, g, sr, po.seq' fun ds σD1 vs H1 lab1 sr1 pr1 rl1 po1 => spD_call tk (.calm hc) c g sr1 rl1 po1⟩
end
end Ow


namespace Ow
open PySem PySem.Spec PyProof.Rows L2
inductive SO where
  | stuck | nxt (σ : List D) | ret (d : D) (σ : List D) | exc (c : Str) (p : D) (σ : List D) | brk (σ : List D) | cnt (σ : List D)
/-- what is fixed through a body: the slots at a raise, at a return, at break and continue; is what is handed back one's own; the parameters changed in place -/
structure SC where
  Γx : Ctx
  Γr : Ctx
  Γb : Ctx
  own : Bool
  io : List Nat
structure PresW (H : Hp) (lab : Labs) (H' : Hp) (lab' : Labs) : Prop where
  keep : ∀ a, H a ≠ none → keepL [] 0 (lab a) = true → (∀ i, lab a ≠ .slt i) → H' a = H a ∧ lab' a = lab a
  tk : TK H H'
  there : ∀ a, H a ≠ none → H' a ≠ none
  old : ∀ a, H' a ≠ none → oldL (lab' a) = true → H a ≠ none ∧ lab a = lab' a
theorem keep_any {l : Lab} (h : keepL [] 0 l = true) (h2 : ∀ i, l ≠ .slt i) (m : List Nat) (n : Nat) : keepL m n l = true := by
  cases l with
  | slt i => exact absurd rfl (h2 i)
  | tmp j => simp [keepL] at h
  | _ => rfl
theorem Pres.w {m : List Nat} {n : Nat} {H H' : Hp} {lab lab' : Labs} (p : Pres m n H lab H' lab') : PresW H lab H' lab' := ⟨fun a ha h1 h2 => p.keep a ha (keep_any h1 h2 m n), p.tk, p.there, p.old⟩
theorem PresW.trans {H H1 H2 : Hp} {lab lab1 lab2 : Labs} (a : PresW H lab H1 lab1) (b : PresW H1 lab1 H2 lab2) : PresW H lab H2 lab2 where
  keep := fun x hx h1 h2 => by
    obtain ⟨e1, e2⟩ := a.keep x hx h1 h2
    obtain ⟨e3, e4⟩ := b.keep x (a.there x hx) (by rw [e2]; exact h1) (by rw [e2]; exact h2)
    exact ⟨e3.trans e1, e4.trans e2⟩
  tk := a.tk.trans b.tk
  there := fun x hx => b.there x (a.there x hx)
  old := fun x hx ho => by
    obtain ⟨e1, e2⟩ := b.old x hx ho
    obtain ⟨e3, e4⟩ := a.old x e1 (by rw [e2]; exact ho)
    exact ⟨e3, e4.trans e2⟩
/-- the slots, and those of the parameters changed in place are where they were -/
structure SRx (X : Cx) (io : List Nat) (fx : Nat → V) (Γ : Ctx) (σ : St) (H : Hp) (lab : Labs) (σD : List D) : Prop where
  s : SR X Γ σ H lab σD
  f : ∀ i ∈ io, σ[i]? = some (some (fx i))
def PostS (X : Cx) (W : WX) (Z : SC) (fx : Nat → V) (Γ' : Ctx) (m : List Nat) (n : Nat) (H : Hp) (lab : Labs) (E : Ends) : SO → Prop
  | .stuck => False
  | .nxt σD' => ∀ σ' H' lab', SRx X Z.io fx Γ' σ' H' lab' σD' → Pres m n H lab H' lab' → E.nx σ' H'
  | .ret d σD' => ∀ v σ' H' lab' j, SRx X Z.io fx Z.Γr σ' H' lab' σD' → PresW H lab H' lab' → VR X.K (clX X) H' lab' (retK Z.own) (.tmp j) v d → E.rt v H'
  | .exc c p σD' => ∀ σ' H' lab' C dd, X.mg c = some (.ref C) → SRx X Z.io fx Z.Γx σ' H' lab' σD' → Pres m n H lab H' lab' → PayOk X H' lab' n c p dd → W (.ref C) dd σ' H'
  | .brk σD' => ∀ σ' H' lab', SRx X Z.io fx Z.Γb σ' H' lab' σD' → Pres m n H lab H' lab' → E.bk σ' H'
  | .cnt σD' => ∀ σ' H' lab', SRx X Z.io fx Z.Γb σ' H' lab' σD' → Pres m n H lab H' lab' → E.ct σ' H'
def rdS (X : Cx) (W : WX) (Z : SC) (Γ Γ' : Ctx) (n : Nat) (m : List Nat) (G : List D → SO) : TS := fun E σ H => ∃ σD lab fx, gok Γ n = true ∧ SRx X Z.io fx Γ σ H lab σD ∧ PostS X W Z fx Γ' m n H lab E (G σD)
abbrev SJ (X : Cx) (W : WX) (Z : SC) (Γ Γ' : Ctx) (n : Nat) (m : List Nat) (st : Stmt) (G : List D → SO) : Prop := PS X st (rdS X W Z Γ Γ' n m G)
abbrev BJ (X : Cx) (W : WX) (Z : SC) (Γ Γ' : Ctx) (n : Nat) (m : List Nat) (st : List Stmt) (G : List D → SO) : Prop := PSs X st (rdS X W Z Γ Γ' n m G)
section
variable {X : Cx} {W : WX} {Z : SC} {fx : Nat → V} {Γ Γ' Γ1 Γ2 : Ctx} {n n1 : Nat} {m m1 m2 : List Nat} {H H1 : Hp} {lab lab1 : Labs} {E : Ends} {r : SO}
/-- from a later state -/
theorem PostS.later (h : PostS X W Z fx Γ' m n H lab E r) (p : Pres m1 n1 H lab H1 lab1) (s1 : SubK m n m1 n1) (s2 : SubK m n m2 n) : PostS X W Z fx Γ' m2 n H1 lab1 E r := by
  cases r with
  | stuck => exact h
  | nxt σ => exact fun σ' H' lab' s q => h σ' H' lab' s (p.trans q s1 s2)
  | ret d σ => exact fun v σ' H' lab' j s q r => h v σ' H' lab' j s (p.w.trans q) r
  | exc c py σ => exact fun σ' H' lab' C dd hc s q r => h σ' H' lab' C dd hc s (p.trans q s1 s2) r
  | brk σ => exact fun σ' H' lab' s q => h σ' H' lab' s (p.trans q s1 s2)
  | cnt σ => exact fun σ' H' lab' s q => h σ' H' lab' s (p.trans q s1 s2)
theorem PostS.mono (h : PostS X W Z fx Γ' m n H lab E r) (s : SubK m n m1 n1) (hn : n ≤ n1) : PostS X W Z fx Γ' m1 n1 H lab E r := by
  cases r with
  | stuck => exact h
  | nxt σ => exact fun σ' H' lab' s' q => h σ' H' lab' s' (q.mono s)
  | ret d σ => exact h
  | exc c py σ => exact fun σ' H' lab' C dd hc s' q r => h σ' H' lab' C dd hc s' (q.mono s) (r.mono hn)
  | brk σ => exact fun σ' H' lab' s' q => h σ' H' lab' s' (q.mono s)
  | cnt σ => exact fun σ' H' lab' s' q => h σ' H' lab' s' (q.mono s)
def sSeq (G1 G2 : List D → SO) : List D → SO := fun σ => match G1 σ with
  | .nxt σ1 => G2 σ1
  | r => r
def sSkip : List D → SO := fun σ => .nxt σ
theorem seq_imp {t1 t2 : TS} {G1 G2 : List D → SO} (h1 : ∀ E σ H, rdS X W Z Γ Γ1 n m1 G1 E σ H → t1 E σ H) (h2 : ∀ E σ H, rdS X W Z Γ1 Γ2 n m2 G2 E σ H → t2 E σ H) (g : gok Γ1 n = true) : ∀ E σ H, rdS X W Z Γ Γ2 n (m1 ++ m2) (sSeq G1 G2) E σ H → tSeq t1 t2 E σ H := by
  intro E σ H h
  obtain ⟨σD, lab, fx, g0, s, po⟩ := h
  refine h1 _ _ _ ⟨σD, lab, fx, g0, s, ?_⟩
  unfold sSeq at po
  cases e : G1 σD with
  | stuck => rw [e] at po; exact po
  | nxt σ1 =>
    rw [e] at po
    intro σ' H' lab' s' p
    exact h2 _ _ _ ⟨σ1, lab', fx, g, s', PostS.later po p (SubK.left _ _ _) (SubK.right _ _ _)⟩
  | ret d σ1 => rw [e] at po; exact po
  | exc c py σ1 => rw [e] at po; exact fun σ' H' lab' C dd hc s' q r => po σ' H' lab' C dd hc s' (q.mono (SubK.left _ _ _)) r
  | brk σ1 => rw [e] at po; exact fun σ' H' lab' s' q => po σ' H' lab' s' (q.mono (SubK.left _ _ _))
  | cnt σ1 => rw [e] at po; exact fun σ' H' lab' s' q => po σ' H' lab' s' (q.mono (SubK.left _ _ _))
theorem bj_cons {st : Stmt} {rest : List Stmt} {G1 G2 : List D → SO} (h1 : SJ X W Z Γ Γ1 n m1 st G1) (h2 : BJ X W Z Γ1 Γ2 n m2 rest G2) (g : gok Γ1 n = true := by decide) : BJ X W Z Γ Γ2 n (m1 ++ m2) (st :: rest) (sSeq G1 G2) :=
  pss_imp (pss_cons h1 h2) (seq_imp (fun _ _ _ q => q) (fun _ _ _ q => q) g)
theorem bj_one {st : Stmt} {G : List D → SO} (h : SJ X W Z Γ Γ1 n m st G) : BJ X W Z Γ Γ1 n m [st] G := pss_one h
theorem bj_nil : BJ X W Z Γ Γ n [] [] sSkip := pss_imp pss_nil fun E σ H h => by
  obtain ⟨σD, lab, fx, g0, s, po⟩ := h
  exact po σ H lab s (.refl _ _ _ _)
/-- less is known -/
theorem bj_weak {sts : List Stmt} {G : List D → SO} (h : BJ X W Z Γ Γ1 n m sts G) (l : leC Γ1 Γ2 = true := by decide) : BJ X W Z Γ Γ2 n m sts G := pss_imp h fun E σ H hh => by
  obtain ⟨σD, lab, fx, g0, s, po⟩ := hh
  refine ⟨σD, lab, fx, g0, s, ?_⟩
  cases e : G σD with
  | nxt σ1 => rw [e] at po; exact fun σ' H' lab' s' q => po σ' H' lab' ⟨s'.s.weak l, s'.f⟩ q
  | _ => rw [e] at po; exact po
theorem sj_weak {st : Stmt} {G : List D → SO} (h : SJ X W Z Γ Γ1 n m st G) (l : leC Γ1 Γ2 = true := by decide) : SJ X W Z Γ Γ2 n m st G := ps_imp h fun E σ H hh => by
  obtain ⟨σD, lab, fx, g0, s, po⟩ := hh
  refine ⟨σD, lab, fx, g0, s, ?_⟩
  cases e : G σD with
  | nxt σ1 => rw [e] at po; exact fun σ' H' lab' s' q => po σ' H' lab' ⟨s'.s.weak l, s'.f⟩ q
  | _ => rw [e] at po; exact po
def sOf (g : List D → ER D) (k : D → List D → SO) : List D → SO := fun σ => match g σ with
  | .stuck => .stuck
  | .ok d σ1 => k d σ1
  | .exc c p σ1 => .exc c p σ1
theorem sof_imp {te : TE} {g : List D → ER D} {k : Kd} {kk : D → List D → SO} {σ : St} {Q : VK} {σD : List D} (h : ∀ σ H Q, rdE X W Z.Γx Γ n m1 k g σ H Q → te σ H Q) (g0 : gok Γ n = true) (s : SRx X Z.io fx Γ σ H lab σD) (po : PostS X W Z fx Γ' (m1 ++ m2) n H lab E (sOf g kk σD))
    (cont : ∀ d σD1 v H1 lab1, SRx X Z.io fx Γ σ H1 lab1 σD1 → Pres m1 n H lab H1 lab1 → VR X.K (clX X) H1 lab1 k (.tmp n) v d → PostS X W Z fx Γ' m2 n H1 lab1 E (kk d σD1) → Q v H1) : te σ H Q := by
  refine h _ _ _ ⟨σD, lab, g0, s.s, ?_⟩
  unfold sOf at po
  cases e : g σD with
  | stuck => rw [e] at po; exact po
  | ok d σD1 =>
    rw [e] at po
    intro v H1 lab1 s1 p1 r1
    exact cont d σD1 v H1 lab1 ⟨s1, s.f⟩ p1 r1 (PostS.later po p1 (SubK.left _ _ _) (SubK.right _ _ _))
  | exc c py σD1 =>
    rw [e] at po
    intro H1 lab1 C dd hc s1 p1 pay
    exact po σ H1 lab1 C dd hc ⟨s1, s.f⟩ (p1.mono (SubK.left _ _ _)) pay
def sIf (t : List D → ER Bool) (G1 G2 : List D → SO) : List D → SO := fun σ => match t σ with
  | .stuck => .stuck
  | .ok b σ1 => if b = true then G1 σ1 else G2 σ1
  | .exc c p σ1 => .exc c p σ1
theorem sj_if {c : Expr} {a b : List Stmt} {pos : Pos} {t : List D → ER Bool} {G1 G2 : List D → SO} {m3 : List Nat} (hc : TJ X W Z.Γx Γ n m1 c t) (ha : BJ X W Z Γ Γ' n m2 a G1) (hb : BJ X W Z Γ Γ' n m3 b G2) : SJ X W Z Γ Γ' n (m1 ++ (m2 ++ m3)) (.If c a b pos) (sIf t G1 G2) := by
  refine ps_imp (ps_if hc ha hb) fun E σ H h => ?_
  obtain ⟨σD, lab, fx, g0, s, po⟩ := h
  refine ⟨σD, lab, g0, s.s, ?_⟩
  unfold sIf at po
  cases e : t σD with
  | stuck => rw [e] at po; exact po
  | ok d σD1 =>
    rw [e] at po
    intro v H1 lab1 s1 p1 r1
    have r1 : v = d := r1
    subst r1
    have po2 := PostS.later po p1 (SubK.left _ _ _) (SubK.right _ _ _)
    cases v with
    | true => exact ⟨σD1, lab1, fx, g0, ⟨s1, s.f⟩, po2.mono (SubK.left _ _ _) (Nat.le_refl _)⟩
    | false => exact ⟨σD1, lab1, fx, g0, ⟨s1, s.f⟩, po2.mono (SubK.right _ _ _) (Nat.le_refl _)⟩
  | exc cn py σD1 =>
    rw [e] at po
    intro H1 lab1 C dd hcn s1 p1 pay
    exact po σ H1 lab1 C dd hcn ⟨s1, s.f⟩ (p1.mono (SubK.left _ _ _)) pay
def sRet (g : List D → ER D) : List D → SO := sOf g fun d σ => .ret d σ
/-- the labels at a return: what is no one's any more -/
def labRet (io : List Nat) (lab : Labs) : Labs := fun a => match lab a with
  | .slt i => if io.contains i then .slt i else .fro
  | .tmp _ => .fro
  | l => l
theorem PresW.ret {io : List Nat} {H : Hp} {lab : Labs} : PresW H lab H (labRet io lab) := ⟨fun a _ h1 h2 => ⟨rfl, by
    unfold labRet
    split
    · rename_i i e; exact absurd e (h2 i)
    · rename_i j e; rw [e] at h1; simp [keepL] at h1
    · rfl⟩, TK.refl H, fun _ q => q, fun a q o => ⟨q, by
    unfold labRet at o ⊢
    split
    · rename_i i e
      rw [e] at o
      dsimp only at o
      split at o <;> cases o
    · rename_i j e
      rw [e] at o; cases o
    · rfl⟩⟩
/-- at a return only the parameters changed in place are asked -/
def retC (Γr : Ctx) (io : List Nat) : Bool := (List.range Γr.length).all fun i => match Γr[i]? with
  | some (some .own) => io.contains i
  | some (some _) => false
  | _ => true
theorem retC.at_ {Γr : Ctx} {io : List Nat} (h : retC Γr io = true) {i : Nat} {k : Kd} (e : Γr[i]? = some (some k)) : k = .own ∧ io.contains i = true := by
  have := List.all_eq_true.mp h i (List.mem_range.mpr (List.getElem?_eq_some_iff.mp e).1)
  rw [e] at this
  cases k with
  | own => exact ⟨rfl, this⟩
  | _ => cases this
theorem SR.ret {σ : St} {σD : List D} {io : List Nat} (s : SR X Γ σ H lab σD) (h : retC Γ io = true) : SR X Γ σ H (labRet io lab) σD := ⟨s.l1, s.l2, fun i k e => by
  obtain ⟨rfl, hi⟩ := retC.at_ h e
  obtain ⟨v, d, a, b, fp, r, nd, l⟩ := s.at_ i _ e
  refine ⟨v, d, a, b, fp, r, nd, fun x hx => ?_⟩
  unfold labRet
  rw [l x hx]
  dsimp only
  rw [if_pos hi]⟩
/-- what may be handed back as another's: nothing of the parameters changed in place -/
def retR (io : List Nat) (R : List Lab) : Bool := R.all fun l => match l with
  | .slt i => !io.contains i
  | .out => false
  | _ => true
theorem sj_ret {e : Expr} {pos : Pos} {g : List D → ER D} (h : EJ X W Z.Γx Γ n m e g .own) (ho : Z.own = true := by rfl) (l : leC Γ Z.Γr = true := by decide) : SJ X W Z Γ Γ' n m (.Return (some e) pos) (sRet g) := by
  refine ps_imp (ps_ret h) fun E σ H hh => ?_
  obtain ⟨σD, lab, fx, g0, s, po⟩ := hh
  refine sof_imp (m2 := []) (fun _ _ _ q => q) g0 s (by rw [List.append_nil]; exact po) fun d σD1 v H1 lab1 s1 p1 r1 po1 => ?_
  exact po1 v σ H1 lab1 n ⟨s1.s.weak l, s1.f⟩ (Pres.refl [] 0 _ _).w (by rw [ho]; exact r1)
theorem sj_retB {e : Expr} {pos : Pos} {g : List D → ER D} {R : List Lab} (h : EJ X W Z.Γx Γ n m e g (.bor R)) (ho : Z.own = false := by rfl) (l : leC Γ Z.Γr = true := by decide) (hr : retC Z.Γr Z.io = true := by decide) (hR : retR Z.io R = true := by decide) : SJ X W Z Γ Γ' n m (.Return (some e) pos) (sRet g) := by
  refine ps_imp (ps_ret h) fun E σ H hh => ?_
  obtain ⟨σD, lab, fx, g0, s, po⟩ := hh
  refine sof_imp (m2 := []) (fun _ _ _ q => q) g0 s (by rw [List.append_nil]; exact po) fun d σD1 v H1 lab1 s1 p1 r1 po1 => ?_
  obtain ⟨fp, r, lb⟩ := r1
  refine po1 v σ H1 (labRet Z.io lab1) n ⟨(s1.s.weak l).ret hr, s1.f⟩ .ret ?_
  rw [ho]
  refine ⟨fp, r, fun a ha => ?_⟩
  unfold labRet
  rcases lb a ha with q | q
  · rw [q]; exact .inl rfl
  · have z := List.all_eq_true.mp hR _ q
    cases q2 : lab1 a with
    | slt i =>
      rw [q2] at z
      have z3 : Z.io.contains i = false := by simpa using z
      dsimp only
      rw [if_neg (by rw [z3]; exact Bool.false_ne_true)]
      exact .inl rfl
    | tmp j => exact .inl rfl
    | prm => exact .inr List.mem_cons_self
    | fro => exact .inl rfl
    | out => rw [q2] at z; cases z
/-- return x, x a slot of one's own -/
def sRetV (i : Nat) : List D → SO := fun σ => .ret (σ.getD i .non) σ
def sRetN : List D → SO := fun σ => .ret .non σ
def dropL (i : Nat) (R : List Lab) : List Lab := R.filter fun l => decide (l ≠ .slt i)
def dropK (i : Nat) : Kd → Kd
  | .own => .own
  | .bor R => .bor (dropL i R)
  | .spn R => .spn (dropL i R)
  | .exc R => .exc (dropL i R)
/-- the slots behind «slot i holds a k» -/
def putC (Γ : Ctx) (i : Nat) (k : Kd) : Ctx := (Γ.map fun o => o.map (dropK i)).set i (some (dropK i k))
def labPut (i n : Nat) (lab : Labs) : Labs := fun a => if lab a = .slt i then .fro else if lab a = .tmp n then .slt i else lab a
theorem bw_put {i n : Nat} {R : List Lab} {l : Lab} (b : bw R l) (h : R.all (keepL [] n) = true) : bw (dropL i R) (if l = .slt i then .fro else if l = .tmp n then .slt i else l) := by
  rcases b with e | b
  · subst e; exact .inl rfl
  · by_cases e : l = .slt i
    · rw [if_pos e]; exact .inl rfl
    · rw [if_neg e]
      have z := List.all_eq_true.mp h l b
      rw [if_neg (by rintro rfl; simp [keepL] at z)]
      exact .inr (List.mem_filter.mpr ⟨b, decide_eq_true e⟩)
theorem VR.put_other {K : PySem.W.Frag} {cl : CE} {i j n : Nat} {k : Kd} {v : V} {d : D} (h : VR K cl H lab k (.slt j) v d) (ne : j ≠ i) (ok : okK [] n k = true) : VR K cl H (labPut i n lab) (dropK i k) (.slt j) v d := by
  have lj : ∀ {a : Addr}, lab a = .slt j → labPut i n lab a = .slt j := fun {a} e => by
    unfold labPut
    rw [e, if_neg (by intro z; cases z; exact ne rfl), if_neg (by intro z; cases z)]
  cases k with
  | own =>
    obtain ⟨fp, r, nd, l⟩ := h
    exact ⟨fp, r, nd, fun a ha => lj (l a ha)⟩
  | bor R =>
    obtain ⟨fp, r, l⟩ := h
    exact ⟨fp, r, fun a ha => bw_put (l a ha) ok⟩
  | spn R =>
    obtain ⟨p, vs, ds, fp, e1, e2, hp, r, lp, l⟩ := h
    exact ⟨p, vs, ds, fp, e1, e2, hp, r, lj lp, fun b hb => ⟨(l b hb).1, bw_put (l b hb).2 ok⟩⟩
  | exc R =>
    obtain ⟨fp, r, l, u⟩ := h
    refine ⟨fp, r, fun a ha => bw_put (l a ha) ok, fun z => ?_⟩
    obtain ⟨u1, u2, u3⟩ := u (List.mem_filter.mp z).1
    exact ⟨List.mem_filter.mpr ⟨u1, decide_eq_true (fun e => ne (Lab.slt.inj e))⟩, u2, fun a ha => lj (u3 a ha)⟩
theorem VR.put_self {K : PySem.W.Frag} {cl : CE} {i n : Nat} {k : Kd} {v : V} {d : D} (h : VR K cl H lab k (.tmp n) v d) (ok : okK [] n k = true) : VR K cl H (labPut i n lab) (dropK i k) (.slt i) v d := by
  have lj : ∀ {a : Addr}, lab a = .tmp n → labPut i n lab a = .slt i := fun {a} e => by
    unfold labPut
    rw [e, if_neg (by intro z; cases z), if_pos rfl]
  cases k with
  | own =>
    obtain ⟨fp, r, nd, l⟩ := h
    exact ⟨fp, r, nd, fun a ha => lj (l a ha)⟩
  | bor R =>
    obtain ⟨fp, r, l⟩ := h
    exact ⟨fp, r, fun a ha => bw_put (l a ha) ok⟩
  | spn R =>
    obtain ⟨p, vs, ds, fp, e1, e2, hp, r, lp, l⟩ := h
    exact ⟨p, vs, ds, fp, e1, e2, hp, r, lj lp, fun b hb => ⟨(l b hb).1, bw_put (l b hb).2 ok⟩⟩
  | exc R =>
    obtain ⟨fp, r, l, u⟩ := h
    refine ⟨fp, r, fun a ha => bw_put (l a ha) ok, fun z => ?_⟩
    have := List.all_eq_true.mp ok _ (u (List.mem_filter.mp z).1).1
    simp [keepL] at this
theorem Pres.put {i n : Nat} : Pres [i] n H lab H (labPut i n lab) := .relab (fun a h => by
    unfold labPut
    rw [if_neg (by intro e; rw [e] at h; simp [keepL] at h), if_neg (by intro e; rw [e] at h; simp [keepL] at h)]) fun a h => by
    unfold labPut at h ⊢
    split at h
    · cases h
    · rename_i h1
      split at h
      · cases h
      · rename_i h2
        rw [if_neg h1, if_neg h2]
theorem SR.put {σ : St} {σD : List D} {i : Nat} {k : Kd} {v : V} {d : D} (s : SR X Γ σ H lab σD) (g : gok Γ n = true) (hi : i < X.N.length) (h : VR X.K (clX X) H lab k (.tmp n) v d) (ok : okK [] n k = true) : SR X (putC Γ i k) (σ.set i (some v)) H (labPut i n lab) (σD.set i d) := by
  refine ⟨by rw [List.length_set]; exact s.l1, by rw [List.length_set]; exact s.l2, fun j k' e => ?_⟩
  by_cases ne : j = i
  · subst ne
    unfold putC at e
    have hl : j < (Γ.map fun o => o.map (dropK j)).length := by
      have := (List.getElem?_eq_some_iff.mp e).1
      rwa [List.length_set] at this
    rw [List.getElem?_set_self hl] at e
    cases e
    exact ⟨v, d, List.getElem?_set_self (by rw [s.l1]; exact hi), List.getElem?_set_self (by rw [s.l2]; exact hi), h.put_self ok⟩
  · unfold putC at e
    rw [List.getElem?_set_ne (Ne.symm ne), List.getElem?_map] at e
    cases e2 : Γ[j]? with
    | none => rw [e2] at e; cases e
    | some o =>
      rw [e2] at e
      cases o with
      | none => cases e
      | some k0 =>
        cases e
        obtain ⟨w, d', a, b, c⟩ := s.at_ j k0 e2
        exact ⟨w, d', by rw [List.getElem?_set_ne (Ne.symm ne)]; exact a, by rw [List.getElem?_set_ne (Ne.symm ne)]; exact b, c.put_other ne (gok.at_ g e2)⟩
def sSet (i : Nat) (g : List D → ER D) : List D → SO := sOf g fun d σ => .nxt (σ.set i d)
theorem sj_set {i : Nat} {x : Str} {e : Expr} {pos pos' : Pos} {g : List D → ER D} {k : Kd} (hN : X.N.Nodup) (hi : X.N[i]? = some x) (h : EJ X W Z.Γx Γ n m e g k) (hx : Loc X.env.scope x := by first | exact Or.inl rfl | exact Or.inr rfl) (ok : okK [] n k = true := by decide) (hio : Z.io.contains i = false := by decide)
    (hs : swapsWith e (some (.Name x pos')) pos.line X.env = pure false := by rfl) (hf : X.fn x = true ∨ X.env.scope.names.lookup x = some .local := by first | exact .inl rfl | exact .inr rfl) : SJ X W Z Γ (putC Γ i k) n (m ++ [i]) (.Assign [.Name x pos'] e pos) (sSet i g) := by
  refine ps_imp (ps_set hN hi hx h hs hf) fun E σ H hh => ?_
  obtain ⟨σD, lab, fx, g0, s, po⟩ := hh
  refine sof_imp (fun _ _ _ q => q) g0 s po fun d σD1 v H1 lab1 s1 p1 r1 po1 => ?_
  have hlt : i < X.N.length := (List.getElem?_eq_some_iff.mp hi).1
  refine po1 (σ.set i (some v)) H1 (labPut i n lab1) ⟨s1.s.put g0 hlt r1 ok, fun j hj => ?_⟩ .put
  rw [List.getElem?_set_ne]
  · exact s1.f j hj
  · rintro rfl
    have : Z.io.contains i = true := by simpa using hj
    rw [this] at hio; cases hio
end
end Ow


namespace Ow
open PySem PySem.Spec PyProof.Rows L2
def fnD (nl : Nat) (io : List Nat) (G : List D → SO) : List D → FR := fun ds => match G (ds ++ List.replicate (nl - ds.length) .non) with
  | .nxt σ => .ret .non (io.map fun i => σ.getD i .non)
  | .ret d σ => .ret d (io.map fun i => σ.getD i .non)
  | .exc c p σ => .exc c p (io.map fun i => σ.getD i .non)
  | _ => .stuck
def ctx0 (np nl : Nat) (io xs : List Nat) : Ctx := (List.range nl).map fun i => if i < np then some (parK io xs i) else none
def ctxIo (nl : Nat) (io : List Nat) : Ctx := (List.range nl).map fun i => if io.contains i then some .own else none
abbrev scOf (nl : Nat) (io : List Nat) (own : Bool) : SC := ⟨ctxIo nl io, ctxIo nl io, [], own, io⟩
abbrev wOf (E : XK) : WX := fun cls d _ H => E cls d H
theorem ctx0_at {np nl : Nat} {io xs : List Nat} {i : Nat} {k : Kd} (h : (ctx0 np nl io xs)[i]? = some (some k)) : i < np ∧ k = parK io xs i := by
  unfold ctx0 at h
  rw [List.getElem?_map] at h
  cases e : (List.range nl)[i]? with
  | none => rw [e] at h; cases h
  | some j =>
    have : j = i := by
      obtain ⟨h1, h2⟩ := List.getElem?_eq_some_iff.mp e
      simpa using h2.symm
    subst this
    rw [e] at h
    simp only [Option.map_some, Option.some.injEq] at h
    split at h
    · rename_i q
      exact ⟨q, (Option.some.inj h).symm⟩
    · cases h
theorem ctxIo_at {nl : Nat} {io : List Nat} {i : Nat} (h : i < nl) (hi : i ∈ io) : (ctxIo nl io)[i]? = some (some .own) := by
  unfold ctxIo
  rw [List.getElem?_map, List.getElem?_range h]
  simp [hi]
theorem presIo {io : List Nat} {H H' : Hp} {lab lab' : Labs} (p : PresW H lab H' lab') (hl : ∀ a, H a ≠ none → lab a = .out ∨ lab a = .prm ∨ ∃ i ∈ io, lab a = .slt i) : Pres io 0 H lab H' lab' :=
  ⟨fun a ha hk => by
    rcases hl a ha with e | e | ⟨i, hi, e⟩
    · exact p.keep a ha (by rw [e]; rfl) (by rw [e]; intro i z; cases z)
    · exact p.keep a ha (by rw [e]; rfl) (by rw [e]; intro i z; cases z)
    · rw [e] at hk; simp [keepL, hi] at hk, p.tk, p.there, p.old⟩
theorem outs_of {X : Cx} {io : List Nat} {fx : Nat → V} {nl : Nat} {σ : St} {H : Hp} {lab : Labs} {σD : List D} {vs : List V} (s : SRx X io fx (ctxIo nl io) σ H lab σD) (hf : ∀ i ∈ io, vs[i]? = some (fx i)) (hn : ∀ i ∈ io, i < nl) : outsR X.K (clX X) io vs H lab (io.map fun i => σD.getD i .non) := by
  intro q i hq
  have hi : i ∈ io := List.mem_of_getElem? hq
  obtain ⟨v, hv, r⟩ := s.s.get (ctxIo_at (hn i hi) hi)
  have e := s.f i hi
  rw [hv] at e
  cases e
  exact ⟨fx i, _, hf i hi, by rw [List.getElem?_map, hq]; rfl, r⟩
theorem pay_of {X : Cx} {H : Hp} {lab : Labs} {n : Nat} {c : Str} {p : D} {dd : Option Addr} (h : PayOk X H lab n c p dd) : PayM X.K (clX X) H lab c p dd := by
  unfold PayOk at h
  unfold PayM
  split at h
  · rename_i e; first | (rw [e]; exact h) | exact h
  · rename_i f e
    try rw [e]
    obtain ⟨d, v, j, h1, h2, hl, h3, h4⟩ := h
    exact ⟨d, v, j, h1, h2, hl, h4⟩
theorem okD_read {X : Cx} {ce : CE} {np nl : Nat} {io xs m : List Nat} {own : Bool} {G : List D → SO} {Γ' : Ctx} (q : CEq (clX X) ce) (hnl : X.N.length = nl) (hio : io.all (fun i => decide (i < np)) = true) (hpn : np ≤ nl) (hl : leC Γ' (ctxIo nl io) = true)
    {vs : List V} {H : Hp} {Q : VK} {E : XK} (h : spD X.K ce np io xs own (fnD nl io G) vs H Q E) : rdS X (wOf E) (scOf nl io own) (ctx0 np nl io xs) Γ' 0 m G { nx := fun _ H' => Q .non H', rt := Q } (L2.start X.N vs) H := by
  obtain ⟨ds, lab, h1, h2, h3, h4, h5⟩ := h
  have hlt : ∀ i ∈ io, i < np := fun i hi => of_decide_eq_true (List.all_eq_true.mp hio i hi)
  let fx : Nat → V := fun i => vs.getD i .non
  have hfx : ∀ i ∈ io, vs[i]? = some (fx i) := fun i hi => by
    show vs[i]? = some (vs.getD i .non)
    rw [List.getD_eq_getElem?_getD, List.getElem?_eq_getElem (by rw [h1]; exact hlt i hi)]
    rfl
  have hst : ∀ (i : Nat) v, vs[i]? = some v → (L2.start X.N vs)[i]? = some (some v) := fun i v e => by
    unfold L2.start
    have := (List.getElem?_eq_some_iff.mp e).1
    rw [List.getElem?_append_left (by simpa using this), List.getElem?_map, e]
    rfl
  have lN : (L2.start X.N vs).length = X.N.length := by
    unfold L2.start
    rw [List.length_append, List.length_map, List.length_replicate]
    omega
  refine ⟨ds ++ List.replicate (nl - ds.length) .non, lab, fx, ?_, ⟨⟨lN, ?_, fun i k e => ?_⟩, fun i hi => hst i _ (hfx i hi)⟩, ?_⟩
  · refine List.all_eq_true.mpr fun o ho => ?_
    obtain ⟨i, hi⟩ := List.mem_iff_getElem?.mp ho
    cases o with
    | none => rfl
    | some k =>
      obtain ⟨_, e⟩ := ctx0_at hi
      show okK [] 0 k = true
      rw [e]
      unfold parK
      split
      · rfl
      · split <;> rfl
  · rw [List.length_append, List.length_replicate]
    omega
  · obtain ⟨hi, rfl⟩ := ctx0_at e
    have e1 : vs[i]? = some (vs[i]'(by omega)) := List.getElem?_eq_getElem _
    have e2 : ds[i]? = some (ds[i]'(by omega)) := List.getElem?_eq_getElem _
    exact ⟨_, _, hst i _ e1, by rw [List.getElem?_append_left (by omega)]; exact e2, (h3 i _ _ e1 e2).ce q.c2 q.e2⟩
  · unfold fnD at h5
    have hn : ∀ i ∈ io, i < nl := fun i hi => Nat.lt_of_lt_of_le (hlt i hi) hpn
    cases e : G (ds ++ List.replicate (nl - ds.length) .non) with
    | stuck => rw [e] at h5; exact h5
    | brk σ => rw [e] at h5; exact h5.elim
    | cnt σ => rw [e] at h5; exact h5.elim
    | nxt σ =>
      rw [e] at h5
      intro σ' H' lab' s' p
      refine h5 .non H' lab' 0 (presIo p.w h4) ((outs_of ⟨s'.s.weak hl, s'.f⟩ hfx hn).ce q) ?_
      cases own with
      | true => exact SV.non.vr
      | false => exact ⟨[], .non, by simp⟩
    | ret d σ =>
      rw [e] at h5
      intro v σ' H' lab' j s' p r
      exact h5 v H' lab' j (presIo p h4) ((outs_of s' hfx hn).ce q) (r.ce q.c1 q.e1)
    | exc c py σ =>
      rw [e] at h5
      intro σ' H' lab' C dd hc s' p pay
      exact h5 H' lab' C dd (q.c1 _ _ hc) (presIo p.w h4) ((outs_of s' hfx hn).ce q) ((pay_of pay).ce q)
section
variable {P : Program} {w : World} {K : PySem.W.Frag} {mg : Str → Option Value} {base : Heap}
end
def whileN (t : List D → ER Bool) (G : List D → SO) : Nat → List D → SO
  | 0, _ => .stuck
  | k + 1, σ => match t σ with
    | .stuck => .stuck
    | .exc c p σ1 => .exc c p σ1
    | .ok b σ1 => if b = true then (match G σ1 with
      | .nxt σ2 => whileN t G k σ2
      | .cnt σ2 => whileN t G k σ2
      | .brk σ2 => .nxt σ2
      | r => r) else .nxt σ1
theorem whileN_mono (t : List D → ER Bool) (G : List D → SO) : ∀ (k : Nat) (σ : List D), whileN t G k σ ≠ .stuck → ∀ j, k ≤ j → whileN t G j σ = whileN t G k σ
  | 0, σ, h, _, _ => absurd rfl h
  | k + 1, σ, h, 0, hj => absurd hj (by omega)
  | k + 1, σ, h, j + 1, hj => by
    rw [whileN] at h ⊢
    rw [whileN]
    cases e : t σ with
    | stuck => rfl
    | exc c p σ1 => rfl
    | ok b σ1 =>
      rw [e] at h
      dsimp only at h ⊢
      cases b with
      | false => rfl
      | true =>
        simp only [if_true] at h ⊢
        cases e2 : G σ1 with
        | nxt σ2 => rw [e2] at h; exact whileN_mono t G k σ2 h j (by omega)
        | cnt σ2 => rw [e2] at h; exact whileN_mono t G k σ2 h j (by omega)
        | _ => rfl
open Classical in
noncomputable def sWhile (t : List D → ER Bool) (G : List D → SO) : List D → SO := fun σ => if h : ∃ k, whileN t G k σ ≠ .stuck then whileN t G h.choose σ else .stuck
theorem sWhile_eq {t : List D → ER Bool} {G : List D → SO} {k : Nat} {σ : List D} (h : whileN t G k σ ≠ .stuck) : sWhile t G σ = whileN t G k σ := by
  unfold sWhile
  rw [dif_pos ⟨k, h⟩]
  have hs := (⟨k, h⟩ : ∃ k, whileN t G k σ ≠ .stuck).choose_spec
  rcases Nat.le_total k (⟨k, h⟩ : ∃ k, whileN t G k σ ≠ .stuck).choose with q | q
  · exact whileN_mono t G k σ h _ q
  · exact (whileN_mono t G _ σ hs _ q).symm
section
variable {X : Cx} {W : WX} {Z : SC} {fx : Nat → V} {Γ Γ' Γ1 Γ2 : Ctx} {n n1 : Nat} {m m1 m2 : List Nat} {H H1 : Hp} {lab lab1 : Labs} {E : Ends} {r : SO} {pos : Pos}
theorem sj_while {c : Expr} {body : List Stmt} {t : List D → ER Bool} {G : List D → SO} (hp : PassesOwn (model X.prog X.w) X.A X.env X.xe) (hc : TJ X W Z.Γx Γ n m1 c t) (hb : BJ X W { Z with Γb := Γ } Γ Γ n m2 body G) : SJ X W Z Γ Γ n (m1 ++ m2) (.While c body [] pos) (sWhile t G) := by
  refine ps_imp (ps_while hp hc hb) fun E σ H h => ?_
  obtain ⟨σD, lab, fx, g0, s, po⟩ := h
  have hk : ∃ k, PostS X W Z fx Γ (m1 ++ m2) n H lab E (whileN t G k σD) := by
    unfold sWhile at po
    split at po
    · exact ⟨_, po⟩
    · exact po.elim
  obtain ⟨k, po⟩ := hk
  refine ⟨fun k σ H => ∃ σD lab, SRx X Z.io fx Γ σ H lab σD ∧ PostS X W Z fx Γ (m1 ++ m2) n H lab E (whileN t G k σD), ⟨k, σD, lab, s, po⟩, ?_⟩
  rintro k σ H ⟨σD, lab, s, po⟩
  cases k with
  | zero => exact po.elim
  | succ k =>
    rw [whileN] at po
    refine ⟨σD, lab, g0, s.s, ?_⟩
    cases e : t σD with
    | stuck => rw [e] at po; exact po
    | exc cn py σ1 =>
      rw [e] at po
      intro H1 lab1 C dd hcn s1 p1 pay
      exact po σ H1 lab1 C dd hcn ⟨s1, s.f⟩ (p1.mono (SubK.left _ _ _)) pay
    | ok b σ1 =>
      rw [e] at po
      intro v H1 lab1 s1 p1 r1
      have r1 : v = b := r1
      subst r1
      have po1 := PostS.later po p1 (SubK.left _ _ _) (SubK.refl _ _)
      have s1' : SRx X Z.io fx Γ σ H1 lab1 σ1 := ⟨s1, s.f⟩
      cases v with
      | false => exact po1 σ H1 lab1 s1' (.refl _ _ _ _)
      | true =>
        simp only [if_true] at po1 ⊢
        refine ⟨fun σ H => ∃ σD lab, SRx X Z.io fx Γ σ H lab σD ∧ PostS X W Z fx Γ (m1 ++ m2) n H lab E (whileN t G k σD), fun σ' H' q => ⟨k, Nat.lt_succ_self k, q⟩, σ1, lab1, fx, g0, s1', ?_⟩
        cases e2 : G σ1 with
        | stuck => rw [e2] at po1; exact po1
        | nxt σ2 => rw [e2] at po1; exact fun σ' H' lab' s' p' => ⟨σ2, lab', s', PostS.later po1 p' (SubK.right _ _ _) (SubK.refl _ _)⟩
        | cnt σ2 => rw [e2] at po1; exact fun σ' H' lab' s' p' => ⟨σ2, lab', s', PostS.later po1 p' (SubK.right _ _ _) (SubK.refl _ _)⟩
        | brk σ2 => rw [e2] at po1; exact fun σ' H' lab' s' p' => po1 σ' H' lab' s' (p'.mono (SubK.right _ _ _))
        | ret d σ2 => rw [e2] at po1; exact po1
        | exc cn py σ2 => rw [e2] at po1; exact fun σ' H' lab' C dd hcn s' p' pay => po1 σ' H' lab' C dd hcn s' (p'.mono (SubK.right _ _ _)) pay
def sBrk : List D → SO := fun σ => .brk σ
def sCnt : List D → SO := fun σ => .cnt σ
def sPar (i j : Nat) (gs : List D → ER (List D)) : List D → SO := fun σ => match gs σ with
  | .stuck => .stuck
  | .exc c p σ1 => .exc c p σ1
  | .ok [x, y] σ1 => .nxt ((σ1.set i x).set j y)
  | .ok _ _ => .stuck
theorem sj_par {i j : Nat} {x y : Str} {a b : Expr} {px py pt : Pos} {kt k2 pt2} {k1 k3 : Kd} {gs : List D → ER (List D)} (hc : X.calm = true) (hN : X.N.Nodup) (hi : X.N[i]? = some x) (hj : X.N[j]? = some y) (ha : AJ X W Z.Γx Γ n m [a, b] gs [.val k1, .val k3])
    (hw : swappedStores [.Tuple [.Name x px, .Name y py] kt pt] (.Tuple [a, b] k2 pt2) X.env = pure (some [x, y]) := by rfl) (hx : X.env.scope.names.lookup x = some .local := by rfl) (hy : X.env.scope.names.lookup y = some .local := by rfl) (hij : i ≠ j := by decide)
    (o1 : okK [] n k1 = true := by decide) (o2 : okK [] (n + 1) (dropK i k3) = true := by decide) (o3 : okK [] n k3 = true := by decide) (hio : (Z.io.contains i || Z.io.contains j) = false := by decide)
    (hs : swapsWithSole [.Tuple [.Name x px, .Name y py] kt pt] (.Tuple [a, b] k2 pt2) pos.line X.env = pure false := by rfl) :
    SJ X W Z Γ (putC (putC Γ i k1) j (dropK i k3)) n (m ++ [i, j]) (.Assign [.Tuple [.Name x px, .Name y py] kt pt] (.Tuple [a, b] k2 pt2) pos) (sPar i j gs) := by
  refine ps_imp (ps_par hc hN hi hj hij hx hy ha hw hs) fun E σ H h => ?_
  obtain ⟨σD, lab, fx, g0, s, po⟩ := h
  refine ⟨σD, lab, g0, s.s, ?_⟩
  unfold sPar at po
  cases e : gs σD with
  | stuck => rw [e] at po; exact po
  | exc cn py' σ1 =>
    rw [e] at po
    intro H1 lab1 C dd hcn s1 p1 pay
    exact po σ H1 lab1 C dd hcn ⟨s1, s.f⟩ (p1.mono (SubK.left _ _ _)) pay
  | ok ds σ1 =>
    rw [e] at po
    intro vs H1 lab1 s1 p1 r1
    obtain ⟨v, vs', d, ds', e1, e2, r, v2, vs2, d2, ds2, e3, e4, r2, e5, e6⟩ := r1
    subst e1 e2 e3 e4 e5 e6
    refine ⟨v, v2, rfl, ?_⟩
    have li : i < X.N.length := (List.getElem?_eq_some_iff.mp hi).1
    have lj : j < X.N.length := (List.getElem?_eq_some_iff.mp hj).1
    have A := s1.put g0 li r o1
    have g1 : gok (putC Γ i k1) (n + 1) = true := by
      refine List.all_eq_true.mpr fun o ho => ?_
      obtain ⟨q, hq⟩ := List.mem_iff_getElem?.mp ho
      have sub : ∀ R : List Lab, R.all (keepL [] n) = true → (dropL i R).all (keepL [] (n + 1)) = true := fun R hR => List.all_eq_true.mpr fun l hl => keepL.up (List.all_eq_true.mp hR l (List.mem_filter.mp hl).1)
      have subK : ∀ k : Kd, okK [] n k = true → okK [] (n + 1) (dropK i k) = true := fun k hk => by
        cases k with
        | own => rfl
        | bor R => exact sub R hk
        | spn R => exact sub R hk
        | exc R => exact sub R hk
      unfold putC at hq
      by_cases z : q = i
      · subst z
        have hl : q < (Γ.map fun o => o.map (dropK q)).length := by
          have := (List.getElem?_eq_some_iff.mp hq).1
          rwa [List.length_set] at this
        rw [List.getElem?_set_self hl] at hq
        cases hq
        exact subK _ o1
      · rw [List.getElem?_set_ne (Ne.symm z), List.getElem?_map] at hq
        cases e2 : Γ[q]? with
        | none => rw [e2] at hq; cases hq
        | some o' =>
          rw [e2] at hq
          cases o' with
          | none => cases hq; rfl
          | some k0 => cases hq; exact subK _ (gok.at_ g0 e2)
    -- the second value behind the first store
    have r2' : VR X.K (clX X) H1 (labPut i n lab1) (dropK i k3) (.tmp (n + 1)) v2 d2 := by
      have lt : ∀ {a : Addr}, lab1 a = .tmp (n + 1) → labPut i n lab1 a = .tmp (n + 1) := fun {a} e => by
        unfold labPut
        rw [e, if_neg (by intro z; cases z), if_neg (by intro z; injection z; omega)]
      cases k3 with
      | own =>
        obtain ⟨fp, r, nd, l⟩ := r2
        exact ⟨fp, r, nd, fun a ha => lt (l a ha)⟩
      | bor R =>
        obtain ⟨fp, r, l⟩ := r2
        exact ⟨fp, r, fun a ha => bw_put (l a ha) o3⟩
      | spn R =>
        obtain ⟨p, vs, ds, fp, e1, e2, hp, r, lp, l⟩ := r2
        exact ⟨p, vs, ds, fp, e1, e2, hp, r, lt lp, fun b hb => ⟨(l b hb).1, bw_put (l b hb).2 o3⟩⟩
      | exc R =>
        obtain ⟨fp, r, l, u⟩ := r2
        refine ⟨fp, r, fun a ha => bw_put (l a ha) o3, fun z => ?_⟩
        have := List.all_eq_true.mp o3 _ (u (List.mem_filter.mp z).1).1
        simp [keepL] at this <;> omega
    have B := A.put g1 lj r2' o2
    refine po _ H1 _ ⟨B, fun q hq => ?_⟩ ?_
    · have z1 : q ≠ i := by
        rintro rfl
        have : Z.io.contains q = true := by simpa using hq
        rw [this] at hio; cases hio
      have z2 : q ≠ j := by
        rintro rfl
        have : Z.io.contains q = true := by simpa using hq
        rw [this, Bool.or_true] at hio; cases hio
      rw [List.getElem?_set_ne (Ne.symm z2), List.getElem?_set_ne (Ne.symm z1)]
      exact s.f q hq
    · have P1 : Pres (m ++ [i, j]) n H lab H1 lab1 := p1.mono (SubK.left _ _ _)
      refine P1.trans (m2 := m ++ [i, j]) (n2 := n) ?_ (SubK.refl _ _) (SubK.refl _ _)
      have Q1 : Pres (m ++ [i, j]) n H1 lab1 H1 (labPut i n lab1) := Pres.put.mono (.of (fun q hq => by simp at hq; simp [hq]) (Nat.le_refl _))
      have Q2 : Pres (m ++ [i, j]) n H1 (labPut i n lab1) H1 (labPut j (n + 1) (labPut i n lab1)) := Pres.put.mono (.of (fun q hq => by simp at hq; simp [hq]) (Nat.le_succ _))
      exact Q1.trans Q2 (SubK.refl _ _) (SubK.refl _ _)
end
end Ow


namespace Ow
open PySem PySem.Spec PyProof.Rows L2
/-- no slot but r leans on r -/
def noBor (Γ : Ctx) (r : Nat) : Bool := (List.range Γ.length).all fun i => match Γ[i]? with
  | some (some .own) => true
  | some (some (.bor R)) => decide (i ≠ r) && R.all fun l => decide (l ≠ .slt r)
  | some (some (.spn R)) => decide (i ≠ r) && R.all fun l => decide (l ≠ .slt r)
  | some (some (.exc R)) => decide (i ≠ r) && R.all fun l => decide (l ≠ .slt r)
  | _ => true
theorem noBor.at_ {Γ : Ctx} {r n : Nat} (h : noBor Γ r = true) (g : gok Γ n = true) {i : Nat} {k : Kd} (e : Γ[i]? = some (some k)) (ne : i ≠ r) : okK [r] n k = true ∧ keepL [r] n (.slt i) = true := by
  have := List.all_eq_true.mp h i (List.mem_range.mpr (List.getElem?_eq_some_iff.mp e).1)
  rw [e] at this
  have hg := gok.at_ g e
  have key : ∀ R : List Lab, (R.all fun l => decide (l ≠ .slt r)) = true → R.all (keepL [] n) = true → R.all (keepL [r] n) = true := fun R h1 h2 => List.all_eq_true.mpr fun l hl => by
    have z1 := of_decide_eq_true (List.all_eq_true.mp h1 l hl)
    have z2 := List.all_eq_true.mp h2 l hl
    cases l with
    | slt q =>
      have : q ≠ r := fun z => z1 (by rw [z])
      simp [keepL, this]
    | _ => exact z2
  refine ⟨?_, by simp [keepL, ne]⟩
  cases k with
  | own => rfl
  | bor R => simp only [Bool.and_eq_true] at this; exact key R this.2 hg
  | spn R => simp only [Bool.and_eq_true] at this; exact key R this.2 hg
  | exc R => simp only [Bool.and_eq_true] at this; exact key R this.2 hg
section
variable {X : Cx} {W : WX} {Z : SC} {Γx Γ Γ' : Ctx} {n r : Nat} {m m1 m2 : List Nat} {σ : St} {H : Hp} {lab : Labs} {σD : List D} {pos : Pos}
/-- the object of slot r is changed; f': what it now holds, fz: what came out -/
def labMut (r n : Nat) (f' fz : List Addr) (lab : Labs) : Labs := fun b => if b ∈ fz then .tmp n else if b ∈ f' then .slt r else lab b
theorem SR.mut {a : Addr} {u o : HO} {f' fz : List Addr} {d' : D} (s : SR X Γ σ H lab σD) (g : gok Γ n = true) (hb : noBor Γ r = true) (hΓ : Γ[r]? = some (some .own)) (hσ : σ[r]? = some (some (.ref a))) (ha : H a = some u) (mu : isMut u)
    (rp : Rp X.K (clX X) (upd H a o) (.ref a) d' f') (nd : (f' ++ fz).Nodup) (hl : ∀ b ∈ a :: (f' ++ fz), lab b = .slt r ∨ ∃ j, n ≤ j ∧ lab b = .tmp j) :
    SR X Γ σ (upd H a o) (labMut r n f' fz lab) (σD.set r d') ∧ Pres [r] n H lab (upd H a o) (labMut r n f' fz lab) := by
  have nk : ∀ b ∈ a :: (f' ++ fz), keepL [r] n (lab b) = false := fun b hb => by
    rcases hl b hb with e | ⟨j, hj, e⟩
    · rw [e]; simp [keepL]
    · rw [e]; simp [keepL]; omega
  have P1 : Pres [r] n H lab (upd H a o) lab := .mut ha mu (nk a List.mem_cons_self)
  have P2 : Pres [r] n (upd H a o) lab (upd H a o) (labMut r n f' fz lab) := .relab (fun b hk => by
    unfold labMut
    rw [if_neg (fun z => by rw [nk b (List.mem_cons_of_mem _ (List.mem_append_right _ z))] at hk; exact Bool.noConfusion hk), if_neg (fun z => by rw [nk b (List.mem_cons_of_mem _ (List.mem_append_left _ z))] at hk; exact Bool.noConfusion hk)]) fun b ho => by
    unfold labMut at ho ⊢
    split at ho
    · cases ho
    · rename_i h1
      split at ho
      · cases ho
      · rename_i h2
        rw [if_neg h1, if_neg h2]
  have P := P1.trans P2 (SubK.refl _ _) (SubK.refl _ _)
  refine ⟨⟨s.l1, by rw [List.length_set]; exact s.l2, fun i k e => ?_⟩, P⟩
  obtain ⟨v, d, h1, h2, h3⟩ := s.at_ i k e
  by_cases ne : i = r
  · subst ne
    rw [hσ] at h1
    cases h1
    rw [hΓ] at e
    cases e
    refine ⟨.ref a, d', hσ, List.getElem?_set_self (List.getElem?_eq_some_iff.mp h2).1, f', rp, (List.nodup_append.mp nd).1, fun b hb => ?_⟩
    unfold labMut
    rw [if_neg fun z => (List.nodup_append.mp nd).2.2 b hb b z rfl, if_pos hb]
  · obtain ⟨g1, g2⟩ := noBor.at_ hb g e ne
    exact ⟨v, d, h1, by rw [List.getElem?_set_ne (Ne.symm ne)]; exact h2, h3.pres P g1 g2⟩
def dSetIx (c i v : D) : Option D := match c, i with
  | .lst ds, .int j => (ixN ds.length j).map fun q => .lst (ds.set q v)
  | _, _ => none
def sSetIx (r : Nat) (gv gi : List D → ER D) : List D → SO := sOf gv fun v => sOf gi fun i σ => match dSetIx (σ.getD r .non) i v with
  | some c => .nxt (σ.set r c)
  | none => .stuck
theorem RpL.disj {K : PySem.W.Frag} {cl : CE} {vs : List V} {ds : List D} {f : List Addr} (h : RpL K cl H vs ds f) {a : Addr} {o : HO} (ha : a ∉ f) (hm : ∃ u, H a = some u ∧ isMut u) : RpL K cl (upd H a o) vs ds f := by
  obtain ⟨u, hu, mu⟩ := hm
  exact h.ext (TK.mut hu mu) fun b hb => upd_ne fun z => ha (z ▸ hb)
theorem Rp.disj {K : PySem.W.Frag} {cl : CE} {v : V} {d : D} {f : List Addr} (h : Rp K cl H v d f) {a : Addr} {o : HO} (ha : a ∉ f) (hm : ∃ u, H a = some u ∧ isMut u) : Rp K cl (upd H a o) v d f := by
  obtain ⟨u, hu, mu⟩ := hm
  exact h.ext (TK.mut hu mu) fun b hb => upd_ne fun z => ha (z ▸ hb)
/-- a list of one's own -/
theorem VR.own_lst {K : PySem.W.Frag} {cl : CE} {t : Lab} {v : V} {ds : List D} (h : VR K cl H lab .own t v (.lst ds)) :
    (∃ a vs fp, v = .ref a ∧ H a = some (.lst vs) ∧ RpL K cl H vs ds fp ∧ a ∉ fp ∧ fp.Nodup ∧ lab a = t ∧ ∀ b ∈ fp, lab b = t) := by
  obtain ⟨fp, r, nd, l⟩ := h
  cases r with
  | lst h r =>
    rw [List.nodup_cons] at nd
    exact ⟨_, _, _, rfl, h, r, nd.1, nd.2, l _ List.mem_cons_self, fun b hb => l b (List.mem_cons_of_mem _ hb)⟩

theorem sj_setix {x : Str} {e ie : Expr} {px tpos : Pos} {gv gi : List D → ER D} {k : Kd} (hx : PE X (.Name x px) (tVar r)) (he : EJ X W Z.Γx Γ n m1 e gv .own) (hi : EJ X W Z.Γx Γ (n + 1) m2 ie gi k) (hr : Γ[r]? = some (some .own) := by rfl) (hb : noBor Γ r = true := by decide)
    (ha : ∀ v, assign (.Subscript (.Name x px) ie tpos) X.env v = (do
      let ov ← holding [v] (eval (.Name x px) X.env)
      let iv ← holding [v, ov] (eval ie X.env)
      standAt tpos
      holding [v, ov, iv] (setItem ov iv v)
      release [v, ov, iv] []) := by intro _; rfl)
    (hs : swapsWithSole [.Subscript (.Name x px) ie tpos] e pos.line X.env = pure false := by rfl) (hw : swappedStores [.Subscript (.Name x px) ie tpos] e X.env = pure none := by rfl)
    (h1 : (assignEach [.Subscript (.Name x px) ie tpos] X.env).map (·.2) = [assign (.Subscript (.Name x px) ie tpos) X.env] := by rfl) :
    SJ X W Z Γ Γ n (m1 ++ (m2 ++ [r])) (.Assign [.Subscript (.Name x px) ie tpos] e pos) (sSetIx r gv gi) := by
  refine ps_imp (ps_asg he (pg_sub hx hi set_list ha) hs hw h1) fun E σ H hh => ?_
  obtain ⟨σD, lab, fx, g0, s, po⟩ := hh
  refine sof_imp (fun _ _ _ q => q) g0 s po fun d σD1 v H1 lab1 s1 p1 r1 po1 => ?_
  obtain ⟨vr, hvr, _⟩ := s1.s.get hr
  refine ⟨vr, hvr, ?_⟩
  -- the index, at n + 1
  have po1' := po1.mono (m1 := m2 ++ [r]) (n1 := n) (SubK.refl _ _) (Nat.le_refl _)
  unfold sOf at po1'
  refine ⟨σD1, lab1, gok.up g0, s1.s, ?_⟩
  cases e2 : gi σD1 with
  | stuck => rw [e2] at po1'; exact po1'
  | exc cn py σD2 =>
    rw [e2] at po1'
    intro H2 lab2 C dd hc s2 p2 pay
    exact po1' σ H2 lab2 C dd hc ⟨s2, s1.f⟩ (p2.mono ((SubK.left _ _ _).trans (SubK.up _ _))) (pay.mono (Nat.le_succ _))
  | ok di σD2 =>
    rw [e2] at po1'
    intro iv H2 lab2 s2 p2 r2
    have po2 := PostS.later po1' p2 ((SubK.left _ _ _).trans (SubK.up _ _)) (SubK.right _ _ _)
    dsimp only at po2
    have r1 := VR.pres p2 r1 rfl (by simp [keepL])
    obtain ⟨vr', hvr', r3⟩ := s2.get hr
    rw [hvr] at hvr'
    cases hvr'
    cases es : dSetIx (σD2.getD r .non) di d with
    | none => rw [es] at po2; exact po2.elim
    | some c =>
      rw [es] at po2
      cases ec : σD2.getD r .non with
      | lst ds =>
        rw [ec] at es r3
        cases di with
        | int j =>
          simp only [dSetIx, Option.map_eq_some_iff] at es
          obtain ⟨q, hq, rfl⟩ := es
          have ei := r2.int
          subst ei
          obtain ⟨a, vs, fp, rfl, hH, rl, na, nd, la, lf⟩ := r3.own_lst
          obtain ⟨fv, rv, ndv, lv⟩ := r1
          have dj : ∀ b ∈ fv, b ∉ fp := fun b hb z => by
            have := lf b z
            rw [lv b hb] at this
            cases this
          have nav : a ∉ fv := fun z => by
            have := lv a z
            rw [la] at this; cases this
          obtain ⟨f', ra, fb, fn⟩ := rl.set q rv nd ndv dj
          have na' : a ∉ f' := fun z => (fb a z).elim na nav
          refine ⟨a, vs, j, q, rfl, rfl, hH, by rw [rl.len]; exact hq, ?_⟩
          obtain ⟨s3, p3⟩ := s2.mut (fz := []) (f' := a :: f') (d' := .lst (ds.set q d)) (o := .lst (vs.set q v)) g0 hb hr hvr hH True.intro (.lst upd_same (ra.disj na' ⟨_, hH, True.intro⟩)) (by rw [List.append_nil]; exact List.nodup_cons.mpr ⟨na', fn⟩) (fun b hb' => by
            simp only [List.append_nil, List.mem_cons] at hb'
            rcases hb' with e | e | e
            · exact .inl (by rw [e]; exact la)
            · exact .inl (by rw [e]; exact la)
            · rcases fb b e with z | z
              · exact .inl (lf b z)
              · exact .inr ⟨n, Nat.le_refl _, lv b z⟩)
          exact po2 σ _ _ ⟨s3, s1.f⟩ p3
        | _ => cases es
      | _ => rw [ec] at es; cases es
/-- what a method does to the thing at a, and what comes -/
def MutR (X : Cx) (rr : V → List V → Hp → VK → Prop) (f : D → List D → Option (D × D)) : Prop := ∀ d as c z, f d as = some (c, z) → ∀ (H : Hp) (v : V) (fp : List Addr) (vs : List V) (fa : List Addr), Rp X.K (clX X) H v d fp → fp.Nodup → RpL X.K (clX X) H vs as fa → fa.Nodup → (∀ b ∈ fa, b ∉ fp) →
  ∃ a u o zv f' fz, v = .ref a ∧ H a = some u ∧ isMut u ∧ a ∈ fp ∧ Rp X.K (clX X) (upd H a o) v c f' ∧ Rp X.K (clX X) (upd H a o) zv z fz ∧ (f' ++ fz).Nodup ∧ (∀ b ∈ f' ++ fz, b ∈ fp ∨ b ∈ fa) ∧ ∀ Q : VK, Q zv (upd H a o) → rr v vs H Q
def isTy (T : String) : D → Bool
  | .lst _ => T == "list"
  | .dK _ => T == "dict"
  | .dT _ => false
  | .str _ => T == "str"
  | _ => false
theorem Rp.ty {K : PySem.W.Frag} {cl : CE} {v : V} {d : D} {f : List Addr} {T : String} (h : Rp K cl H v d f) (e : isTy T d = true) : tyV K T v H := by
  cases h with
  | str x => exact beq_iff_eq.mp e
  | lst h r => exact .inl ⟨beq_iff_eq.mp e, _, .of h⟩
  | dK h k r => exact .inr (.inr (.inl ⟨beq_iff_eq.mp e, .inl ⟨_, h⟩⟩))
  | dT h ok hk k hv r => cases e
  | _ => cases e
def eMut (T : String) (r : Nat) (f : D → List D → Option (D × D)) (gs : List D → ER (List D)) : List D → ER D := fun σ => if isTy T (σ.getD r .non) = true then (gs σ).bind fun ds σ1 => match f (σ1.getD r .non) ds with
  | some (c, z) => .ok z (σ1.set r c)
  | none => .stuck
  else .stuck
theorem mut_fin {T : String} {rr : V → List V → Hp → VK → Prop} {f : D → List D → Option (D × D)} {ks : List AK} {Q : VK} (mo : MutR X rr f) (hr : Γ[r]? = some (some .own)) (hb : noBor Γ r = true) (ho : ks.all ownA = true) (g0 : gok Γ n = true) {ds : List D} {vs : List V} {v : V} (hv : σ[r]? = some (some v)) (s : SR X Γ σ H lab σD) (ar : AR X σ σD H lab n ks vs ds)
    (po : Post X W Γx Γ σ [r] n (relE X n .own) H lab Q (match f (σD.getD r .non) ds with
      | some (c, z) => .ok z (σD.set r c)
      | none => .stuck)) : rr v vs H Q := by
  obtain ⟨v', hv', fp, rp, nd, lf⟩ := s.get hr
  rw [hv] at hv'
  cases hv'
  obtain ⟨fa, ra, nda, lfa⟩ := ar.own ho
  cases e : f (σD.getD r .non) ds with
  | none => rw [e] at po; exact po.elim
  | some cz =>
    obtain ⟨c, z⟩ := cz
    rw [e] at po
    have dj : ∀ b ∈ fa, b ∉ fp := fun b hb' z => by
      obtain ⟨j, _, e⟩ := lfa b hb'
      rw [lf b z] at e; cases e
    obtain ⟨a, u, o, zv, f', fz, rfl, hu, mu, ha, rc, rz, ndc, hsub, hQ⟩ := mo _ _ _ _ e H v fp vs fa rp nd ra nda dj
    have hl : ∀ b ∈ a :: (f' ++ fz), lab b = .slt r ∨ ∃ j, n ≤ j ∧ lab b = .tmp j := fun b hb' => by
      rcases List.mem_cons.mp hb' with e | e
      · exact .inl (by rw [e]; exact lf a ha)
      · rcases hsub b e with z | z
        · exact .inl (lf b z)
        · exact .inr (lfa b z)
    obtain ⟨s3, p3⟩ := s.mut (f' := f') (fz := fz) g0 hb hr hv hu mu rc ndc hl
    refine hQ Q (po zv _ _ s3 p3 ⟨fz, rz, (List.nodup_append.mp ndc).2.1, fun b hb' => ?_⟩)
    unfold labMut
    rw [if_pos hb']
theorem ej_mut {T : String} {rr : V → List V → Hp → VK → Prop} {f : D → List D → Option (D × D)} {ks : List AK} {gs : List D → ER (List D)} {ce : Expr} (mo : MutR X rr f) (h : PE X ce (tBM X.K T rr (tVar r) (rdA X W Γx Γ n m ks gs))) (hr : Γ[r]? = some (some .own) := by rfl) (hb : noBor Γ r = true := by decide) (ho : ks.all ownA = true := by rfl) :
    EJ X W Γx Γ n (m ++ [r]) ce (eMut T r f gs) .own := by
  refine pe_imp h fun σ H Q hh => ?_
  obtain ⟨σD, lab, g0, s, po⟩ := hh
  obtain ⟨v, hv, fp, rp, nd, lf⟩ := s.get hr
  unfold eMut at po
  split at po
  · rename_i ht
    refine ⟨v, hv, rp.ty ht, σD, lab, g0, s, po.seq' fun ds σD1 vs H1 lab1 s1 p1 ar po1 => ?_⟩
    exact mut_fin (T := T) mo hr hb ho g0 hv s1 ar po1
  · exact po.elim
/-- an expression whose value is dropped -/
def sDrop (g : List D → ER D) : List D → SO := sOf g fun _ σ => .nxt σ
theorem sj_expr {e : Expr} {g : List D → ER D} {k : Kd} (h : EJ X W Z.Γx Γ n m e g k) (hs : swapsWith e none pos.line X.env = pure false := by rfl) : SJ X W Z Γ Γ n m (.Expr e pos) (sDrop g) := by
  refine ps_imp (ps_expr h hs) fun E σ H hh => ?_
  obtain ⟨σD, lab, fx, g0, s, po⟩ := hh
  exact sof_imp (m2 := []) (fun _ _ _ q => q) g0 s (by rw [List.append_nil]; exact po) fun d σD1 v H1 lab1 s1 p1 r1 (po1 : PostS X W Z fx Γ [] n H1 lab1 E (.nxt σD1)) => po1 σ H1 lab1 s1 (.refl _ _ _ _)
def mAppend : D → List D → Option (D × D)
  | .lst ds, [x] => if ds.length < sizeLine then some (.lst (ds ++ [x]), .non) else none
  | _, _ => none
def mClear : D → List D → Option (D × D)
  | .lst _, [] => some (.lst [], .non)
  | _, _ => none
theorem mo_append : MutR X rAppend mAppend := by
  intro d as c z e H v fp vs fa hd nd ha nda dj
  unfold mAppend at e
  split at e
  · rename_i ds x
    split at e
    · rename_i hz
      cases e
      cases hd with
      | lst h r =>
        rename_i a ws f
        rw [List.nodup_cons] at nd
        obtain ⟨w, f1, rfl, rw1⟩ := ha.one_inv
        obtain ⟨w', ws', g1, g2, e1, e2, ra, rb⟩ := ha.cons_inv
        cases e1
        obtain ⟨_, e3⟩ := rb.nil_inv
        subst e3
        rw [List.append_nil] at e2
        subst e2
        have na : a ∉ f ++ fa := fun z => (List.mem_append.mp z).elim nd.1 fun q => dj a q List.mem_cons_self
        refine ⟨a, _, .lst (ws ++ [w]), .non, a :: (f ++ fa), [], rfl, h, True.intro, List.mem_cons_self, .lst upd_same ((r.append (RpL.one ra)).disj na ⟨_, h, True.intro⟩), .non, ?_, fun b hb => ?_, fun Q q => ⟨a, ws, w, rfl, rfl, h, by rw [r.len]; exact hz, q⟩⟩
        · rw [List.append_nil, List.nodup_cons, List.nodup_append]
          exact ⟨na, nd.2, nda, fun x hx y hy e => dj y hy (List.mem_cons_of_mem _ (e ▸ hx))⟩
        · rw [List.append_nil] at hb
          rcases List.mem_cons.mp hb with q | q
          · exact .inl (by rw [q]; exact List.mem_cons_self)
          · exact (List.mem_append.mp q).elim (fun q => .inl (List.mem_cons_of_mem _ q)) .inr
    · cases e
  · cases e
end
end Ow


namespace Ow
open PySem PySem.Spec PyProof.Rows L2
inductive Tg where
  | nm (i : Nat) | tp (is : List Nat)
def setMany : List Nat → List D → List D → Option (List D)
  | [], [], σ => some σ
  | i :: is, d :: ds, σ => setMany is ds (σ.set i d)
  | _, _, _ => none
def bindT : Tg → D → List D → Option (List D)
  | .nm i, d, σ => some (σ.set i d)
  | .tp is, .tup ds, σ => setMany is ds σ
  | _, _, _ => none
def Tg.slots : Tg → List Nat
  | .nm i => [i]
  | .tp is => is
def tgs : List Nat → TGs
  | [] => gNil
  | i :: is => gCons (gName i) (tgs is)
def tgR (K : PySem.W.Frag) : Tg → TG
  | .nm i => gName i
  | .tp is => gTup K is.length (tgs is)
def putsC : Ctx → List Nat → List Lab → Ctx
  | Γ, [], _ => Γ
  | Γ, i :: is, R => putsC (putC Γ i (.bor R)) is (dropL i R)
def tgC (Γ : Ctx) (T : Tg) (R : List Lab) : Ctx := putsC Γ T.slots R
section
variable {X : Cx} {W : WX} {Z : SC} {Γx Γ Γ' : Ctx} {n : Nat} {m m1 m2 : List Nat} {σ : St} {H : Hp} {lab : Labs} {σD : List D} {pos : Pos} {R : List Lab} {fx : Nat → V} {io : List Nat}
theorem dropL_ok {i n : Nat} {m : List Nat} (h : R.all (keepL m n) = true) : (dropL i R).all (keepL m n) = true := List.all_eq_true.mpr fun l hl => List.all_eq_true.mp h l (List.mem_filter.mp hl).1
theorem gok_put {i : Nat} {k : Kd} (g : gok Γ n = true) (ok : okK [] n k = true) : gok (putC Γ i k) n = true := by
  refine List.all_eq_true.mpr fun o ho => ?_
  obtain ⟨q, hq⟩ := List.mem_iff_getElem?.mp ho
  have subK : ∀ k : Kd, okK [] n k = true → okK [] n (dropK i k) = true := fun k hk => by
    cases k with
    | own => rfl
    | bor R => exact dropL_ok hk
    | spn R => exact dropL_ok hk
    | exc R => exact dropL_ok hk
  unfold putC at hq
  by_cases z : q = i
  · subst z
    have hl : q < (Γ.map fun o => o.map (dropK q)).length := by
      have := (List.getElem?_eq_some_iff.mp hq).1
      rwa [List.length_set] at this
    rw [List.getElem?_set_self hl] at hq
    cases hq
    exact subK _ ok
  · rw [List.getElem?_set_ne (Ne.symm z), List.getElem?_map] at hq
    cases e2 : Γ[q]? with
    | none => rw [e2] at hq; cases hq
    | some o' =>
      rw [e2] at hq
      cases o' with
      | none => cases hq; rfl
      | some k0 => cases hq; exact subK _ (gok.at_ g e2)
theorem VR.bor_put {K : PySem.W.Frag} {cl : CE} {i n : Nat} {v : V} {d : D} {t t' : Lab} (h : VR K cl H lab (.bor R) t v d) (ok : R.all (keepL [] n) = true) : VR K cl H (labPut i n lab) (.bor (dropL i R)) t' v d := by
  obtain ⟨fp, r, l⟩ := h
  exact ⟨fp, r, fun a ha => bw_put (l a ha) ok⟩
theorem SRx.put {i : Nat} {k : Kd} {v : V} {d : D} (s : SRx X io fx Γ σ H lab σD) (g : gok Γ n = true) (hi : i < X.N.length) (hio : i ∉ io) (h : VR X.K (clX X) H lab k (.tmp n) v d) (ok : okK [] n k = true) : SRx X io fx (putC Γ i k) (σ.set i (some v)) H (labPut i n lab) (σD.set i d) :=
  ⟨s.s.put g hi h ok, fun j hj => by
    rw [List.getElem?_set_ne]
    · exact s.f j hj
    · rintro rfl; exact hio hj⟩
theorem puts_ok : ∀ (is : List Nat) {vs : List V} {ds : List D} {Γ : Ctx} {σ : St} {lab : Labs} {σD σD' : List D} {R : List Lab} {Q : St → Hp → Prop}, SRx X io fx Γ σ H lab σD → gok Γ n = true → R.all (keepL [] n) = true → (∀ i ∈ is, i < X.N.length ∧ i ∉ io) → vs.length = ds.length →
    (∀ (j : Nat) v d, vs[j]? = some v → ds[j]? = some d → VR X.K (clX X) H lab (.bor R) (.tmp n) v d) → setMany is ds σD = some σD' →
    (∀ σ' lab', SRx X io fx (putsC Γ is R) σ' H lab' σD' → gok (putsC Γ is R) n = true → Pres is n H lab H lab' → Q σ' H) → tgs is vs σ H Q
  | [], vs, ds, Γ, σ, lab, σD, σD', R, Q, s, g, ok, hi, hl, hv, e, k => by
    cases ds with
    | nil =>
      cases vs with
      | nil => cases e; exact ⟨rfl, k σ lab s g (.refl _ _ _ _)⟩
      | cons v vs => cases hl
    | cons d ds => cases e
  | i :: is, vs, ds, Γ, σ, lab, σD, σD', R, Q, s, g, ok, hi, hl, hv, e, k => by
    cases ds with
    | nil => cases e
    | cons d ds =>
      cases vs with
      | nil => cases hl
      | cons v vs =>
        have r0 := hv 0 v d rfl rfl
        obtain ⟨h1, h2⟩ := hi i List.mem_cons_self
        refine ⟨v, vs, rfl, puts_ok is (R := dropL i R) (s.put g h1 h2 r0 ok) (gok_put g ok) (dropL_ok ok) (fun j hj => hi j (List.mem_cons_of_mem _ hj)) (by simpa using hl) (fun j w x a b => ?_) e fun σ' lab' s' g' p => ?_⟩
        · exact (hv (j + 1) w x (by simpa using a) (by simpa using b)).bor_put ok
        · refine k σ' lab' s' g' (Pres.trans (m1 := [i]) (n1 := n) (m2 := is) (n2 := n) .put p (.of (fun q hq => by simp at hq; simp [hq]) (Nat.le_refl _)) (.of (fun q hq => List.mem_cons_of_mem _ hq) (Nat.le_refl _)))
/-- what is borrowed is bound to the target -/
theorem tg_ok {T : Tg} {v : V} {d : D} {σD' : List D} {Q : St → Hp → Prop} (s : SRx X io fx Γ σ H lab σD) (g : gok Γ n = true) (ok : R.all (keepL [] n) = true) (hi : ∀ i ∈ T.slots, i < X.N.length ∧ i ∉ io) (r : VR X.K (clX X) H lab (.bor R) (.tmp n) v d) (e : bindT T d σD = some σD')
    (k : ∀ σ' lab', SRx X io fx (tgC Γ T R) σ' H lab' σD' → gok (tgC Γ T R) n = true → Pres T.slots n H lab H lab' → Q σ' H) : tgR X.K T v σ H Q := by
  cases T with
  | nm i =>
    cases e
    obtain ⟨h1, h2⟩ := hi i List.mem_cons_self
    exact k _ _ (s.put g h1 h2 r ok) (gok_put g ok) .put
  | tp is =>
    cases d with
    | tup ds =>
      obtain ⟨fp, rp, l⟩ := r
      cases rp with
      | tup h rl =>
        rename_i a vs
        have hlen : ∀ (is : List Nat) (ds σ0 σ1 : List D), setMany is ds σ0 = some σ1 → ds.length = is.length := by
          intro is
          induction is with
          | nil => intro ds σ0 σ1 e; cases ds with | nil => rfl | cons _ _ => cases e
          | cons i is ih => intro ds σ0 σ1 e; cases ds with | nil => cases e | cons d ds => simp [ih ds _ _ e]
        refine ⟨a, vs, rfl, h, by rw [rl.len, hlen is ds _ _ e], puts_ok is s g ok hi rl.len (fun j v x a b => ?_) e k⟩
        obtain ⟨w, f, e1, e2, e3⟩ := rl.get b
        rw [a] at e1
        cases e1
        exact ⟨f, e2, fun y hy => l y (e3.subset hy)⟩
    | _ => cases e
def IterOk (X : Cx) (n : Nat) (R : List Lab) (J : It) (ds : List D) (H : Hp) (lab : Labs) : Prop := ∀ m' H' lab', Pres m' (n + 1) H lab H' lab' → R.all (keepL m' (n + 1)) = true → ∀ i : Nat, i ≤ ds.length →
  (i = ds.length → J.stop i H') ∧ ∀ d, ds[i]? = some d → J.go i H' ∧ ∀ x H'', J.yld i H' x H'' → ∃ lab'', (∀ m'' n'', Pres m'' n'' H' lab' H'' lab'') ∧ VR X.K (clX X) H'' lab'' (.bor R) (.tmp (n + 1)) x d
abbrev relI (X : Cx) (n : Nat) (R : List Lab) : Rel It (List D) := fun _ H lab J ds => IterOk X n R J ds H lab
def rdI (X : Cx) (W : WX) (Γx Γ : Ctx) (n : Nat) (m : List Nat) (R : List Lab) (g : List D → ER (List D)) : TI := fun σ H Q => ∃ σD lab, gok Γ n = true ∧ SR X Γ σ H lab σD ∧ Post X W Γx Γ σ m n (relI X n R) H lab Q (g σD)
abbrev IJ (X : Cx) (W : WX) (Γx Γ : Ctx) (n : Nat) (m : List Nat) (tg e : Expr) (g : List D → ER (List D)) (R : List Lab) : Prop := PI X tg e (rdI X W Γx Γ n m R g)
theorem pi_imp {X : Cx} {tg e : Expr} {t u : TI} (h : PI X tg e t) (i : ∀ σ H Q, u σ H Q → t σ H Q) : PI X tg e u := ⟨fun pins s σ H Q I q => h.run pins s σ H Q I (i σ H Q q)⟩
def iterR (t : Lab) : Kd → List Lab
  | .own => [t]
  | .bor R => R
  | .spn R => R
  | .exc R => R
theorem VR.elems {K : PySem.W.Frag} {cl : CE} {k : Kd} {t t' : Lab} {v : V} {d : D} {ds : List D} (h : VR K cl H lab k t v d) (e : d = .lst ds ∨ d = .fzl ds) : ∃ a vs, v = .ref a ∧ SqL K H a vs ∧ vs.length = ds.length ∧ ∀ (i : Nat) x, ds[i]? = some x → ∃ w, vs[i]? = some w ∧ VR K cl H lab (.bor (iterR t k)) t' w x := by
  have key : ∀ {vs : List V} {fp fp' : List Addr} {R : List Lab}, RpL K cl H vs ds fp' → (∀ a ∈ fp', a ∈ fp) → (∀ a ∈ fp, bw R (lab a)) → ∀ (i : Nat) x, ds[i]? = some x → ∃ w, vs[i]? = some w ∧ VR K cl H lab (.bor R) t' w x := fun rr sb l i x hx => by
    obtain ⟨w, f, a, b, c⟩ := rr.get hx
    exact ⟨w, a, f, b, fun y hy => l y (sb y (c.subset hy))⟩
  cases k with
  | own =>
    obtain ⟨fp, r, nd, l⟩ := h
    have l' : ∀ a ∈ fp, bw [t] (lab a) := fun a ha => .inr (by rw [l a ha]; exact List.mem_cons_self)
    rcases e with rfl | rfl
    · cases r with
      | lst h r => exact ⟨_, _, rfl, .of h, r.len, key r (fun a ha => List.mem_cons_of_mem _ ha) l'⟩
    · cases r with
      | lsf h r => exact ⟨_, _, rfl, h.sql, r.len, key r (fun a ha => ha) l'⟩
  | bor R =>
    obtain ⟨fp, r, l⟩ := h
    rcases e with rfl | rfl
    · cases r with
      | lst h r => exact ⟨_, _, rfl, .of h, r.len, key r (fun a ha => List.mem_cons_of_mem _ ha) l⟩
    · cases r with
      | lsf h r => exact ⟨_, _, rfl, h.sql, r.len, key r (fun a ha => ha) l⟩
  | spn R =>
    obtain ⟨a, vs, ds', fp, rfl, rfl, ha, r, la, l⟩ := h
    rcases e with e | e
    · cases e
      exact ⟨a, vs, rfl, .of ha, r.len, key r (fun a ha => ha) fun b hb => (l b hb).2⟩
    · cases e
  | exc R =>
    obtain ⟨fp, r, _⟩ := h
    cases r <;> rcases e with e | e <;> cases e
theorem VR.elemsT {K : PySem.W.Frag} {cl : CE} {k : Kd} {t t' : Lab} {v : V} {ds : List D} (h : VR K cl H lab k t v (.tup ds)) : ∃ a vs, v = .ref a ∧ SqT K H a vs ∧ vs.length = ds.length ∧ ∀ (i : Nat) x, ds[i]? = some x → ∃ w, vs[i]? = some w ∧ VR K cl H lab (.bor (iterR t k)) t' w x := by
  have key : ∀ {vs : List V} {fp : List Addr} {R : List Lab}, RpL K cl H vs ds fp → (∀ a ∈ fp, bw R (lab a)) → ∀ (i : Nat) x, ds[i]? = some x → ∃ w, vs[i]? = some w ∧ VR K cl H lab (.bor R) t' w x := fun rr l i x hx => by
    obtain ⟨w, f, a, b, c⟩ := rr.get hx
    exact ⟨w, a, f, b, fun y hy => l y (c.subset hy)⟩
  cases k with
  | own =>
    obtain ⟨fp, r, nd, l⟩ := h
    cases r with
    | tup h r => exact ⟨_, _, rfl, h, r.len, key r fun a ha => .inr (by rw [l a ha]; exact List.mem_cons_self)⟩
  | bor R =>
    obtain ⟨fp, r, l⟩ := h
    cases r with
    | tup h r => exact ⟨_, _, rfl, h, r.len, key r l⟩
  | spn R =>
    obtain ⟨a, vs, ds', fp, rfl, e, _⟩ := h
    cases e
  | exc R =>
    obtain ⟨fp, r, _⟩ := h
    cases r
theorem okK_iter {k : Kd} {m : List Nat} (h : (iterR (.tmp n) k).all (keepL m (n + 1)) = true) : okK m (n + 1) k = true := by
  cases k with
  | own => rfl
  | bor R => exact h
  | spn R => exact h
  | exc R => exact h
def gList (g : List D → ER D) : List D → ER (List D) := fun σ => (g σ).bind fun d σ1 => match d with
  | .lst ds => .ok ds σ1
  | .fzl ds => .ok ds σ1
  | _ => .stuck
def gTupl (g : List D → ER D) : List D → ER (List D) := fun σ => (g σ).bind fun d σ1 => match d with
  | .tup ds => .ok ds σ1
  | _ => .stuck
theorem iter_list {k : Kd} {v : V} {d : D} {ds : List D} (r : VR X.K (clX X) H lab k (.tmp n) v d) (e : d = .lst ds ∨ d = .fzl ds) : ∃ a, v = .ref a ∧ (∃ xs, SqL X.K H a xs) ∧ IterOk X n (iterR (.tmp n) k) (Itl X.K a) ds H lab := by
  obtain ⟨a, vs, rfl, hs, _⟩ := r.elems (t' := .tmp n) e
  refine ⟨a, rfl, ⟨vs, hs⟩, fun m' H' lab' p ok i hi => ?_⟩
  obtain ⟨a', vs', ea, hs', hl, hv⟩ := (r.pres p (okK_iter ok) (by simp [keepL])).elems (t' := .tmp (n + 1)) e
  cases ea
  refine ⟨fun ei => ⟨vs', hs', by omega⟩, fun x hx => ?_⟩
  obtain ⟨w, hw, hr⟩ := hv i x hx
  refine ⟨⟨vs', w, hs', hw⟩, fun y H'' hy => ?_⟩
  obtain ⟨rfl, hy⟩ := hy
  have := hy vs' hs'
  rw [hw] at this
  cases this
  exact ⟨lab', fun _ _ => .refl _ _ _ _, hr⟩
theorem ij_list {tg e : Expr} {g : List D → ER D} {k : Kd} (h : EJ X W Γx Γ n m e g k) : IJ X W Γx Γ n m tg e (gList g) (iterR (.tmp n) k) := by
  refine pi_imp (pi_list h) fun σ H Q hh => ?_
  obtain ⟨σD, lab, g0, s, po⟩ := hh
  refine ⟨σD, lab, g0, s, po.last fun d σD1 v H1 lab1 s1 p1 r1 po1 => ?_⟩
  cases d with
  | lst ds =>
    obtain ⟨a, ea, hx, hi⟩ := iter_list r1 (.inl rfl)
    exact ⟨a, ea, hx, po1 _ H1 lab1 s1 (.refl _ _ _ _) hi⟩
  | fzl ds =>
    obtain ⟨a, ea, hx, hi⟩ := iter_list r1 (.inr rfl)
    exact ⟨a, ea, hx, po1 _ H1 lab1 s1 (.refl _ _ _ _) hi⟩
  | _ => exact po1.elim
theorem ij_tup {tg e : Expr} {g : List D → ER D} {k : Kd} (h : EJ X W Γx Γ n m e g k) : IJ X W Γx Γ n m tg e (gTupl g) (iterR (.tmp n) k) := by
  refine pi_imp (pi_tup h) fun σ H Q hh => ?_
  obtain ⟨σD, lab, g0, s, po⟩ := hh
  refine ⟨σD, lab, g0, s, po.last fun d σD1 v H1 lab1 s1 p1 r1 po1 => ?_⟩
  cases d with
  | tup ds =>
    obtain ⟨a, vs, rfl, hs, _⟩ := VR.elemsT (t' := .tmp n) r1
    refine ⟨a, rfl, ⟨vs, hs⟩, po1 _ H1 lab1 s1 (.refl _ _ _ _) fun m' H' lab' p ok i hi => ?_⟩
    obtain ⟨a', vs', ea, hs', hl, hv⟩ := VR.elemsT (t' := .tmp (n + 1)) (VR.pres p r1 (okK_iter ok) (by simp [keepL]))
    cases ea
    refine ⟨fun ei => ⟨vs', hs', by omega⟩, fun x hx => ?_⟩
    obtain ⟨w, hw, hr⟩ := hv i x hx
    refine ⟨⟨vs', w, hs', hw⟩, fun y H'' hy => ?_⟩
    obtain ⟨rfl, hy⟩ := hy
    have := hy vs' hs'
    rw [hw] at this
    cases this
    exact ⟨lab', fun _ _ => .refl _ _ _ _, hr⟩
  | _ => exact po1.elim
def rngD (lo : Int) (n : Nat) : List D := (List.range n).map fun (i : Nat) => D.int (lo + (i : Int))
def gRng : List D → Option (List D)
  | [.int j] => if -(2 ^ 62) ≤ j ∧ j < 2 ^ 62 then some (rngD 0 j.toNat) else none
  | [.int i, .int j] => if -(2 ^ 62) ≤ i ∧ i < 2 ^ 62 ∧ -(2 ^ 62) ≤ j ∧ j < 2 ^ 62 then some (rngD i (j - i).toNat) else none
  | _ => none
def gRange (gs : List D → ER (List D)) : List D → ER (List D) := fun σ => (gs σ).bind fun ds σ1 => ofO (gRng ds) σ1
theorem iter_range {lo : Int} {q : Nat} : IterOk X n [] (Itr lo q) (rngD lo q) H lab := fun m' H' lab' p ok i hi => by
  have hl : (rngD lo q).length = q := by simp [rngD]
  refine ⟨fun e => Nat.le_of_eq (by rw [e, hl]), fun d hd => ?_⟩
  unfold rngD at hd
  rw [List.getElem?_map] at hd
  have hi' : i < q := by
    cases z : (List.range q)[i]? with
    | none => rw [z] at hd; cases hd
    | some j => simpa using (List.getElem?_eq_some_iff.mp z).1
  rw [List.getElem?_range hi'] at hd
  cases hd
  refine ⟨hi', fun x H'' hy => ?_⟩
  obtain ⟨rfl, rfl⟩ := hy
  exact ⟨lab', fun _ _ => .refl _ _ _ _, [], .int _, by simp⟩
theorem range1_imp {e : Expr} {gs : List D → ER (List D)} {k : Kd} (σ : St) (H : Hp) (Q : It → Hp → Prop) (hh : rdI X W Γx Γ n m [] (gRange gs) σ H Q) : iRng1 (rdA X W Γx Γ n m [.val k] gs) σ H Q := by
  obtain ⟨σD, lab, g0, s, po⟩ := hh
  refine ⟨σD, lab, g0, s, po.last fun ds σD1 vs H1 lab1 s1 p1 r1 po1 => ?_⟩
  obtain ⟨z, e, q⟩ := po1.done
  obtain ⟨v, vs', d, ds', e1, e2, r, e3, e4⟩ := r1
  subst e1 e2 e3 e4
  cases d with
  | int j =>
    simp only [gRng] at e
    split at e
    · rename_i hb
      cases e
      have ev := r.int
      subst ev
      exact ⟨j, rfl, hb.1, hb.2, q _ H1 lab1 s1 (.refl _ _ _ _) iter_range⟩
    · cases e
  | _ => cases e
theorem ij_range1 {tg a : Expr} {gs : List D → ER (List D)} {k : Kd} {p : Pos} (hm : X.mg "range" = none) (ha : AJ X W Γx Γ n m [a] gs [.val k]) (hg : Gl X "range" := by rfl) (hs : starEach [a] X.env = [(false, eval a X.env)] := by rfl) : IJ X W Γx Γ n m tg (.Call (.Name "range" p) [a] [] pos) (gRange gs) [] :=
  pi_imp (pi_range1 hg hm ha hs) fun σ H Q hh => range1_imp (e := a) σ H Q hh
def forL (T : Tg) (G : List D → SO) : List D → List D → SO
  | [], σ => .nxt σ
  | d :: ds, σ => match bindT T d σ with
    | none => .stuck
    | some σ1 => match G σ1 with
      | .nxt σ2 => forL T G ds σ2
      | .cnt σ2 => forL T G ds σ2
      | .brk σ2 => .nxt σ2
      | r => r
def sFor (T : Tg) (gi : List D → ER (List D)) (G : List D → SO) : List D → SO := fun σ => match gi σ with
  | .stuck => .stuck
  | .exc c p σ1 => .exc c p σ1
  | .ok ds σ1 => forL T G ds σ1
def tgOk (T : Tg) (nl : Nat) (io : List Nat) : Bool := T.slots.all fun i => decide (i < nl) && !io.contains i
/-- what a loop denotes is what the layer asks of one -/
theorem for_imp {gi : List D → ER (List D)} {G : List D → SO} {T : Tg} (hle : leC Γ' Γ = true) (hR : R.all (keepL (T.slots ++ m2) (n + 1)) = true) (ht : tgOk T X.N.length Z.io = true) (E : Ends) (σ : St) (H : Hp) (h : rdS X W Z Γ Γ n (m1 ++ (T.slots ++ m2)) (sFor T gi G) E σ H) :
    tFor (rdI X W Z.Γx Γ n m1 R gi) (tgR X.K T) (rdS X W { Z with Γb := Γ } (tgC Γ T R) Γ' (n + 1) m2 G) E σ H := by
  obtain ⟨σD, lab, fx, g0, s, po⟩ := h
  refine ⟨σD, lab, g0, s.s, ?_⟩
  unfold sFor at po
  cases e : gi σD with
  | stuck => rw [e] at po; exact po
  | exc cn py σ1 =>
    rw [e] at po
    intro H1 lab1 C dd hcn s1 p1 pay
    exact po σ H1 lab1 C dd hcn ⟨s1, s.f⟩ (p1.mono (SubK.left _ _ _)) pay
  | ok ds σ1 =>
    rw [e] at po
    intro J H1 lab1 s1 p1 it
    have po1 := PostS.later po p1 (SubK.left _ _ _) (SubK.right _ _ _)
    have it : IterOk X n R J ds H1 lab1 := it
    have hts : ∀ i ∈ T.slots, i < X.N.length ∧ i ∉ Z.io := fun i hi => by
      have := List.all_eq_true.mp ht i hi
      simpa using this
    have hR0 : R.all (keepL [] (n + 1)) = true := List.all_eq_true.mpr fun l hl => by
      have := List.all_eq_true.mp hR l hl
      cases l <;> simp_all [keepL]
    refine ⟨fun i k σ H => k = ds.length - i ∧ i ≤ ds.length ∧ ∃ σD lab, SRx X Z.io fx Γ σ H lab σD ∧ Pres (T.slots ++ m2) (n + 1) H1 lab1 H lab ∧ PostS X W Z fx Γ (T.slots ++ m2) n H lab E (forL T G (ds.drop i) σD),
      ⟨ds.length, by simp, Nat.zero_le _, σ1, lab1, ⟨s1, s.f⟩, .refl _ _ _ _, by rw [List.drop_zero]; exact po1⟩, ?_⟩
    rintro i k σ H ⟨rfl, hi, σD, lab, s, p, po⟩
    obtain ⟨hstop, hgo⟩ := it _ H lab p hR i hi
    by_cases hlt : i < ds.length
    · obtain ⟨go, hy⟩ := hgo ds[i] (List.getElem?_eq_getElem hlt)
      refine .inr ⟨go, fun σ' H' => ∃ σD' lab', SRx X Z.io fx Γ σ' H' lab' σD' ∧ Pres (T.slots ++ m2) (n + 1) H1 lab1 H' lab' ∧ PostS X W Z fx Γ (T.slots ++ m2) n H' lab' E (forL T G (ds.drop (i + 1)) σD'), fun σ' H' q => ⟨ds.length - (i + 1), by omega, rfl, hlt, q⟩, fun x H'' hx => ?_⟩
      obtain ⟨lab2, p2, r2⟩ := hy x H'' hx
      rw [List.drop_eq_getElem_cons hlt, forL] at po
      have s2 : SRx X Z.io fx Γ σ H'' lab2 σD := ⟨s.s.pres (gok.up g0) (p2 _ _), s.f⟩
      have po2 := PostS.later po (p2 (T.slots ++ m2) n) (SubK.refl _ _) (SubK.refl _ _)
      have p3 : Pres (T.slots ++ m2) (n + 1) H1 lab1 H'' lab2 := p.trans (p2 _ _) (SubK.refl _ _) (SubK.refl _ _)
      cases eb : bindT T ds[i] σD with
      | none => rw [eb] at po2; exact po2.elim
      | some σD2 =>
        rw [eb] at po2
        dsimp only at po2
        refine tg_ok s2 (gok.up g0) hR0 hts r2 eb fun σ3 lab3 s3 g3 p4 => ?_
        have p5 : Pres (T.slots ++ m2) (n + 1) H1 lab1 H'' lab3 := p3.trans (p4.mono (SubK.left _ _ _)) (SubK.refl _ _) (SubK.refl _ _)
        have po3 := PostS.later po2 (p4.mono (m := T.slots ++ m2) (n := n + 1) (SubK.left _ _ _)) (SubK.up _ _) (SubK.refl _ _)
        refine ⟨σD2, lab3, fx, g3, s3, ?_⟩
        have up2 : SubK (T.slots ++ m2) n m2 (n + 1) := (SubK.right _ _ _).trans (SubK.up _ _)
        cases eg : G σD2 with
        | stuck => rw [eg] at po3; exact po3
        | nxt σ5 =>
          rw [eg] at po3
          exact fun σ' H' lab' s' p' => ⟨σ5, lab', ⟨s'.s.weak hle, s'.f⟩, p5.trans (p'.mono (SubK.right _ _ _)) (SubK.refl _ _) (SubK.refl _ _), PostS.later po3 p' up2 (SubK.refl _ _)⟩
        | cnt σ5 =>
          rw [eg] at po3
          exact fun σ' H' lab' s' p' => ⟨σ5, lab', s', p5.trans (p'.mono (SubK.right _ _ _)) (SubK.refl _ _) (SubK.refl _ _), PostS.later po3 p' up2 (SubK.refl _ _)⟩
        | brk σ5 => rw [eg] at po3; exact fun σ' H' lab' s' p' => po3 σ' H' lab' s' (p'.mono up2)
        | ret d σ5 => rw [eg] at po3; exact po3
        | exc cn py σ5 => rw [eg] at po3; exact fun σ' H' lab' C dd hcn s' p' pay => po3 σ' H' lab' C dd hcn s' (p'.mono up2) (pay.mono (Nat.le_succ _))
    · have ei : i = ds.length := by omega
      refine .inl ⟨hstop ei, ?_⟩
      rw [ei, List.drop_length] at po
      exact po σ H lab s (.refl _ _ _ _)
theorem sj_for {tg iter : Expr} {body : List Stmt} {gi : List D → ER (List D)} {G : List D → SO} {T : Tg} (hp : PassesOwn (model X.prog X.w) X.A X.env X.xe) (hc : X.calm = true) (hi : IJ X W Z.Γx Γ n m1 tg iter gi R) (hg : PG X tg (tgR X.K T))
    (hb : BJ X W { Z with Γb := Γ } (tgC Γ T R) Γ' (n + 1) m2 body G) (hle : leC Γ' Γ = true := by decide) (hR : R.all (keepL (T.slots ++ m2) (n + 1)) = true := by decide) (ht : tgOk T X.N.length Z.io = true := by rfl)
    (hs : ∀ x, foldedSetIterable iter X.env x = pure x := by intro _; rfl) : SJ X W Z Γ Γ n (m1 ++ (T.slots ++ m2)) (.For tg iter body [] pos) (sFor T gi G) :=
  ps_imp (ps_for hp hc hi hg hb hs) fun E σ H h => for_imp hle hR ht E σ H h
end
end Ow


namespace Ow
open PySem PySem.Spec PyProof.Rows L2
def sRaise (c : Str) : List D → SO := fun σ => .exc c .non σ
section
variable {X : Cx} {W : WX} {Z : SC} {Γx Γ Γ' Γ1 Γ2 Γt : Ctx} {n : Nat} {m m1 m2 : List Nat} {pos : Pos}
end
/-- no slot holds an exception -/
def noX (Γ : Ctx) : Bool := Γ.all fun o => match o with
  | some (.exc _) => false
  | _ => true
structure Like (X X' : Cx) : Prop where
  N : X'.N = X.N
  K : X'.K = X.K
  mg : X'.mg = X.mg
theorem Like.symm {X X' : Cx} (l : Like X X') : Like X' X := ⟨l.N.symm, l.K.symm, l.mg.symm⟩
theorem VR.cn {K : PySem.W.Frag} {cl cl' : CE} {H : Hp} {lab : Labs} {k : Kd} {t : Lab} {v : V} {d : D} (h : VR K cl H lab k t v d) (h1 : ∀ c C, cl.cl c C → cl'.cl c C) (hk : ∀ R, k ≠ .exc R) : VR K cl' H lab k t v d := by
  cases k with
  | own => obtain ⟨fp, r, q⟩ := h; exact ⟨fp, r.ce h1, q⟩
  | bor R => obtain ⟨fp, r, q⟩ := h; exact ⟨fp, r.ce h1, q⟩
  | spn R => obtain ⟨a, vs, ds, fp, e1, e2, ha, r, q⟩ := h; exact ⟨a, vs, ds, fp, e1, e2, ha, r.ce h1, q⟩
  | exc R => exact absurd rfl (hk R)
theorem Like.vr {X X' : Cx} (l : Like X X') {H : Hp} {lab : Labs} {k : Kd} {t : Lab} {v : V} {d : D} (h : VR X.K (clX X) H lab k t v d) (hk : ∀ R, k ≠ .exc R) : VR X'.K (clX X') H lab k t v d := by
  rw [l.K]
  exact h.cn (fun c C e => by show X'.mg c = _; rw [l.mg]; exact e) hk
theorem SR.like {X X' : Cx} (l : Like X X') {Γ : Ctx} (hn : noX Γ = true) {σ : St} {H : Hp} {lab : Labs} {σD : List D} (s : SR X Γ σ H lab σD) : SR X' Γ σ H lab σD :=
  ⟨by rw [l.N]; exact s.l1, by rw [l.N]; exact s.l2, fun i k e => by
    obtain ⟨v, d, a, b, c⟩ := s.at_ i k e
    refine ⟨v, d, a, b, l.vr c fun R z => ?_⟩
    have := List.all_eq_true.mp hn _ (List.mem_of_getElem? e)
    rw [z] at this
    cases this⟩
theorem SRx.like {X X' : Cx} (l : Like X X') {Γ : Ctx} (hn : noX Γ = true) {io : List Nat} {fx : Nat → V} {σ : St} {H : Hp} {lab : Labs} {σD : List D} (s : SRx X io fx Γ σ H lab σD) : SRx X' io fx Γ σ H lab σD := ⟨s.s.like l hn, s.f⟩
theorem PayOk.like {X X' : Cx} (l : Like X X') {H : Hp} {lab : Labs} {n : Nat} {c : Str} {p : D} {dd : Option Addr} (h : PayOk X H lab n c p dd) : PayOk X' H lab n c p dd := by
  unfold PayOk at h ⊢
  split at h
  · exact h
  · obtain ⟨d, v, j, a, b, e1, e2, e3⟩ := h
    exact ⟨d, v, j, a, b, e1, e2, l.vr e3 fun R z => by cases z⟩
/-- no exception of its own -/
def SO.noExc : SO → SO
  | .exc _ _ _ => .stuck
  | r => r
def sTry (G : List D → SO) (hit : Str → Option Bool) (i : Nat) (Gs : List D → SO) : List D → SO := fun σ => match G σ with
  | .exc c p σ1 => (match hit c with
    | none => .stuck
    | some true => (Gs (σ1.set i (.exn c p))).noExc
    | some false => .exc c p σ1)
  | r => r
def labExc (i n : Nat) (lab : Labs) : Labs := fun a => match lab a with
  | .slt j => if j = i then .fro else .slt j
  | .tmp j => if n ≤ j then .slt i else .tmp j
  | l => l
section
variable {X : Cx} {W : WX} {Z : SC} {Γx Γ Γ' Γ1 Γ2 Γt : Ctx} {n i : Nat} {m m1 m2 : List Nat} {pos pos' np : Pos} {H : Hp} {lab : Labs} {σ : St} {σD : List D}
theorem Pres.exc : Pres [i] n H lab H (labExc i n lab) := .relab (fun a h => by
    unfold labExc
    split
    · rename_i j e
      rw [e] at h
      rw [if_neg (by rintro rfl; simp [keepL] at h), e]
    · rename_i j e
      rw [e] at h
      simp only [keepL, decide_eq_true_eq] at h
      rw [if_neg (by omega), e]
    · rfl) fun a h => by
    unfold labExc at h ⊢
    split
    · rename_i j e
      rw [e] at h
      dsimp only at h
      split at h <;> cases h
    · rename_i j e
      rw [e] at h
      dsimp only at h
      split at h <;> cases h
    · rfl
end
end Ow


namespace Ow
open PySem PySem.Spec PySem.SeqAt PyProof.Rows L2
inductive Tn where
  | non | bool | int | str | tuple | list | dict
  deriving DecidableEq, Repr
def Tn.s : Tn → String
  | .non => "NoneType"
  | .bool => "bool"
  | .int => "int"
  | .str => "str"
  | .tuple => "tuple"
  | .list => "list"
  | .dict => "dict"
def D.tn : D → Option Tn
  | .non => some .non
  | .bl _ => some .bool
  | .int _ => some .int
  | .str _ => some .str
  | .tup _ => some .tuple
  | .lst _ => some .list
  | .fzl _ => some .list
  | .dK _ => some .dict
  | .dT _ => none
  | _ => none
def Tn.sub : Tn → Tn → Bool
  | .bool, .int => true
  | a, b => decide (a = b)
theorem Tn.kit (a b : Tn) (hb : b ≠ .non) : kitB a.s b.s = some (a.sub b) := by
  cases b <;> first | exact absurd rfl hb | (cases a <;> decide +kernel)
theorem Rp.tyx {K : PySem.W.Frag} {cl : CE} {H : Hp} {v : V} {d : D} {fp : List Addr} {t : Tn} (h : Rp K cl H v d fp) (e : d.tn = some t) : TyX K H v (.type t.s) := by
  cases h with
  | non => cases e; exact .base .non
  | bl b => cases e; exact .base (.bl b)
  | int i => cases e; exact .base (.int i)
  | str x => cases e; exact .base (.str x)
  | tup h r =>
    cases e
    rcases h with (h | ⟨o, h⟩) | ⟨o, its, n, h, hc, _⟩
    · exact .base (.tup h)
    · exact .fTuple h
    · exact .kTuple h hc
  | lst h r => cases e; exact .base (.lst h)
  | lsf h r =>
    cases e
    rcases h with ⟨o, h⟩ | ⟨o, its, n, h, hc, _⟩
    · exact .base (.frz h)
    · exact .kList h hc
  | dK h k r => cases e; exact .base (.dK h)
  | dT h ok hk k hv r => cases e
  | ins c h k r => cases e
def fIs (T : Tn) (d : D) : Option D := d.tn.map fun t => .bl (t.sub T)
section
variable {X : Cx} {W : WX} {Z : SC} {Γx Γ Γ' : Ctx} {n r : Nat} {m m1 m2 : List Nat} {pos p p2 : Pos} {a b o e : Expr} {es : List Expr} {ga gb g : List D → ER D} {gs : List D → ER (List D)} {k k1 : Kd} {ks : List AK}
theorem ej_is {x2 : Str} {T : Tn} (hT : T ≠ .non) (hm : X.mg "isinstance" = none) (hv : X.mg x2 = none) (hb : bootBuiltins x2 = some (.type T.s)) (ha : EJ X W Γx Γ n m a g k) (hg : Gl X "isinstance" := by rfl) (hg2 : Gl X x2 := by rfl) (h1 : x2 ≠ "__name__" := by decide) (h2 : (x2 == ("__debug__" : Str)) = false := by decide)
    (hs : starEach [a, .Name x2 p2] X.env = (false, eval a X.env) :: starEach [.Name x2 p2] X.env := by rfl) (hs2 : starEach [.Name x2 p2] X.env = (false, eval (.Name x2 p2) X.env) :: starEach [] X.env := by rfl) (hpl : (backTo pos (starEach [.Name x2 p2] X.env)).any (·.1) = false := by rfl) :
    EJ X W Γx Γ n m (.Call (.Name "isinstance" p) [a, .Name x2 p2] [] pos) (eUn (fIs T) g) .own := by
  refine pe_imp (pe_callB call_isi hg hm (by decide +kernel) (pa_cons ha (pa_cons (pe_bltn (v := .ty T.s) hg2 hv hb rfl h1 h2) pa_nil hs2) hs) (by decide) (by decide) hs hpl) fun σ H Q h => ?_
  obtain ⟨σD, lab, g0, s, po⟩ := h
  refine ⟨σD, lab, g0, s, po.last fun d σD1 v H1 lab1 s1 p1 r1 po1 => ?_⟩
  obtain ⟨z, e, q⟩ := po1.done
  unfold fIs at e
  cases et : d.tn with
  | none => rw [et] at e; cases e
  | some t =>
    rw [et] at e
    cases e
    obtain ⟨fp, rp⟩ := r1.rp (by cases d <;> first | rfl | cases et)
    exact ⟨_, _, _, _, _, rfl, .ty _, rp.tyx et, kit_ty (Tn.kit t T hT), q _ H1 lab1 s1 (.refl _ _ _ _) (SV.bl _).vr⟩
def eIsX (hit : Str → Option Bool) (g : List D → ER D) : List D → ER D := fun σ => (g σ).bind fun d σ1 => match d with
  | .exn c _ => ofO ((hit c).map .bl) σ1
  | _ => .stuck
/-- the exception at a, of the class C, and its dict where it has one -/
structure ExAt (X : Cx) (H : Hp) (a C : Addr) (oe : Obj) (dd : Option Addr) : Prop where
  pin : (a, oe) ∈ X.pn
  fields : ∃ vs, oe.data = .fields vs
  zc : Zc (.ref C) dd oe
  dict : ∀ d, dd = some d → ∃ fs, H d = some (.xd fs)
theorem RpE.at_ {H : Hp} {v : V} {c : Str} {p : D} {fp : List Addr} (r : RpE X.K (clX X) H v (.exn c p) fp) : ∃ (a C : Addr) (oe : Obj) (dd : Option Addr), v = .ref a ∧ X.mg c = some (.ref C) ∧ ExAt X H a C oe dd ∧
    match pfOf c with
    | none => p = .non ∧ dd = none ∧ fp = []
    | some f => ∃ d y fq, dd = some d ∧ H d = some (.xd [(f, y)]) ∧ Rp X.K (clX X) H y p fq ∧ fp = d :: fq := by
  have mem : ∀ {a : Addr} {oe : Obj}, X.pn.head? = some (a, oe) → (a, oe) ∈ X.pn := fun {a oe} h => by
    cases e : X.pn with
    | nil => rw [e] at h; cases h
    | cons x l => rw [e] at h; cases h; exact List.mem_cons_self
  cases r with
  | @e0 a c hx hp =>
    obtain ⟨_, oe, vs, C, head, fields, hC, hz⟩ := hx
    refine ⟨a, C, oe, none, rfl, hC, ⟨mem head, ⟨vs, fields⟩, hz, nofun⟩, ?_⟩
    rw [hp]; exact ⟨rfl, rfl, rfl⟩
  | @e1 a d c f y p fq hx hp hd rr =>
    obtain ⟨_, oe, vs, C, head, fields, hC, hz⟩ := hx
    refine ⟨a, C, oe, some d, rfl, hC, ⟨mem head, ⟨vs, fields⟩, hz, fun d' e => by cases e; exact ⟨_, hd⟩⟩, ?_⟩
    rw [hp]; exact ⟨d, y, fq, rfl, hd, rr, rfl⟩
def eMeth (T : String) (f : D → List D → Option D) (g : List D → ER D) (gs : List D → ER (List D)) : List D → ER D := fun σ => (g σ).bind fun d σ1 => if isTy T d = true then (gs σ1).bind fun ds σ2 => ofO (f d ds) σ2 else .stuck
def labsK : Kd → List Lab
  | .own => []
  | .bor R => R
  | .spn R => R
  | .exc R => R
def dCat : D → D → Option D
  | .lst xs, .lst ys => if xs.length + ys.length ≤ sizeLine then some (.lst (xs ++ ys)) else none
  | _, _ => none
def dCatT : D → D → Option D
  | .tup xs, .tup ys => if xs.length + ys.length ≤ sizeLine then some (.tup (xs ++ ys)) else none
  | _, _ => none
/-- what a list holds, however it is held -/
theorem VR.lstE {K : PySem.W.Frag} {cl : CE} {H : Hp} {lab : Labs} {v : V} {ds : List D} {j : Nat} (h : VR K cl H lab k (.tmp j) v (.lst ds)) : ∃ a vs fp, v = .ref a ∧ H a = some (.lst vs) ∧ RpL K cl H vs ds fp ∧ ∀ b ∈ fp, (lab b = .tmp j) ∨ bw (labsK k) (lab b) := by
  cases k with
  | own =>
    obtain ⟨fp, r, nd, l⟩ := h
    cases r with
    | lst h r => exact ⟨_, _, _, rfl, h, r, fun b hb => .inl (l b (List.mem_cons_of_mem _ hb))⟩
  | bor R =>
    obtain ⟨fp, r, l⟩ := h
    cases r with
    | lst h r => exact ⟨_, _, _, rfl, h, r, fun b hb => .inr (l b (List.mem_cons_of_mem _ hb))⟩
  | spn R =>
    obtain ⟨a, vs, ds', fp, rfl, e, ha, r, la, l⟩ := h
    cases e
    exact ⟨a, vs, fp, rfl, ha, r, fun b hb => .inr (l b hb).2⟩
  | exc R => obtain ⟨fp, r, _⟩ := h; cases r
theorem VR.tupE {K : PySem.W.Frag} {cl : CE} {H : Hp} {lab : Labs} {v : V} {ds : List D} {j : Nat} (h : VR K cl H lab k (.tmp j) v (.tup ds)) : ∃ a vs fp, v = .ref a ∧ SqT K H a vs ∧ RpL K cl H vs ds fp ∧ ∀ b ∈ fp, (lab b = .tmp j) ∨ bw (labsK k) (lab b) := by
  cases k with
  | own =>
    obtain ⟨fp, r, nd, l⟩ := h
    cases r with
    | tup h r => exact ⟨_, _, _, rfl, h, r, fun b hb => .inl (l b hb)⟩
  | bor R =>
    obtain ⟨fp, r, l⟩ := h
    cases r with
    | tup h r => exact ⟨_, _, _, rfl, h, r, fun b hb => .inr (l b hb)⟩
  | spn R =>
    obtain ⟨a, vs, ds', fp, rfl, e, ha, r, la, l⟩ := h
    cases e
  | exc R => obtain ⟨fp, r, _⟩ := h; cases r
theorem ej_cat (ha : EJ X W Γx Γ n m1 a ga k) (hb : EJ X W Γx Γ (n + 1) m2 b gb k1) (ok : okK m2 (n + 1) k = true := by decide) : EJ X W Γx Γ n (m1 ++ m2) (.BinOp a .Add b pos) (eBin dCat ga gb) (.spn (labsK k ++ labsK k1)) := by
  refine pe_imp (pe_op op_cat ha hb) fun σ H Q h => ?_
  obtain ⟨σD, lab, g0, s, po⟩ := h
  refine ⟨σD, lab, g0, s, po.seq' fun x σD1 v H1 lab1 s1 p1 r1 po1 => ?_⟩
  refine ⟨σD1, lab1, gok.up g0, s1, po1.seq (SubK.up _ _) (Nat.le_succ _) (SubK.nil _ _) (Nat.le_refl _) fun y σD2 w H2 lab2 s2 p2 r2 po2 => ?_⟩
  have r1 := VR.pres p2 r1 ok (by simp [keepL])
  obtain ⟨z, e, q⟩ := po2.done
  cases x with
  | lst xs => cases y with
    | lst ys =>
      simp only [dCat] at e
      split at e
      · rename_i hz
        cases e
        obtain ⟨l, vs, f1, rfl, h1, l1, b1⟩ := r1.lstE
        obtain ⟨l', ws, f2, rfl, h2, l2, b2⟩ := r2.lstE
        refine ⟨l, l', vs, ws, rfl, rfl, h1, h2, by rw [l1.len, l2.len]; exact hz, fun p hp => ?_⟩
        have P : Pres [] n H2 lab2 (upd H2 p (.lst (vs ++ ws))) (setL (colF n lab2) p (.tmp n)) := Pres.colF.trans (.alloc hp rfl) (SubK.refl _ _) (SubK.refl _ _)
        have ra := l1.append l2
        have ne : ∀ b ∈ f1 ++ f2, b ≠ p := fun b hb e => by
          obtain ⟨o, q, _⟩ := ra.alloc b hb
          rw [e, hp] at q; cases q
        refine q _ _ _ (s2.pres g0 P) P ⟨p, _, _, f1 ++ f2, rfl, rfl, upd_same, ra.ext (TK.new hp) fun b hb => upd_ne (ne b hb), if_pos rfl, fun b hb => ⟨ne b hb, ?_⟩⟩
        show bw _ (if b = p then _ else _)
        rw [if_neg (ne b hb)]
        refine bw_colF ?_
        rcases List.mem_append.mp hb with z | z
        · rcases b1 b z with e | e
          · exact .inl ⟨n, Nat.le_refl _, e⟩
          · exact .inr (e.elim .inl fun z => .inr (List.mem_append_left _ z))
        · rcases b2 b z with e | e
          · exact .inl ⟨n + 1, Nat.le_succ _, e⟩
          · exact .inr (e.elim .inl fun z => .inr (List.mem_append_right _ z))
      · cases e
    | _ => cases e
  | _ => cases y <;> cases e
theorem ej_catT (ha : EJ X W Γx Γ n m1 a ga k) (hb : EJ X W Γx Γ (n + 1) m2 b gb k1) (ok : okK m2 (n + 1) k = true := by decide) : EJ X W Γx Γ n (m1 ++ m2) (.BinOp a .Add b pos) (eBin dCatT ga gb) (.bor (labsK k ++ labsK k1)) := by
  refine pe_imp (pe_op op_catA ha hb) fun σ H Q h => ?_
  obtain ⟨σD, lab, g0, s, po⟩ := h
  refine ⟨σD, lab, g0, s, po.seq' fun x σD1 v H1 lab1 s1 p1 r1 po1 => ?_⟩
  refine ⟨σD1, lab1, gok.up g0, s1, po1.seq (SubK.up _ _) (Nat.le_succ _) (SubK.nil _ _) (Nat.le_refl _) fun y σD2 w H2 lab2 s2 p2 r2 po2 => ?_⟩
  have r1 := VR.pres p2 r1 ok (by simp [keepL])
  obtain ⟨z, e, q⟩ := po2.done
  cases x with
  | tup xs => cases y with
    | tup ys =>
      simp only [dCatT] at e
      split at e
      · rename_i hz
        cases e
        obtain ⟨l, vs, f1, rfl, h1, l1, b1⟩ := r1.tupE
        obtain ⟨l', ws, f2, rfl, h2, l2, b2⟩ := r2.tupE
        have ra := l1.append l2
        have lab' : ∀ b ∈ f1 ++ f2, (∃ j, n ≤ j ∧ lab2 b = .tmp j) ∨ bw (labsK k ++ labsK k1) (lab2 b) := fun b hb => by
          rcases List.mem_append.mp hb with z | z
          · rcases b1 b z with e | e
            · exact .inl ⟨n, Nat.le_refl _, e⟩
            · exact .inr (e.elim .inl fun z => .inr (List.mem_append_left _ z))
          · rcases b2 b z with e | e
            · exact .inl ⟨n + 1, Nat.le_succ _, e⟩
            · exact .inr (e.elim .inl fun z => .inr (List.mem_append_right _ z))
        have P0 : Pres [] n H2 lab2 H2 (colF n lab2) := .colF
        refine ⟨l, l', vs, ws, rfl, rfl, h1, h2, by rw [l1.len, l2.len]; exact hz, fun e => ?_, fun _ e => ?_, fun _ _ p hp => ?_⟩
        · subst e
          refine q _ _ _ (s2.pres g0 P0) P0 ⟨f1 ++ f2, .tup h2 ra, fun b hb => bw_colF (lab' b hb)⟩
        · subst e
          refine q _ _ _ (s2.pres g0 P0) P0 ⟨f1 ++ f2, .tup h1 (by rw [List.append_nil] at ra; exact ra), fun b hb => bw_colF (lab' b hb)⟩
        · have P : Pres [] n H2 lab2 (upd H2 p (.tup (vs ++ ws))) (setL (colF n lab2) p (.tmp n)) := P0.trans (.alloc hp rfl) (SubK.refl _ _) (SubK.refl _ _)
          have ne : ∀ b ∈ f1 ++ f2, b ≠ p := fun b hb e => by
            obtain ⟨o, q, _⟩ := ra.alloc b hb
            rw [e, hp] at q; cases q
          refine q _ _ _ (s2.pres g0 P) P ⟨f1 ++ f2, .tup (.of upd_same) (ra.ext (TK.new hp) fun b hb => upd_ne (ne b hb)), fun b hb => ?_⟩
          show bw _ (if b = p then _ else _)
          rw [if_neg (ne b hb)]
          exact bw_colF (lab' b hb)
      · cases e
    | _ => cases e
  | _ => cases y <;> cases e
end
end Ow


namespace Ow
open PySem PySem.Spec PySem.SeqAt PyProof.Rows L2
section
variable {P : Program} {w : World} {K : PySem.W.Frag} {mg : Str → Option Value} {base : Heap}
/-- a def -/
theorem okF {x qual : Str} {params : Arguments} {body : List Stmt} {scope : Scope} {f : Addr} {fd : FuncData} {N ps : List Str} {lv np nl : Nat} {io m : List Nat} {own : Bool} {G : List D → SO} {Γ' : Ctx} (F : FunD K x qual params body scope [] [] f fd) (S : FnScope N ps scope)
    (hnp : ps.length = np) (hnl : N.length = nl) (hio : io.all (fun i => decide (i < np)) = true) (hpn : np ≤ nl) (hl : leC Γ' (ctxIo nl io) = true)
    (hb : ∀ (cdv : Value) (A : Around) (outer : List Env) (s : Shared) (H : Hp) (E : XK), Room lv (A.deeper (envOfC qual scope s.heap.objs.size f cdv)) →
      BJ (cxOf (L2N.CX P w) P w K mg base N qual scope f cdv A outer s H E) (wOf E) (scOf nl io own) (ctx0 np nl io []) Γ' 0 m body G) :
    FnOk P w K mg base (L2N.CX P w) (lv + 1) f fd ps (spD K (clM mg) np io [] own (fnD nl io G)) := by
  refine F.ok S (fun vs H Q E h => ?_) (fun cdv A outer s H vs Q E hr h => ⟨_, hb cdv A outer s H E hr, ?_⟩)
  · obtain ⟨ds, lab, h1, _⟩ := h
    rw [h1, hnp]
  · exact okD_read (X := cxOf (L2N.CX P w) P w K mg base N qual scope f cdv A outer s H E) (CEq.calm rfl) hnl hio hpn hl h

end
/-- p is handled here -/
structure HotX (X : Cx) (p : Addr × Obj) : Prop where
  c : X.calm = false
  h : X.pn.head? = some p
  o : L2H.Hot1 X.A p
section
variable {X : Cx} {W : WX} {Γx Γ : Ctx} {n lv np : Nat} {m : List Nat} {ks : List AK} {rs io xs : List Nat} {own : Bool} {Fd : List D → FR} {f : Addr} {fd : FuncData} {ps : List Str} {x : Str} {p pos : Pos} {e : Expr} {es : List Expr} {gs : List D → ER (List D)} {pp : Addr × Obj}
theorem HotX.mem (h : HotX X pp) : pp ∈ X.pn := by
  have e := h.h
  cases hl : X.pn with
  | nil => rw [hl] at e; cases e
  | cons y l => rw [hl] at e; cases e; exact List.mem_cons_self
theorem takesN {X : Cx} : L2N.Takes X (fun _ _ _ _ => False) := fun _ _ ⟨_, _, _, _, _, _, _, _, _, _, _, _, _, _, _, _, z⟩ => z.elim
end
end Ow


namespace Ow
open PySem PySem.Spec PySem.SeqAt PyProof.Rows L2
def excAll : List Str := ["NoFraction", "NoSeries", "NoMachine", "Ring", "NoRoom", "NotEven", "NotLean", "Held", "Stopped", "TooFar", "NoGear", "NoDeed", "NoText", "NoSaying", "NoName", "NoBench", "TooMany"]
def excAll2 : List Str := "RollError" :: excAll
def exRel (c c2 : Str) : Bool := c == c2 || c2 == "RollError"
def hitX (c2 : Str) : Str → Option Bool := fun c => if excAll.contains c then some (exRel c c2) else none
def excCB (K : PySem.W.Frag) (D : Addr) : Bool :=
  decide (PySem.W.findIn K (.ref D) "__getattribute__" = some (some (.builtin "BaseException.__getattribute__"))) && (decide (PySem.W.findIn K (.ref D) "__getattr__" = some none) && (decide (PySem.W.subIn K (.ref D) (.type "BaseException") = some true) && (PySem.W.hasDictIn K D && (decide (PySem.W.findIn K (.ref D) "__class__" = some (some (.builtin "object.__class__"))) &&
    (decide (PySem.W.specialIn K (.builtin "object.__class__") "__get__" = some (some (.builtin "getset_descriptor.__get__"))) && (decide (PySem.W.takesIn K (.builtin "object.__class__") = some true) && decide (PySem.W.mroIn K D (.type "object") = some true)))))))
theorem excCB_ok {K : PySem.W.Frag} {D : Addr} (h : excCB K D = true) : ExcC K D := by
  unfold excCB at h
  simp only [Bool.and_eq_true, decide_eq_true_eq] at h
  exact ⟨h.1, h.2.1, h.2.2.1, h.2.2.2.1, h.2.2.2.2.1, h.2.2.2.2.2.1, h.2.2.2.2.2.2.1, h.2.2.2.2.2.2.2⟩
/-- the written part's word on such a class -/
def oexB (K : PySem.W.Frag) (C : Addr) : Bool :=
  (match K.lookup C with
  | some ⟨.type "type", _, .cls cd, sl⟩ => (match cd.mro, sl.toList with
    | .ref D :: up, [_, _, _, _, some (.builtin nw), _] => decide (D = C) && (decide (nw = "ValueError.__new__") && (!cd.hasDel && (cd.hasDict && PySem.HandSPX.refsVE up)))
    | _, _ => false)
  | _ => false) && (decide (PySem.W.findIn K (.ref C) "__setattr__" = some (some (.builtin "object.__setattr__"))) && (decide (PySem.W.subIn K (.ref C) (.type "BaseException") = some true) && (decide (PySem.W.typeIn K (.ref C) = some (.type "type")) && PySem.W.keepIn K (.ref C))))
theorem oexB_ok {K : PySem.W.Frag} {C : Addr} (h : oexB K C = true) : OexC K C := by
  obtain ⟨shape, rest⟩ := Bool.and_eq_true_iff.mp h
  obtain ⟨s1, rest⟩ := Bool.and_eq_true_iff.mp rest
  obtain ⟨s2, rest⟩ := Bool.and_eq_true_iff.mp rest
  obtain ⟨s3, s4⟩ := Bool.and_eq_true_iff.mp rest
  refine ⟨?_, of_decide_eq_true s1, of_decide_eq_true s2, of_decide_eq_true s3, s4⟩
  revert shape
  match K.lookup C with
  | none => exact nofun
  | some ob =>
    intro shape
    split at shape
    case h_2 => cases shape
    case h_1 dd cd sl same =>
      cases same
      split at shape
      case h_2 => cases shape
      case h_1 D up k0 k1 k2 k3 nw k5 mro slots =>
        simp only [Bool.and_eq_true, decide_eq_true_eq, Bool.not_eq_true'] at shape
        obtain ⟨eD, enw, nodel, dict, tail⟩ := shape
        subst eD enw
        cases cd
        cases sl
        simp only at mro nodel dict slots
        subst mro nodel dict slots
        exact ⟨_, _, _, _, _, _, _, _, _, _, _, _, _, _, _, rfl, tail⟩
def raiseB (K : PySem.W.Frag) (C : Addr) : Bool := PySem.W.excIn K C He.veBase "ValueError.__new__" && (PySem.W.keepIn K (.ref C) && (decide (PySem.W.subIn K (.ref C) (.type "BaseException") = some true) && decide (PySem.W.typeIn K (.ref C) = some (.type "type"))))
def pairB (K : PySem.W.Frag) (c : Str) (C : Addr) (c2 : Str) : Bool := match PySem.W.nsIn K mainGlobals c2 with
  | some none => true
  | some (some (.ref C2)) => decide (PySem.W.exmOne K (.ref C) (.ref C2) = some (exRel c c2)) && decide (PySem.W.kitOne K (.ref C) (.ref C2) = some (exRel c c2))
  | _ => false
/-- .. by the field that its exceptions bear -/
def fldB (K : PySem.W.Frag) (C : Addr) : Option Str → Bool
  | none => raiseB K C
  | some f => oexB K C && decide (PySem.W.findIn K (.ref C) f = some none)
def exB (K : PySem.W.Frag) : Bool := excAll.all fun c => match PySem.W.nsIn K mainGlobals c with
  | some none => true
  | some (some (.ref C)) => excCB K C && (decide (PySem.W.kitOne K (.ref C) (.type "ValueError") = some true) && (fldB K C (pfOf c) && excAll2.all (pairB K c C)))
  | _ => false
/-- what is said -/
structure ExFx (K : PySem.W.Frag) (mg : Str → Option Value) : Prop where
  cls : ∀ {c : Str} {C : Addr}, c ∈ excAll → mg c = some (.ref C) → ExcC K C ∧ PySem.W.kitOne K (.ref C) (.type "ValueError") = some true
  rais : ∀ {c : Str} {C : Addr}, c ∈ excAll → pfOf c = none → mg c = some (.ref C) → PySem.W.excIn K C He.veBase "ValueError.__new__" = true ∧ PySem.W.keepIn K (.ref C) = true ∧ PySem.W.subIn K (.ref C) (.type "BaseException") = some true ∧ PySem.W.typeIn K (.ref C) = some (.type "type")
  fld : ∀ {c f : Str} {C : Addr}, c ∈ excAll → pfOf c = some f → mg c = some (.ref C) → OexC K C ∧ PySem.W.findIn K (.ref C) f = some none
  pair : ∀ {c c2 : Str} {C C2 : Addr}, c ∈ excAll → c2 ∈ excAll2 → mg c = some (.ref C) → mg c2 = some (.ref C2) → PySem.W.exmOne K (.ref C) (.ref C2) = some (exRel c c2) ∧ PySem.W.kitOne K (.ref C) (.ref C2) = some (exRel c c2)
theorem ns_ref {K : PySem.W.Frag} {h : Heap} {mg : Str → Option Value} (X : K.In h) (G : h.Ns mainGlobals mg) {c : Str} {C : Addr} (e : mg c = some (.ref C)) (b : match PySem.W.nsIn K mainGlobals c with
  | some none => True
  | some (some (.ref _)) => True
  | _ => False) : PySem.W.nsIn K mainGlobals c = some (some (.ref C)) := by
  cases q : PySem.W.nsIn K mainGlobals c with
  | none => rw [q] at b; exact b.elim
  | some o =>
    cases o with
    | none => rw [PySem.W.mg_none_of X G q] at e; cases e
    | some v => rw [PySem.W.mg_of X G q] at e; rw [Option.some.inj e]
theorem exB_ok {K : PySem.W.Frag} {h : Heap} {mg : Str → Option Value} (X : K.In h) (G : h.Ns mainGlobals mg) (b : exB K = true) : ExFx K mg := by
  have one : ∀ {c : Str} {C : Addr}, c ∈ excAll → mg c = some (.ref C) → excCB K C = true ∧ PySem.W.kitOne K (.ref C) (.type "ValueError") = some true ∧ fldB K C (pfOf c) = true ∧ excAll2.all (pairB K c C) = true := fun {c C} hc e => by
    have h1 := List.all_eq_true.mp b c hc
    have h2 : PySem.W.nsIn K mainGlobals c = some (some (.ref C)) := by
      refine ns_ref X G e ?_
      split at h1
      · trivial
      · trivial
      · cases h1
    rw [h2] at h1
    simp only [Bool.and_eq_true, decide_eq_true_eq] at h1
    exact h1
  refine ⟨fun hc e => ?_, fun {c C} hc hp e => ?_, fun {c f C} hc hp e => ?_, fun {c c2 C C2} hc hc2 e e2 => ?_⟩
  · obtain ⟨h1, h2, _⟩ := one hc e
    exact ⟨excCB_ok h1, h2⟩
  · obtain ⟨_, _, h3, _⟩ := one hc e
    rw [hp] at h3
    have h3 : raiseB K C = true := h3
    unfold raiseB at h3
    simp only [Bool.and_eq_true, decide_eq_true_eq] at h3
    exact ⟨h3.1, h3.2.1, h3.2.2.1, h3.2.2.2⟩
  · obtain ⟨_, _, h3, _⟩ := one hc e
    rw [hp] at h3
    obtain ⟨h4, h5⟩ := Bool.and_eq_true_iff.mp h3
    exact ⟨oexB_ok h4, of_decide_eq_true h5⟩
  · obtain ⟨_, _, _, h4⟩ := one hc e
    have h5 := List.all_eq_true.mp h4 c2 hc2
    unfold pairB at h5
    have h2 : PySem.W.nsIn K mainGlobals c2 = some (some (.ref C2)) := by
      refine ns_ref X G e2 ?_
      split at h5
      · trivial
      · trivial
      · cases h5
    rw [h2] at h5
    simp only [Bool.and_eq_true, decide_eq_true_eq] at h5
    exact h5
theorem hit_mem {c2 c : Str} {b : Bool} (h : hitX c2 c = some b) : c ∈ excAll ∧ b = exRel c c2 := by
  unfold hitX at h
  split at h
  · rename_i z
    exact ⟨by simpa using z, (Option.some.inj h).symm⟩
  · cases h
section
variable {K : PySem.W.Frag} {mg : Str → Option Value}
theorem ExFx.kit (F : ExFx K mg) {c2 : Str} {C2 : Addr} (e2 : mg c2 = some (.ref C2)) (m2 : c2 ∈ excAll2) : ∀ c b C, hitX c2 c = some b → mg c = some (.ref C) → ExcC K C ∧ PySem.W.kitOne K (.ref C) (.ref C2) = some b := fun c b C h e => by
  obtain ⟨h1, rfl⟩ := hit_mem h
  exact ⟨(F.cls h1 e).1, (F.pair h1 m2 e e2).2⟩
end
section
variable {X : Cx} {W : WX} {Z : SC} {Γx Γ Γ' : Ctx} {n : Nat} {m : List Nat} {p p2 pos pos2 : Pos} {a : Expr} {g : List D → ER D} {R : List Lab}
end
end Ow


namespace Ow
open PySem PySem.Spec PySem.SeqAt PyProof.Rows L2
theorem rpl_ints {K : PySem.W.Frag} {cl : CE} {H : Hp} : ∀ ns : List Int, RpL K cl H (ns.map V.int) (ns.map D.int) []
  | [] => .nil
  | n :: ns => .cons (.int n) (rpl_ints ns)
theorem sp_law {K : PySem.W.Frag} {ce : CE} {H : Hp} {a : Addr} {ns : List Int} {own : Bool} {Fd : List D → FR} (hO : Only H) (hS : SqL K H a (ns.map V.int)) (h : ∃ outs, Fd [.fzl (ns.map D.int)] = .ret (.bl true) outs) : spD K ce 1 [] [] own Fd [.ref a] H (fun v _ => v = .bl true) fun _ _ _ => False := by
  obtain ⟨outs, h⟩ := h
  have hF : FzL K H a (ns.map V.int) := by
    rcases hS with (hS | ⟨o, hS⟩) | hS
    · rcases hO a with z | ⟨o, xs, z⟩
      · rw [z] at hS; cases hS
      · rw [z] at hS; cases hS
    · exact .inl ⟨o, hS⟩
    · exact .inr hS
  refine ⟨[.fzl (ns.map D.int)], fun _ => .out, rfl, rfl, fun i v d h1 h2 => ?_, fun _ _ => .inl rfl, ?_⟩
  · cases i with
    | zero =>
      cases h1
      cases h2
      exact ⟨[], .lsf hF (rpl_ints ns), by simp⟩
    | succ i => simp at h1
  · rw [h]
    intro v H' lab' j _ _ r
    have e : VR K ce H' lab' (retK own) (.tmp j) v (.bl true) := r
    exact e.bl
end Ow


namespace Ow
open PySem PySem.Spec PySem.SeqAt PyProof.Rows L2
theorem hu64 {k : Nat} {A : Around} (h : Room k A) : A.units + 64 < cLine := h.units
/-- what is told of the module -/
structure Fax (fa : List He.Fa) (fn : List He.DefD) (K : PySem.W.Frag) (mg : Str → Option Value) : Prop where
  s : He.SaysD fa fn K
  x : ExFx K mg
  glo : ∀ (i : Nat) {x : Str}, fa[i]? = some (.glo x) → mg x = some (.ref (He.ga K x))
  free : ∀ (i : Nat) {x : Str}, fa[i]? = some (.free x) → mg x = none
/-- a def, by its name -/
structure Fnc (P : Program) (w : World) (K : PySem.W.Frag) (mg : Str → Option Value) (base : Heap) (x : Str) (lv np : Nat) (io : List Nat) (own : Bool) (Fd : List D → FR) : Prop where
  ex : ∃ f fd ps, FnOk P w K mg base (L2N.CX P w) lv f fd ps (spD K (clM mg) np io [] own Fd) ∧ mg x = some (.ref f) ∧ PySem.W.keepIn K (.ref f) = true ∧ Binds K fd ps []
section
variable {X : Cx} {W : WX} {Z : SC} {Γx Γ Γ' Γ1 Γ2 : Ctx} {n lv np : Nat} {m m1 m2 : List Nat} {ks : List AK} {rs io xs : List Nat} {own : Bool} {Fd : List D → FR} {x : Str} {p pos : Pos} {e : Expr} {es : List Expr} {gs : List D → ER (List D)} {pp : Addr × Obj}
theorem ej_callC (F : Fnc X.prog X.w X.K X.mg X.base x lv np io own Fd) (hc : X.calm = true) (hr : Room lv X.A) (tk : L2N.Takes X W)
    (ha : AJ X W Γx Γ n m (e :: es) gs ks) (c : CallOk Γ Γx n np io [] ks rs) (hg : Gl X x := by rfl) (hdb : (x == ("__debug__" : Str)) = false := by decide) (he : starEach (e :: es) X.env = (false, eval e X.env) :: starEach es X.env := by rfl) (hpl : (backTo pos (starEach es X.env)).any (·.1) = false := by rfl) :
    EJ X W Γx Γ n (m ++ rs) (.Call (.Name x p) (e :: es) [] pos) (eCall Fd rs gs) (callK own ks) := by
  obtain ⟨f, fd, ps, h1, h2, h3, h4⟩ := F.ex
  exact ej_call h1 hc hr h2 h3 h4 tk ha c hg hdb he hpl
theorem sj_pre {st : Stmt} {G : List D → SO} (h : SJ X W Z Γ1 Γ2 n m st G) (l : leC Γ Γ1 = true := by decide) (g : gok Γ1 n = true := by decide) : SJ X W Z Γ Γ2 n m st G := ps_imp h fun E σ H hh => by
  obtain ⟨σD, lab, fx, g0, s, po⟩ := hh
  exact ⟨σD, lab, fx, g, ⟨s.s.weak l, s.f⟩, po⟩
/-- a, b, .. = e -/
def sUnp (T : Tg) (g : List D → ER D) : List D → SO := sOf g fun d σ => match bindT T d σ with
  | some σ1 => .nxt σ1
  | none => .stuck
theorem sj_unp {tg : Expr} {T : Tg} {g : List D → ER D} {R : List Lab} (he : EJ X W Z.Γx Γ n m e g (.bor R)) (hg : PG X tg (tgR X.K T)) (hR : R.all (keepL [] n) = true := by decide) (ht : tgOk T X.N.length Z.io = true := by rfl)
    (hs : swapsWithSole [tg] e pos.line X.env = pure false := by rfl) (hw : swappedStores [tg] e X.env = pure none := by rfl) (h1 : (assignEach [tg] X.env).map (·.2) = [assign tg X.env] := by rfl) :
    SJ X W Z Γ (tgC Γ T R) n (m ++ T.slots) (.Assign [tg] e pos) (sUnp T g) := by
  refine ps_imp (ps_asg he hg hs hw h1) fun E σ H hh => ?_
  obtain ⟨σD, lab, fx, g0, s, po⟩ := hh
  refine sof_imp (fun _ _ _ q => q) g0 s po fun d σD1 v H1 lab1 s1 p1 r1 po1 => ?_
  have hts : ∀ i ∈ T.slots, i < X.N.length ∧ i ∉ Z.io := fun i hi => by
    have := List.all_eq_true.mp ht i hi
    simpa using this
  cases eb : bindT T d σD1 with
  | none => rw [eb] at po1; exact po1.elim
  | some σD2 =>
    rw [eb] at po1
    exact tg_ok s1 g0 hR hts r1 eb fun σ3 lab3 s3 g3 p3 => po1 σ3 H1 lab3 s3 p3
end
section
variable {P : Program} {w : World} {K : PySem.W.Frag} {mg : Str → Option Value} {base : Heap}
/-- a def by its datum -/
theorem fnc_of {fa : List He.Fa} {fn : List He.DefD} (c : Fax fa fn K mg) (i j : Nat) {x : Str} {params : Arguments} {body : List Stmt} {scope : Scope} {N ps : List Str} {lv np nl : Nat} {io m : List Nat} {own : Bool} {G : List D → SO} {Γ' : Ctx}
    (hd : fn[i]? = some ⟨(x, none), x, x, params, body, scope, [], []⟩) (hj : fa[j]? = some (.glo x)) (S : FnScope N ps scope) (hnp : ps.length = np) (hnl : N.length = nl) (hio : io.all (fun i => decide (i < np)) = true) (hpn : np ≤ nl) (hl : leC Γ' (ctxIo nl io) = true)
    (hbd : ∀ (kV doc pm : Value) (an : Option Addr) (cdv ct : Value) (us : List Value), us.length = ps.length → bindArgs (PySem.W.fnOf x x params body scope .none kV doc pm an cdv ct) ⟨us, []⟩ = pure (ps.zip us))
    (hb : ∀ (cdv : Value) (A : Around) (outer : List Env) (s : Shared) (H : Hp) (E : XK), Room lv (A.deeper (envOfC x scope s.heap.objs.size (He.fAd K (x, none)) cdv)) →
      BJ (cxOf (L2N.CX P w) P w K mg base N x scope (He.fAd K (x, none)) cdv A outer s H E) (wOf E) (scOf nl io own) (ctx0 np nl io []) Γ' 0 m body G) :
    Fnc P w K mg base x (lv + 1) np io own (fnD nl io G) := by
  obtain ⟨fd, F⟩ := c.s.def_ i hd
  exact ⟨He.fAd K (x, none), fd, ps, okF F S hnp hnl hio hpn hl hb, c.glo j hj, F.kp, FunD.bindsN F hbd⟩
end
section
variable {P : Program} {w : World} {K : PySem.W.Frag} {mg : Str → Option Value}
end
/-- what a def's body may let out; that it lets pass -/
theorem takes_c {P : Program} {w : World} {K : PySem.W.Frag} {mg : Str → Option Value} {base : Heap} {N : List Str} {q : Str} {sc : Scope} {f : Addr} {cdv : Value} {A : Around} {outer : List Env} {s : Shared} {H : Hp} {E : XK} :
    L2N.Takes (cxOf (L2N.CX P w) P w K mg base N q sc f cdv A outer s H E) (wOf E) := L2N.takes_of rfl rfl rfl rfl
theorem passes_c {P : Program} {w : World} {K : PySem.W.Frag} {mg : Str → Option Value} {base : Heap} {N : List Str} {q : Str} {sc : Scope} {f : Addr} {cdv : Value} {A : Around} {outer : List Env} {s : Shared} {H : Hp} {E : XK} :
    PassesOwn (model P w) (cxOf (L2N.CX P w) P w K mg base N q sc f cdv A outer s H E).A (cxOf (L2N.CX P w) P w K mg base N q sc f cdv A outer s H E).env (cxOf (L2N.CX P w) P w K mg base N q sc f cdv A outer s H E).xe := passes_of (X := cxOf (L2N.CX P w) P w K mg base N q sc f cdv A outer s H E) rfl
end Ow
namespace Ow
open PySem PySem.Spec PySem.SeqAt PyProof.Rows L2
end Ow


namespace Ow
open PySem PySem.Spec PyProof.Rows L2
def wipeC (Γ : Ctx) : List Nat → Ctx
  | [] => Γ
  | v :: vs => (wipeC Γ vs).set v none
theorem wipeC_at {Γ : Ctx} {i : Nat} {k : Kd} : ∀ {vs : List Nat}, (wipeC Γ vs)[i]? = some (some k) → Γ[i]? = some (some k) ∧ i ∉ vs
  | [], h => ⟨h, by simp⟩
  | v :: vs, h => by
    unfold wipeC at h
    by_cases hi : v = i
    · subst hi
      by_cases hv : v < (wipeC Γ vs).length
      · rw [List.getElem?_set_self hv] at h; cases h
      · rw [List.getElem?_eq_none (by simpa using hv)] at h; cases h
    · rw [List.getElem?_set_ne hi] at h
      obtain ⟨h1, h2⟩ := wipeC_at h
      exact ⟨h1, by simp only [List.mem_cons, not_or]; exact ⟨fun e => hi e.symm, h2⟩⟩
theorem wipeC_out {Γ : Ctx} {i : Nat} : ∀ {vs : List Nat}, i ∉ vs → (wipeC Γ vs)[i]? = Γ[i]?
  | [], _ => rfl
  | v :: vs, h => by
    simp only [List.mem_cons, not_or] at h
    unfold wipeC
    rw [List.getElem?_set_ne (fun e => h.1 e.symm)]
    exact wipeC_out h.2
theorem wipe_get {σ : St} {i : Nat} : ∀ {vs : List Nat}, i ∉ vs → (wipe σ vs)[i]? = σ[i]?
  | [], _ => rfl
  | v :: vs, h => by
    simp only [List.mem_cons, not_or] at h
    unfold wipe
    rw [List.getElem?_set_ne (fun e => h.1 e.symm)]
    exact wipe_get h.2
theorem wipe_in {σ : St} {i : Nat} : ∀ {vs : List Nat}, i ∈ vs → i < σ.length → (wipe σ vs)[i]? = some none
  | [], h, _ => by simp at h
  | v :: vs, h, hl => by
    unfold wipe
    by_cases e : v = i
    · subst e; rw [List.getElem?_set_self (by rw [wipe_length]; exact hl)]
    · rw [List.getElem?_set_ne e]
      exact wipe_in ((List.mem_cons.mp h).resolve_left fun z => e z.symm) hl
theorem wipe_eq {σ σ' : St} {vs : List Nat} (hl : σ'.length = σ.length) (h : ∀ i, i ∉ vs → σ'[i]? = σ[i]?) : wipe σ' vs = wipe σ vs := by
  refine List.ext_getElem? fun i => ?_
  by_cases hi : i ∈ vs
  · by_cases z : i < σ.length
    · rw [wipe_in hi z, wipe_in hi (by omega)]
    · rw [List.getElem?_eq_none (by rw [wipe_length]; omega), List.getElem?_eq_none (by rw [wipe_length]; omega)]
  · rw [wipe_get hi, wipe_get hi, h i hi]
theorem wipe_wipe {σ : St} {vs : List Nat} : wipe (wipe σ vs) vs = wipe σ vs := wipe_eq (wipe_length _ _) fun i hi => wipe_get hi
section
variable {X X' : Cx} {W : WX} {Γx Γ Γ' : Ctx} {n : Nat} {m m1 m2 mt me : List Nat} {σ : St} {H : Hp} {lab : Labs} {σD : List D} {pos : Pos} {R R2 : List Lab} {fx : Nat → V} {io vs : List Nat}
theorem SR.wipe (s : SR X Γ σ H lab σD) : SR X (wipeC Γ vs) (wipe σ vs) H lab σD := ⟨by rw [wipe_length]; exact s.l1, s.l2, fun i k e => by
  obtain ⟨e1, ne⟩ := wipeC_at e
  obtain ⟨v, d, a, b, c⟩ := s.at_ i k e1
  exact ⟨v, d, (wipe_get ne).trans a, b, c⟩⟩
theorem gok.wipe (g : gok Γ n = true) : gok (wipeC Γ vs) n = true := List.all_eq_true.mpr fun o ho => by
  obtain ⟨i, hi⟩ := List.mem_iff_getElem?.mp ho
  cases o with
  | none => rfl
  | some k => exact gok.at_ g (wipeC_at hi).1
/-- targets: what else stays -/
theorem puts_ok' : ∀ (is : List Nat) {vs : List V} {ds : List D} {Γ : Ctx} {σ : St} {lab : Labs} {σD σD' : List D} {R : List Lab} {Q : St → Hp → Prop}, SRx X io fx Γ σ H lab σD → gok Γ n = true → R.all (keepL [] n) = true → (∀ i ∈ is, i < X.N.length ∧ i ∉ io) → vs.length = ds.length →
    (∀ (j : Nat) v d, vs[j]? = some v → ds[j]? = some d → VR X.K (clX X) H lab (.bor R) (.tmp n) v d) → setMany is ds σD = some σD' →
    (∀ σ' lab', SRx X io fx (putsC Γ is R) σ' H lab' σD' → gok (putsC Γ is R) n = true → Pres is n H lab H lab' → σ'.length = σ.length → (∀ i, i ∉ is → σ'[i]? = σ[i]?) → Q σ' H) → tgs is vs σ H Q
  | [], vs, ds, Γ, σ, lab, σD, σD', R, Q, s, g, ok, hi, hl, hv, e, k => by
    cases ds with
    | nil =>
      cases vs with
      | nil => cases e; exact ⟨rfl, k σ lab s g (.refl _ _ _ _) rfl fun _ _ => rfl⟩
      | cons v vs => cases hl
    | cons d ds => cases e
  | i :: is, vs, ds, Γ, σ, lab, σD, σD', R, Q, s, g, ok, hi, hl, hv, e, k => by
    cases ds with
    | nil => cases e
    | cons d ds =>
      cases vs with
      | nil => cases hl
      | cons v vs =>
        have r0 := hv 0 v d rfl rfl
        obtain ⟨h1, h2⟩ := hi i List.mem_cons_self
        refine ⟨v, vs, rfl, puts_ok' is (R := dropL i R) (s.put g h1 h2 r0 ok) (gok_put g ok) (dropL_ok ok) (fun j hj => hi j (List.mem_cons_of_mem _ hj)) (by simpa using hl) (fun j w x a b => ?_) e fun σ' lab' s' g' p l' q' => ?_⟩
        · exact (hv (j + 1) w x (by simpa using a) (by simpa using b)).bor_put ok
        · refine k σ' lab' s' g' (Pres.trans (m1 := [i]) (n1 := n) (m2 := is) (n2 := n) .put p (.of (fun q hq => by simp at hq; simp [hq]) (Nat.le_refl _)) (.of (fun q hq => List.mem_cons_of_mem _ hq) (Nat.le_refl _))) (by rw [l', List.length_set]) fun j hj => ?_
          simp only [List.mem_cons, not_or] at hj
          rw [q' j hj.2, List.getElem?_set_ne (fun z => hj.1 z.symm)]
theorem tg_ok' {T : Tg} {v : V} {d : D} {σD' : List D} {Q : St → Hp → Prop} (s : SRx X io fx Γ σ H lab σD) (g : gok Γ n = true) (ok : R.all (keepL [] n) = true) (hi : ∀ i ∈ T.slots, i < X.N.length ∧ i ∉ io) (r : VR X.K (clX X) H lab (.bor R) (.tmp n) v d) (e : bindT T d σD = some σD')
    (k : ∀ σ' lab', SRx X io fx (tgC Γ T R) σ' H lab' σD' → gok (tgC Γ T R) n = true → Pres T.slots n H lab H lab' → σ'.length = σ.length → (∀ i, i ∉ T.slots → σ'[i]? = σ[i]?) → Q σ' H) : tgR X.K T v σ H Q := by
  cases T with
  | nm i =>
    cases e
    obtain ⟨h1, h2⟩ := hi i List.mem_cons_self
    exact k _ _ (s.put g h1 h2 r ok) (gok_put g ok) .put (by rw [List.length_set]) fun j hj => List.getElem?_set_ne fun z => hj (by rw [← z]; exact List.mem_cons_self)
  | tp is =>
    cases d with
    | tup ds =>
      obtain ⟨fp, rp, l⟩ := r
      cases rp with
      | tup h rl =>
        rename_i a vs
        have hlen : ∀ (is : List Nat) (ds σ0 σ1 : List D), setMany is ds σ0 = some σ1 → ds.length = is.length := by
          intro is
          induction is with
          | nil => intro ds σ0 σ1 e; cases ds with | nil => rfl | cons _ _ => cases e
          | cons i is ih => intro ds σ0 σ1 e; cases ds with | nil => cases e | cons d ds => simp [ih ds _ _ e]
        refine ⟨a, vs, rfl, h, by rw [rl.len, hlen is ds _ _ e], puts_ok' is s g ok hi rl.len (fun j v x a b => ?_) e k⟩
        obtain ⟨w, f, e1, e2, e3⟩ := rl.get b
        rw [a] at e1
        cases e1
        exact ⟨f, e2, fun y hy => l y (e3.subset hy)⟩
    | _ => cases e
abbrev WF : WX := fun _ _ _ _ => False
theorem rdE_like (L : Like X X') {k : Kd} {g : List D → ER D} (hn : noX Γ = true) (hk : ∀ R, k ≠ .exc R) {Q : VK} (h : rdE X WF [] Γ n m k g σ H Q) : rdE X' WF [] Γ n m k g σ H Q := by
  obtain ⟨σD, lab, g0, s, po⟩ := h
  refine ⟨σD, lab, g0, s.like L hn, ?_⟩
  cases e : g σD with
  | stuck => rw [e] at po; exact po
  | ok a σ1 =>
    rw [e] at po
    exact fun b H' lab' s' p' r' => po b H' lab' (s'.like L.symm hn) p' (L.symm.vr r' hk)
  | exc c p σ1 =>
    rw [e] at po
    exact fun H' lab' C dd hc s' p' py => po H' lab' C dd (by rw [← L.mg]; exact hc) (s'.like L.symm rfl) p' (py.like L.symm)
theorem rdT_like (L : Like X X') {g : List D → ER Bool} (hn : noX Γ = true) {Q : Bool → Hp → Prop} (h : rdT X WF [] Γ n m g σ H Q) : rdT X' WF [] Γ n m g σ H Q := by
  obtain ⟨σD, lab, g0, s, po⟩ := h
  refine ⟨σD, lab, g0, s.like L hn, ?_⟩
  cases e : g σD with
  | stuck => rw [e] at po; exact po
  | ok a σ1 =>
    rw [e] at po
    exact fun b H' lab' s' p' r' => po b H' lab' (s'.like L.symm hn) p' r'
  | exc c p σ1 =>
    rw [e] at po
    exact fun H' lab' C dd hc s' p' py => po H' lab' C dd (by rw [← L.mg]; exact hc) (s'.like L.symm rfl) p' (py.like L.symm)
/-- a clause's tests -/
def PTsJ (X : Cx) (Γ : Ctx) (n : Nat) (m : List Nat) (ifs : List Expr) (g : List D → ER Bool) : Prop := PTs X ifs (rdT X WF [] Γ n m g)
def tYesD : List D → ER Bool := fun σ => .ok true σ
theorem ptj_nil : PTsJ X Γ n [] [] tYesD := ⟨fun pins s σ H Q I h => pts_nil.run pins s σ H Q I (by
  obtain ⟨σD, lab, g0, sr, po⟩ := h
  exact po true H lab sr (.refl _ _ _ _) rfl)⟩
def lcL (T : Tg) (gt : List D → ER Bool) (ge : List D → ER D) : List D → List D → List D → ER (List D)
  | [], acc, σ => .ok acc σ
  | d :: ds, acc, σ => match bindT T d σ with
    | none => .stuck
    | some σ1 => match gt σ1 with
      | .ok b σ2 => if b = true then (match ge σ2 with
          | .ok v σ3 => lcL T gt ge ds (acc ++ [v]) σ3
          | _ => .stuck) else lcL T gt ge ds acc σ2
      | _ => .stuck
def restV (vr : List Nat) (σ1 σ2 : List D) : List D := vr.foldr (fun i s => s.set i (σ1.getD i .non)) σ2
def eLc (T : Tg) (vr : List Nat) (gi : List D → ER (List D)) (gt : List D → ER Bool) (ge : List D → ER D) : List D → ER D := fun σ => (gi σ).bind fun ds σ1 =>
  if ds.length ≤ sizeLine ∧ vr.all (fun i => (σ1.getD i .non).flat) = true then (match lcL T gt ge ds [] σ1 with
    | .ok acc σ2 => .ok (.lst acc) (restV vr σ1 σ2)
    | _ => .stuck) else .stuck
theorem restV_len {σ1 σ2 : List D} : ∀ {vr : List Nat}, (restV vr σ1 σ2).length = σ2.length
  | [] => rfl
  | v :: vr => by
    show ((restV vr σ1 σ2).set v _).length = _
    rw [List.length_set]; exact restV_len
theorem restV_out {σ1 σ2 : List D} {i : Nat} : ∀ {vr : List Nat}, i ∉ vr → (restV vr σ1 σ2)[i]? = σ2[i]?
  | [], _ => rfl
  | v :: vr, h => by
    simp only [List.mem_cons, not_or] at h
    show ((restV vr σ1 σ2).set v _)[i]? = _
    rw [List.getElem?_set_ne (fun z => h.1 z.symm)]; exact restV_out h.2
theorem restV_in {σ1 σ2 : List D} {i : Nat} : ∀ {vr : List Nat}, i ∈ vr → i < σ2.length → (restV vr σ1 σ2)[i]? = some (σ1.getD i .non)
  | [], h, _ => by simp at h
  | v :: vr, h, hl => by
    show ((restV vr σ1 σ2).set v _)[i]? = _
    by_cases e : v = i
    · subst e; rw [List.getElem?_set_self (by rw [restV_len]; exact hl)]
    · rw [List.getElem?_set_ne e]
      exact restV_in ((List.mem_cons.mp h).resolve_left fun z => e z.symm) hl
/-- the block's own names: dead outside, or flat and set back -/
def vrOk (Γ : Ctx) (vs vr : List Nat) : Bool := (vr.all (vs.contains ·)) && vs.all fun i => match Γ[i]? with
  | some (some .own) => vr.contains i
  | some (some _) => false
  | _ => !vr.contains i
/-- what the list's items are held as, the list -/
def lstK : Kd → Kd
  | .own => .own
  | .bor R => .spn R
  | .spn R => .spn R
  | .exc R => .spn R
def okEl : Kd → Bool
  | .own => true
  | .bor _ => true
  | _ => false
theorem VR.app {K : PySem.W.Frag} {cl : CE} {k : Kd} {a : Addr} {ds : List D} {v : V} {d : D} (hk : okEl k = true) (h : VR K cl H lab (lstK k) (.tmp (n + 1)) (.ref a) (.lst ds)) (r : VR K cl H lab k (.tmp (n + 2)) v d) (ok : okK [] (n + 1) k = true) :
    ∃ acc, H a = some (.lst acc) ∧ acc.length = ds.length ∧ lab a = .tmp (n + 1) ∧ ∃ lab', (∀ m, Pres m (n + 1) H lab (upd H a (.lst (acc ++ [v]))) lab') ∧ VR K cl (upd H a (.lst (acc ++ [v]))) lab' (lstK k) (.tmp (n + 1)) (.ref a) (.lst (ds ++ [d])) := by
  cases k with
  | own =>
    obtain ⟨fp, rp, nd, l⟩ := h
    cases rp with
    | lst ha rl =>
      rename_i acc fp
      obtain ⟨fq, rq, nq, lq⟩ := r
      rw [List.nodup_cons] at nd
      have la : lab a = .tmp (n + 1) := l a List.mem_cons_self
      have dj : ∀ b ∈ fq, b ∉ a :: fp := fun b hb z => by
        have e1 := lq b hb
        have e2 := l b z
        rw [e1] at e2
        cases e2
      have da : a ∉ fq := fun z => dj a z List.mem_cons_self
      refine ⟨acc, ha, rl.len, la, fun b => if lab b = .tmp (n + 2) then .tmp (n + 1) else lab b, fun m => ?_, ?_⟩
      · refine Pres.trans (m1 := m) (n1 := n + 1) (m2 := m) (n2 := n + 1) (Pres.mut (m := m) (n := n + 1) ha True.intro (by rw [la]; simp [keepL])) (.relab (fun b hb => ?_) fun b hb => ?_) (SubK.refl _ _) (SubK.refl _ _)
        · exact if_neg fun z => by rw [z] at hb; simp [keepL] at hb
        · by_cases z : lab b = .tmp (n + 2)
          · rw [if_pos z] at hb; cases hb
          · rw [if_neg z]
      · have r1 := rl.disj (o := .lst (acc ++ [v])) (fun z => nd.1 z) ⟨_, ha, True.intro⟩
        have r2 := rq.disj (o := .lst (acc ++ [v])) da ⟨_, ha, True.intro⟩
        refine ⟨a :: (fp ++ fq), .lst (upd_same ..) (r1.append (RpL.one r2)), ?_, fun b hb => ?_⟩
        · rw [List.nodup_cons, List.nodup_append, List.mem_append]
          exact ⟨fun z => z.elim nd.1 da, nd.2, nq, fun x hx y hy e => dj y hy (e ▸ List.mem_cons_of_mem _ hx)⟩
        · dsimp only
          by_cases z : lab b = .tmp (n + 2)
          · rw [if_pos z]
          · rw [if_neg z]
            rcases List.mem_cons.mp hb with q | q
            · rw [q]; exact la
            · rcases List.mem_append.mp q with q | q
              · exact l b (List.mem_cons_of_mem _ q)
              · exact absurd (lq b q) z
  | bor R =>
    obtain ⟨a', acc, ds', fp, ea, ed, ha, rl, la, l⟩ := h
    cases ea; cases ed
    obtain ⟨fq, rq, lq⟩ := r
    have da : ∀ b ∈ fq, b ≠ a := fun b hb z => by
      have e1 := lq b hb
      rw [z, la] at e1
      rcases e1 with e1 | e1
      · cases e1
      · have := List.all_eq_true.mp ok _ e1
        simp [keepL] at this
    refine ⟨acc, ha, rl.len, la, lab, fun m => .mut ha True.intro (by rw [la]; simp [keepL]), ?_⟩
    have r1 := rl.disj (o := .lst (acc ++ [v])) (fun z => (l a z).1 rfl) ⟨_, ha, True.intro⟩
    have r2 := rq.disj (o := .lst (acc ++ [v])) (fun z => da a z rfl) ⟨_, ha, True.intro⟩
    exact ⟨a, _, _, fp ++ fq, rfl, rfl, upd_same .., r1.append (RpL.one r2), la, fun b hb => (List.mem_append.mp hb).elim (l b) fun q => ⟨da b q, lq b q⟩⟩
  | _ => cases hk
theorem okK_lst {k : Kd} (h : okK m n k = true) : okK m n (lstK k) = true := by cases k <;> exact h
theorem VR.newL {K : PySem.W.Frag} {cl : CE} {k : Kd} {a : Addr} {t : Lab} (h : H a = some (.lst [])) (l : lab a = t) : VR K cl H lab (lstK k) t (.ref a) (.lst []) := by
  cases k with
  | own => exact ⟨[a], .lst h .nil, by simp, fun b hb => by rw [List.mem_singleton.mp hb]; exact l⟩
  | _ => exact ⟨a, [], [], [], rfl, rfl, h, .nil, l, by simp⟩
theorem VR.colT' {K : PySem.W.Frag} {cl : CE} {k : Kd} {v : V} {d : D} (h : VR K cl H lab (lstK k) (.tmp (n + 1)) v d) (ok : okK [] n k = true) : VR K cl H (colT n lab) (lstK k) (.tmp n) v d := by
  have kb : ∀ {R : List Lab} {b : Addr}, R.all (keepL [] n) = true → bw R (lab b) → bw R (colT n lab b) := fun hR hb => by
    rw [colT_keep (m := []) (bw_keep hR hb)]; exact hb
  have e1 : ∀ {b : Addr}, lab b = .tmp (n + 1) → colT n lab b = .tmp n := fun e => colT_tmp e (by omega)
  cases k with
  | own =>
    obtain ⟨fp, r, nd, l⟩ := h
    exact ⟨fp, r, nd, fun a ha => e1 (l a ha)⟩
  | bor R =>
    obtain ⟨a, vs, ds, fp, rfl, rfl, ha, r, la, l⟩ := h
    exact ⟨a, vs, ds, fp, rfl, rfl, ha, r, e1 la, fun b hb => ⟨(l b hb).1, kb ok (l b hb).2⟩⟩
  | spn R =>
    obtain ⟨a, vs, ds, fp, rfl, rfl, ha, r, la, l⟩ := h
    exact ⟨a, vs, ds, fp, rfl, rfl, ha, r, e1 la, fun b hb => ⟨(l b hb).1, kb ok (l b hb).2⟩⟩
  | exc R =>
    obtain ⟨a, vs, ds, fp, rfl, rfl, ha, r, la, l⟩ := h
    exact ⟨a, vs, ds, fp, rfl, rfl, ha, r, e1 la, fun b hb => ⟨(l b hb).1, kb ok (l b hb).2⟩⟩
/-- the reading of a comprehension -/
theorem lc_imp {T : Tg} {vr : List Nat} {gi : List D → ER (List D)} {gt : List D → ER Bool} {ge : List D → ER D} {k : Kd} {Q : VK} (hk : okEl k = true) (hv : vrOk Γ vs vr = true) (hT : T.slots.all (fun i => vs.contains i && decide (i < X.N.length)) = true) (hR : R.all (keepL (T.slots ++ (mt ++ me)) (n + 1)) = true)
    (ok : okK (T.slots ++ (mt ++ me)) n k = true) (hle : leC Γ' (wipeC Γ vs) = true) (hle2 : leC (tgC (wipeC Γ vs) T R) Γ' = true) (gb : gok Γ' (n + 2) = true) (h : rdE X W Γx Γ n (m1 ++ (T.slots ++ (mt ++ me))) (lstK k) (eLc T vr gi gt ge) σ H Q) :
    tLc (rdI X W Γx Γ n m1 R gi) (tgR X.K T) (rdT X WF [] Γ' (n + 2) mt gt) (rdE X WF [] Γ' (n + 2) me k ge) vs σ H Q := by
  obtain ⟨σD, lab, g0, s, po⟩ := h
  refine ⟨σD, lab, g0, s, po.seq' fun ds σ1 J H1 lab1 s1 p1 it po1 => ?_⟩
  have it : IterOk X n R J ds H1 lab1 := it
  have hc : ds.length ≤ sizeLine ∧ vr.all (fun i => (σ1.getD i .non).flat) = true := by
    refine Decidable.byContradiction fun hc => ?_
    rw [if_neg hc] at po1; exact po1.elim
  rw [if_pos hc] at po1
  cases e : lcL T gt ge ds [] σ1 with
  | stuck => rw [e] at po1; exact po1.elim
  | exc _ _ _ => rw [e] at po1; exact po1.elim
  | ok accF σF =>
  rw [e] at po1
  intro A hA
  have sub1 : SubK (T.slots ++ (mt ++ me)) (n + 1) T.slots (n + 2) := (SubK.left _ _ _).trans (SubK.up _ _)
  have subt : SubK (T.slots ++ (mt ++ me)) (n + 1) mt (n + 2) := ((SubK.right _ _ _).trans (SubK.left _ _ _)).trans (SubK.up _ _)
  have sube : SubK (T.slots ++ (mt ++ me)) (n + 1) me (n + 2) := ((SubK.right _ _ _).trans (SubK.right _ _ _)).trans (SubK.up _ _)
  have kup : ∀ {M : List Nat} {q : Nat} {l : Lab}, keepL M q l = true → keepL [] q l = true := fun {M q l} z => by
    cases l <;> simp_all [keepL]
  have R1 : R.all (keepL [] (n + 1)) = true := List.all_eq_true.mpr fun l hl => kup (List.all_eq_true.mp hR l hl)
  have R2 : R.all (keepL [] (n + 2)) = true := List.all_eq_true.mpr fun l hl => keepL.up (List.all_eq_true.mp R1 l hl)
  have okup : ∀ {M : List Nat} {q : Nat}, okK M q k = true → okK [] q k = true := fun {M q} z => by
    cases k with
    | own => rfl
    | bor R => exact List.all_eq_true.mpr fun l hl => kup (List.all_eq_true.mp z l hl)
    | spn R => exact List.all_eq_true.mpr fun l hl => kup (List.all_eq_true.mp z l hl)
    | exc R => exact List.all_eq_true.mpr fun l hl => kup (List.all_eq_true.mp z l hl)
  have gw1 : gok (wipeC Γ vs) (n + 1) = true := gok.up (gok.wipe g0)
  have gw2 : gok (wipeC Γ vs) (n + 2) = true := gok.up gw1
  have hvs : ∀ i, i ∈ T.slots → i ∈ vs ∧ i < X.N.length := fun i hi => by
    have := List.all_eq_true.mp hT i hi
    simpa using this
  -- what the list at A is, when others are left
  have kA : ∀ {M : List Nat} {H2 H3 : Hp} {lab2 lab3 : Labs} {xs : List D}, Pres M (n + 2) H2 lab2 H3 lab3 → okK M (n + 2) k = true → VR X.K (clX X) H2 lab2 (lstK k) (.tmp (n + 1)) (.ref A) (.lst xs) → VR X.K (clX X) H3 lab3 (lstK k) (.tmp (n + 1)) (.ref A) (.lst xs) := fun p q v => v.pres p (okK_lst q) (by simp [keepL])
  have okM : ∀ {M : List Nat}, (∀ i ∈ M, i ∈ T.slots ++ (mt ++ me)) → okK M (n + 2) k = true := fun {M} hM => by
    have key : ∀ {l : Lab}, keepL (T.slots ++ (mt ++ me)) n l = true → keepL M (n + 2) l = true := fun {l} z => by
      have := (SubK.of hM (Nat.le_refl n)) l z
      exact keepL.up (keepL.up this)
    cases k with
    | own => rfl
    | bor R => exact List.all_eq_true.mpr fun l hl => key (List.all_eq_true.mp ok l hl)
    | spn R => exact List.all_eq_true.mpr fun l hl => key (List.all_eq_true.mp ok l hl)
    | exc R => exact List.all_eq_true.mpr fun l hl => key (List.all_eq_true.mp ok l hl)
  let St' : Nat → Hp → Prop := fun i H => ∃ σD' lab' accD, VR X.K (clX X) H lab' (lstK k) (.tmp (n + 1)) (.ref A) (.lst accD) ∧ accD.length ≤ i ∧ SR X (wipeC Γ vs) (wipe σ vs) H lab' σD' ∧ Pres (T.slots ++ (mt ++ me)) (n + 1) H1 lab1 H lab' ∧ lcL T gt ge (ds.drop i) accD σD' = .ok accF σF
  have pA : Pres [] (n + 1) H1 lab1 (upd H1 A (.lst [])) (setL lab1 A (.tmp (n + 1))) := .alloc hA rfl
  have pA' : Pres (T.slots ++ (mt ++ me)) (n + 1) H1 lab1 (upd H1 A (.lst [])) (setL lab1 A (.tmp (n + 1))) := .alloc hA rfl
  refine ⟨fun i m H => m = ds.length - i ∧ i ≤ ds.length ∧ St' i H, ⟨ds.length, by simp, Nat.zero_le _, σ1, _, [], VR.newL (upd_same ..) (if_pos rfl), Nat.le_refl _, (s1.pres (gok.up g0) pA).wipe, pA', by rw [List.drop_zero]; exact e⟩, ?_⟩
  rintro i m H2 ⟨rfl, hi, σ2, lab2, acc, vA, hacc, s2, p2, el⟩
  obtain ⟨hstop, hgo⟩ := it _ H2 lab2 p2 hR i hi
  by_cases hlt : i < ds.length
  · obtain ⟨go, hy⟩ := hgo ds[i] (List.getElem?_eq_getElem hlt)
    refine .inr ⟨go, St' (i + 1), fun H' q => ⟨ds.length - (i + 1), by omega, rfl, hlt, q⟩, fun x H3 hx => ?_⟩
    obtain ⟨lab3, p3, r3⟩ := hy x H3 hx
    rw [List.drop_eq_getElem_cons hlt, lcL] at el
    have vA3 := kA (p3 [] _) (okM (by simp)) vA
    have s3 : SR X (wipeC Γ vs) (wipe σ vs) H3 lab3 σ2 := s2.pres gw1 (p3 _ _)
    have q3 : Pres (T.slots ++ (mt ++ me)) (n + 1) H1 lab1 H3 lab3 := p2.trans (p3 _ _) (SubK.refl _ _) (SubK.refl _ _)
    cases eb : bindT T ds[i] σ2 with
    | none => rw [eb] at el; cases el
    | some σ3 =>
      rw [eb] at el
      dsimp only at el
      have r3' : VR X.K (clX X) H3 lab3 (.bor R) (.tmp (n + 2)) x ds[i] := r3
      refine tg_ok' (io := []) (fx := fun _ => .non) ⟨s3, by simp⟩ gw2 R2 (fun i hi => ⟨(hvs i hi).2, by simp⟩) r3' eb fun σ4 lab4 s4 g4 p4 hl4 hq4 => ?_
      have hw : wipe σ4 vs = wipe σ vs := by
        rw [← wipe_wipe (σ := σ)]
        exact wipe_eq hl4 fun j hj => hq4 j fun z => hj (hvs j z).1
      refine ⟨hw, ?_⟩
      have vA4 := kA p4 (okM fun j hj => List.mem_append_left _ hj) vA3
      have q4 : Pres (T.slots ++ (mt ++ me)) (n + 1) H1 lab1 H3 lab4 := q3.trans p4 (SubK.refl _ _) sub1
      refine ⟨σ3, lab4, gb, s4.s.weak hle2, ?_⟩
      cases et : gt σ3 with
      | stuck => rw [et] at el; cases el
      | exc _ _ _ => rw [et] at el; cases el
      | ok b σ5 =>
        rw [et] at el
        dsimp only at el
        intro b' H5 lab5 s5 p5 eb'
        have eb' : b' = b := eb'
        subst eb'
        have vA5 := kA p5 (okM fun j hj => by simp [hj]) vA4
        have q5 : Pres (T.slots ++ (mt ++ me)) (n + 1) H1 lab1 H5 lab5 := q4.trans p5 (SubK.refl _ _) subt
        have back : ∀ {H6 : Hp} {lab6 : Labs} {σ6 : List D}, SR X Γ' σ4 H6 lab6 σ6 → SR X (wipeC Γ vs) (wipe σ vs) H6 lab6 σ6 := fun {H6 lab6 σ6} sz => by
          have w := (sz.weak hle).wipe (vs := vs)
          have ew : wipeC (wipeC Γ vs) vs = wipeC (wipeC Γ vs) vs := rfl
          rw [hw] at w
          refine ⟨w.l1, w.l2, fun j kk hj => ?_⟩
          refine w.at_ j kk ?_
          rw [wipeC_out (wipeC_at hj).2]
          exact hj
        cases b' with
        | false =>
          rw [if_neg (by decide)] at el ⊢
          exact ⟨σ5, lab5, acc, vA5, Nat.le_succ_of_le hacc, back s5, q5, el⟩
        | true =>
          rw [if_pos rfl] at el ⊢
          refine ⟨σ5, lab5, gb, s5, ?_⟩
          cases ee : ge σ5 with
          | stuck => rw [ee] at el; cases el
          | exc _ _ _ => rw [ee] at el; cases el
          | ok d σ6 =>
            rw [ee] at el
            dsimp only at el
            intro v H6 lab6 s6 p6 r6
            have r6 : VR X.K (clX X) H6 lab6 k (.tmp (n + 2)) v d := r6
            have vA6 := kA p6 (okM fun j hj => by simp [hj]) vA5
            have q6 : Pres (T.slots ++ (mt ++ me)) (n + 1) H1 lab1 H6 lab6 := q5.trans p6 (SubK.refl _ _) sube
            obtain ⟨xs, hx6, hxl, la, lab7, p7, v7⟩ := VR.app hk vA6 r6 (okup (okK.up ok))
            exact ⟨xs, hx6, by omega, σ6, lab7, _, v7, by rw [List.length_append]; simp; omega, (back s6).pres gw1 (p7 []), q6.trans (p7 _) (SubK.refl _ _) (SubK.refl _ _), el⟩
  · have ei : i = ds.length := by omega
    refine .inl ⟨hstop ei, ?_⟩
    rw [ei, List.drop_length] at el
    cases el
    refine po1 (.ref A) H2 (colT n lab2) ?_ ((p2.mono (SubK.up _ _)).trans .colT (SubK.refl _ _) (SubK.refl _ _)) (vA.colT' (okup ok))
    refine ⟨s1.l1, by rw [restV_len]; exact s2.l2, fun j kj hj => ?_⟩
    have hz := List.all_eq_true.mp (Bool.and_eq_true_iff.mp hv).2
    have hr := List.all_eq_true.mp (Bool.and_eq_true_iff.mp hv).1
    by_cases jv : j ∈ vs
    · have z := hz j jv
      rw [hj] at z
      cases kj with
      | own =>
        have jr : j ∈ vr := by simpa using z
        obtain ⟨v, d, a, b, c⟩ := s1.at_ j .own hj
        have fl := List.all_eq_true.mp hc.2 j jr
        have ed : σ1.getD j .non = d := by rw [List.getD_eq_getElem?_getD, b]; rfl
        rw [ed] at fl
        obtain ⟨fp, rp, nd, _⟩ := c
        have e0 := rp.flat fl
        subst e0
        refine ⟨v, d, a, ?_, .of_nil (rp.ext p2.tk (by simp))⟩
        have hjl : j < σ1.length := (List.getElem?_eq_some_iff.mp b).1
        rw [restV_in jr (by rw [s2.l2, ← s1.l2]; exact hjl), ed]
      | _ => cases z
    · have jr : j ∉ vr := fun z => jv (by simpa using hr j z)
      obtain ⟨v, d, a, b, c⟩ := s2.at_ j kj (by rw [wipeC_out jv]; exact hj)
      refine ⟨v, d, by rw [← wipe_get jv]; exact a, by rw [restV_out jr]; exact b, ?_⟩
      exact c.pres (m := []) (n := n) .colT (gok.at_ g0 hj) rfl
end
section
variable {X : Cx} {W : WX} {Z : SC} {Γx Γ Γ' : Ctx} {n : Nat} {m1 mt me : List Nat} {pos spos py : Pos} {R : List Lab} {k : Kd} {elt tg iter : Expr} {ifs : List Expr} {scope : Scope} {own : List (Str × Nat)} {T : Tg} {vr : List Nat} {gi : List D → ER (List D)} {gt : List D → ER Bool} {ge : List D → ER D}
/-- what a comprehension asks beside its parts -/
structure LcOk (Γ Γ' : Ctx) (n : Nat) (T : Tg) (vs vr mt me : List Nat) (R : List Lab) (k : Kd) : Prop where
  hk : okEl k = true
  v : vrOk Γ vs vr = true
  hR : R.all (keepL (T.slots ++ (mt ++ me)) (n + 1)) = true
  ok : okK (T.slots ++ (mt ++ me)) n k = true
  l1 : leC Γ' (wipeC Γ vs) = true
  l2 : leC (tgC (wipeC Γ vs) T R) Γ' = true
  g : gok Γ' (n + 2) = true
  nx : noX Γ' = true
abbrev blkX (X : Cx) (scope : Scope) (s : Shared) (H : Hp) (C : Addr) (cl : List (Str × Addr)) (fp : List Addr) : Cx := X.blk s H scope (compEnvC scope cl C X.env) fp
theorem ej_lc (hc : X.calm = true) (hN : X.N.Nodup) (hi : IJ X W Γx Γ n m1 tg iter gi R) (ok : BlkOk X.N X.env.scope scope own)
    (hg : ∀ (s : Shared) (H : Hp) (C : Addr) (cl : List (Str × Addr)) (fp : List Addr), PG (blkX X scope s H C cl fp) tg (tgR X.K T)) (ht : ∀ (s : Shared) (H : Hp) (C : Addr) (cl : List (Str × Addr)) (fp : List Addr), PTsJ (blkX X scope s H C cl fp) Γ' (n + 2) mt ifs gt)
    (he : ∀ (s : Shared) (H : Hp) (C : Addr) (cl : List (Str × Addr)) (fp : List Addr), EJ (blkX X scope s H C cl fp) WF [] Γ' (n + 2) me elt ge k) (o : LcOk Γ Γ' n T (own.map (·.2)) vr mt me R k)
    (hT : T.slots.all (fun i => (own.map (·.2)).contains i && decide (i < X.N.length)) = true := by rfl) (hs : ∀ x, foldedSetIterable iter X.env x = pure x := by intro _; rfl) :
    EJ X W Γx Γ n (m1 ++ (T.slots ++ (mt ++ me))) (.ListComp elt [⟨tg, iter, ifs, 0⟩] scope pos) (eLc T vr gi gt ge) (lstK k) := by
  have hk : ∀ R, k ≠ .exc R := fun R z => by have := o.hk; rw [z] at this; cases this
  refine pe_imp (pe_lc hc hN hi ok hg (tt := rdT X WF [] Γ' (n + 2) mt gt) (fun s H C cl fp => ⟨fun pins sh σ Hq Q I h => (ht s H C cl fp).run pins sh σ Hq Q I (rdT_like (X := X) (X' := blkX X scope s H C cl fp) ⟨rfl, rfl, rfl⟩ o.nx h)⟩) (te := rdE X WF [] Γ' (n + 2) me k ge) (fun s H C cl fp => pe_imp (he s H C cl fp) fun σ Hq Q h => rdE_like (X := X) (X' := blkX X scope s H C cl fp) ⟨rfl, rfl, rfl⟩ o.nx hk h) hs) fun σ H Q h => ?_
  exact lc_imp o.hk o.v hT o.hR o.ok o.l1 o.l2 o.g h
theorem sj_setLc {i : Nat} {y : Str} (hc : X.calm = true) (hN : X.N.Nodup) (hy : X.N[i]? = some y) (hi : IJ X W Z.Γx Γ n m1 tg iter gi R) (ok : BlkOk X.N X.env.scope scope own)
    (hg : ∀ (s : Shared) (H : Hp) (C : Addr) (cl : List (Str × Addr)) (fp : List Addr), PG (blkX X scope s H C cl fp) tg (tgR X.K T)) (ht : ∀ (s : Shared) (H : Hp) (C : Addr) (cl : List (Str × Addr)) (fp : List Addr), PTsJ (blkX X scope s H C cl fp) Γ' (n + 2) mt ifs gt)
    (he : ∀ (s : Shared) (H : Hp) (C : Addr) (cl : List (Str × Addr)) (fp : List Addr), EJ (blkX X scope s H C cl fp) WF [] Γ' (n + 2) me elt ge k) (o : LcOk Γ Γ' n T (own.map (·.2)) vr mt me R k)
    (hyl : X.env.scope.names.lookup y = some .local := by rfl) (hsw : swapsWith (.ListComp elt [⟨tg, iter, ifs, 0⟩] scope pos) (some (.Name y py)) spos.line X.env = pure true := by exact sw_true rfl rfl rfl (by decide +kernel))
    (okl : okK [] n (lstK k) = true := by decide) (hio : Z.io.contains i = false := by decide)
    (hT : T.slots.all (fun i => (own.map (·.2)).contains i && decide (i < X.N.length)) = true := by rfl) (hs : ∀ x, foldedSetIterable iter X.env x = pure x := by intro _; rfl) :
    SJ X W Z Γ (putC Γ i (lstK k)) n ((m1 ++ (T.slots ++ (mt ++ me))) ++ [i]) (.Assign [.Name y py] (.ListComp elt [⟨tg, iter, ifs, 0⟩] scope pos) spos) (sSet i (eLc T vr gi gt ge)) := by
  have hk : ∀ R, k ≠ .exc R := fun R z => by have := o.hk; rw [z] at this; cases this
  refine ps_imp (ps_setLc hc hN hy hyl hsw hi ok hg (tt := rdT X WF [] Γ' (n + 2) mt gt) (fun s H C cl fp => ⟨fun pins sh σ Hq Q I h => (ht s H C cl fp).run pins sh σ Hq Q I (rdT_like (X := X) (X' := blkX X scope s H C cl fp) ⟨rfl, rfl, rfl⟩ o.nx h)⟩) (te := rdE X WF [] Γ' (n + 2) me k ge) (fun s H C cl fp => pe_imp (he s H C cl fp) fun σ Hq Q h => rdE_like (X := X) (X' := blkX X scope s H C cl fp) ⟨rfl, rfl, rfl⟩ o.nx hk h) hs) fun E σ H hh => ?_
  obtain ⟨σD, lab, fx, g0, s, po⟩ := hh
  refine sof_imp (te := tLc (rdI X W Z.Γx Γ n m1 R gi) (tgR X.K T) (rdT X WF [] Γ' (n + 2) mt gt) (rdE X WF [] Γ' (n + 2) me k ge) (own.map (·.2))) (fun _ _ _ q => lc_imp o.hk o.v hT o.hR o.ok o.l1 o.l2 o.g q) g0 s po fun d σD1 v H1 lab1 s1 p1 r1 po1 => ?_
  have hlt : i < X.N.length := (List.getElem?_eq_some_iff.mp hy).1
  refine po1 (σ.set i (some v)) H1 (labPut i n lab1) ⟨s1.s.put g0 hlt r1 okl, fun j hj => ?_⟩ .put
  rw [List.getElem?_set_ne]
  · exact s1.f j hj
  · rintro rfl
    have : Z.io.contains i = true := by simpa using hj
    rw [this] at hio; cases hio
end
end Ow


namespace Ow
open PySem PySem.Spec PyProof.Rows L2
section
variable {X : Cx} {W : WX} {Γx Γ : Ctx} {n : Nat} {m m1 m2 : List Nat} {H : Hp} {lab : Labs} {pos p : Pos} {R : List Lab} {k k1 : Kd} {ks : List AK} {gs : List D → ER (List D)} {tg e e2 : Expr}
/-- what two things are held by, together -/
def zipR (n : Nat) (ks : List AK) : List Lab := if (ks.all fun k => match k with | .val (.bor R) => R.all (keepL [] n) | _ => false) then unionR ks else .tmp n :: unionR ks
theorem bw_colT {a : Addr} (h : (∃ j, n ≤ j ∧ lab a = .tmp j) ∨ bw R (lab a)) : bw (.tmp n :: R) (colT n lab a) := by
  by_cases q : ∃ j, n ≤ j ∧ lab a = .tmp j
  · obtain ⟨j, hj, e⟩ := q
    exact .inr (by rw [colT_tmp e hj]; exact List.mem_cons_self)
  · have e : colT n lab a = lab a := by
      unfold colT
      split
      · rename_i j e
        rw [if_neg (fun z => q ⟨j, z, e⟩), e]
      · rfl
    rw [e]
    rcases h with h | h | h
    · exact absurd h q
    · exact .inl h
    · exact .inr (List.mem_cons_of_mem _ h)
theorem AR.bors {σ : St} {σD : List D} : ∀ {ks : List AK} {n q : Nat} {vs : List V} {ds : List D}, AR X σ σD H lab q ks vs ds → (ks.all fun k => match k with | .val (.bor R) => R.all (keepL [] n) | _ => false) = true → ∃ fp, RpL X.K (clX X) H vs ds fp ∧ ∀ a ∈ fp, bw (unionR ks) (colT n lab a)
  | [], _, _, _, _, ⟨e1, e2⟩, _ => by
    subst e1 e2
    exact ⟨[], .nil, by simp⟩
  | .val (.bor R) :: ks, n, q, _, _, ⟨v, vs', d, ds', e1, e2, r, h⟩, o => by
    subst e1 e2
    rw [List.all_cons, Bool.and_eq_true] at o
    obtain ⟨f2, r2, l2⟩ := AR.bors (n := n) h o.2
    obtain ⟨f1, r1, l1⟩ := r
    refine ⟨f1 ++ f2, .cons r1 r2, fun a ha => ?_⟩
    rcases List.mem_append.mp ha with z | z
    · have b := l1 a z
      rw [colT_keep (m := []) (bw_keep o.1 b)]
      exact b.elim .inl fun y => .inr (List.mem_flatMap.mpr ⟨_, List.mem_cons_self, y⟩)
    · exact (l2 a z).elim .inl fun y => .inr (List.mem_flatMap.mpr (by
        obtain ⟨x, hx, e⟩ := List.mem_flatMap.mp y
        exact ⟨x, List.mem_cons_of_mem _ hx, e⟩))
  | .val .own :: ks, _, _, _, _, _, o => by simp at o
  | .val (.spn R) :: ks, _, _, _, _, _, o => by simp at o
  | .val (.exc R) :: ks, _, _, _, _, _, o => by simp at o
  | .slot r :: ks, _, _, _, _, _, o => by simp at o
theorem AR.zipR {σ : St} {σD : List D} {vs : List V} {ds : List D} (h : AR X σ σD H lab n ks vs ds) (hv : ks.all valA = true) : ∃ fp, RpL X.K (clX X) H vs ds fp ∧ ∀ a ∈ fp, bw (zipR n ks) (colT n lab a) := by
  by_cases z : (ks.all fun k => match k with | .val (.bor R) => R.all (keepL [] n) | _ => false) = true
  · obtain ⟨fp, r, l⟩ := h.bors (n := n) z
    exact ⟨fp, r, by unfold Ow.zipR; rw [if_pos z]; exact l⟩
  · obtain ⟨fp, r, l⟩ := h.mix hv
    exact ⟨fp, r, by unfold Ow.zipR; rw [if_neg z]; exact fun a ha => bw_colT (l a ha)⟩
def zipD (xs ys : List D) : List D := List.zipWith (fun x y => .tup [x, y]) xs ys
theorem Rp.keepR {m' : List Nat} {H' : Hp} {lab' : Labs} {v : V} {d : D} {fp : List Addr} (r : Rp X.K (clX X) H v d fp) (l : ∀ a ∈ fp, bw R (lab a)) (p : Pres m' n H lab H' lab') (ok : R.all (keepL m' n) = true) : Rp X.K (clX X) H' v d fp ∧ ∀ a ∈ fp, bw R (lab' a) := by
  have e : ∀ a ∈ fp, H' a = H a ∧ lab' a = lab a := fun a ha => p.keep a (by obtain ⟨o, e, _⟩ := r.alloc a ha; rw [e]; simp) (bw_keep ok (l a ha))
  exact ⟨r.ext p.tk fun a ha => (e a ha).1, fun a ha => by rw [(e a ha).2]; exact l a ha⟩
theorem zip_at {xs ys : List D} {i : Nat} {d : D} (h : (zipD xs ys)[i]? = some d) : ∃ x y, xs[i]? = some x ∧ ys[i]? = some y ∧ d = .tup [x, y] := by
  unfold zipD at h
  rw [List.getElem?_zipWith] at h
  cases e1 : xs[i]? with
  | none => rw [e1] at h; cases h
  | some x => cases e2 : ys[i]? with
    | none => rw [e1, e2] at h; cases h
    | some y => rw [e1, e2] at h; cases h; exact ⟨x, y, rfl, rfl, rfl⟩
/-- a fresh pair -/
theorem pair_new {H' : Hp} {lab' : Labs} {T : Addr} {x y : V} {dx dy : D} {fx fy : List Addr} (hT : H' T = none) (rx : Rp X.K (clX X) H' x dx fx) (ry : Rp X.K (clX X) H' y dy fy) (lx : ∀ a ∈ fx, bw R (lab' a)) (ly : ∀ a ∈ fy, bw R (lab' a)) :
    (∀ m'' n'', Pres m'' n'' H' lab' (upd H' T (.tup [x, y])) (setL lab' T .fro)) ∧ VR X.K (clX X) (upd H' T (.tup [x, y])) (setL lab' T .fro) (.bor R) (.tmp (n + 1)) (.ref T) (.tup [dx, dy]) := by
  refine ⟨fun _ _ => .alloc hT rfl, ?_⟩
  have r := RpL.cons rx (RpL.one ry)
  refine ⟨fx ++ fy, .tup (.of upd_same) (r.ext (TK.new hT) fun a ha => upd_ne fun z => ?_), fun a ha => ?_⟩
  · obtain ⟨o, q, _⟩ := r.alloc a ha
    rw [z, hT] at q; cases q
  · show bw R (if a = T then _ else _)
    by_cases z : a = T
    · rw [if_pos z]; exact .inl rfl
    · rw [if_neg z]; exact (List.mem_append.mp ha).elim (lx a) (ly a)
theorem iter_zip {a b : Addr} {xs ys : List D} {f1 f2 : List Addr} (ra : Rp X.K (clX X) H (.ref a) (.lst xs) f1) (rb : Rp X.K (clX X) H (.ref b) (.lst ys) f2) (la : ∀ z ∈ f1, bw R (lab z)) (lb : ∀ z ∈ f2, bw R (lab z)) : IterOk X n R (Itz X.K a b) (zipD xs ys) H lab := fun m' H' lab' p ok i hi => by
  obtain ⟨ra', la'⟩ := ra.keepR la p ok
  obtain ⟨rb', lb'⟩ := rb.keepR lb p ok
  cases ra' with
  | lst ha r1 =>
  cases rb' with
  | lst hb r2 =>
  rename_i vs g1 ws g2
  refine ⟨fun e => ⟨vs, ws, .of ha, .of hb, ?_⟩, fun d hd => ?_⟩
  · rw [r1.len, r2.len, e]
    unfold zipD
    rw [List.length_zipWith]
    omega
  · obtain ⟨dx, dy, ex, ey, rfl⟩ := zip_at hd
    obtain ⟨x, fx, e1, rx, sx⟩ := r1.get ex
    obtain ⟨y, fy, e2, ry, sy⟩ := r2.get ey
    refine ⟨⟨vs, ws, x, y, .of ha, .of hb, e1, e2⟩, fun v H'' hy => ?_⟩
    obtain ⟨T, x', y', rfl, hT, rfl, hx', hy'⟩ := hy
    have := hx' vs (.of ha); rw [e1] at this; cases this
    have := hy' ws (.of hb); rw [e2] at this; cases this
    obtain ⟨P, V⟩ := pair_new (n := n) hT rx ry (fun z hz => la' z (List.mem_cons_of_mem _ (sx.subset hz))) fun z hz => lb' z (List.mem_cons_of_mem _ (sy.subset hz))
    exact ⟨_, P, V⟩
theorem iter_zipT {a b : Addr} {xs ys : List D} {f1 f2 : List Addr} (ra : Rp X.K (clX X) H (.ref a) (.tup xs) f1) (rb : Rp X.K (clX X) H (.ref b) (.tup ys) f2) (la : ∀ z ∈ f1, bw R (lab z)) (lb : ∀ z ∈ f2, bw R (lab z)) : IterOk X n R (RZ.ItzT X.K a b) (zipD xs ys) H lab := fun m' H' lab' p ok i hi => by
  obtain ⟨ra', la'⟩ := ra.keepR la p ok
  obtain ⟨rb', lb'⟩ := rb.keepR lb p ok
  cases ra' with
  | tup ha r1 =>
  cases rb' with
  | tup hb r2 =>
  rename_i vs ws
  refine ⟨fun e => ⟨vs, ws, ha, hb, ?_⟩, fun d hd => ?_⟩
  · rw [r1.len, r2.len, e]
    unfold zipD
    rw [List.length_zipWith]
    omega
  · obtain ⟨dx, dy, ex, ey, rfl⟩ := zip_at hd
    obtain ⟨x, fx, e1, rx, sx⟩ := r1.get ex
    obtain ⟨y, fy, e2, ry, sy⟩ := r2.get ey
    refine ⟨⟨vs, ws, x, y, ha, hb, e1, e2⟩, fun v H'' hy => ?_⟩
    obtain ⟨T, x', y', rfl, hT, rfl, hx', hy'⟩ := hy
    have := hx' vs ha; rw [e1] at this; cases this
    have := hy' ws hb; rw [e2] at this; cases this
    obtain ⟨P, V⟩ := pair_new (n := n) hT rx ry (fun z hz => la' z (sx.subset hz)) fun z hz => lb' z (sy.subset hz)
    exact ⟨_, P, V⟩
def fZip : List D → Option (List D)
  | [.lst a, .lst b] => some (zipD a b)
  | [.tup a, .tup b] => some (zipD a b)
  | _ => none
def gFun (f : List D → Option (List D)) (gs : List D → ER (List D)) : List D → ER (List D) := fun σ => (gs σ).bind fun ds σ1 => ofO (f ds) σ1
theorem ij_zip {elts : List Expr} {kk : Nat} {tpos : Pos} (hm : X.mg "zip" = none) (ha : AJ X W Γx Γ n m [e, e2] gs ks) (hv : ks.all valA = true := by rfl) (hg : Gl X "zip" := by rfl)
    (hs : starEach [e, e2] X.env = (false, eval e X.env) :: starEach [e2] X.env := by rfl) (hpl : (backTo pos (starEach [e2] X.env)).any (·.1) = false := by rfl) :
    IJ X W Γx Γ n m (.Tuple elts kk tpos) (.Call (.Name "zip" p) [e, e2] [] pos) (gFun fZip gs) (zipR n ks) := by
  refine pi_imp (RZ.pi_zipA hg hm ha hs hpl) fun σ H Q hh => ?_
  obtain ⟨σD, lab, g0, s, po⟩ := hh
  refine ⟨σD, lab, g0, s, po.last fun ds σD1 vs H1 lab1 s1 p1 r1 po1 => ?_⟩
  obtain ⟨z, ez, q⟩ := po1.done
  obtain ⟨fp, rl, ll⟩ := AR.zipR r1 hv
  unfold fZip at ez
  split at ez
  · rename_i a b
    cases ez
    cases rl with
    | cons h1 rl => cases rl with
      | cons h2 rl =>
        cases rl
        rename_i v1 f1 v2 f2
        have la : ∀ z ∈ f1, bw (zipR n ks) (colT n lab1 z) := fun z hz => ll z (List.mem_append_left _ hz)
        have lb : ∀ z ∈ f2, bw (zipR n ks) (colT n lab1 z) := fun z hz => ll z (List.mem_append_right _ (List.mem_append_left _ hz))
        cases h1 with
        | lst hx1 hx2 => cases h2 with
          | lst hy1 hy2 => exact ⟨_, _, _, _, rfl, .inl ⟨.of hx1, .of hy1, q _ H1 _ (s1.pres g0 .colT) .colT (iter_zip (.lst hx1 hx2) (.lst hy1 hy2) la lb)⟩⟩
  · rename_i a b
    cases ez
    cases rl with
    | cons h1 rl => cases rl with
      | cons h2 rl =>
        cases rl
        rename_i v1 f1 v2 f2
        have la : ∀ z ∈ f1, bw (zipR n ks) (colT n lab1 z) := fun z hz => ll z (List.mem_append_left _ hz)
        have lb : ∀ z ∈ f2, bw (zipR n ks) (colT n lab1 z) := fun z hz => ll z (List.mem_append_right _ (List.mem_append_left _ hz))
        cases h1 with
        | tup hx1 hx2 => cases h2 with
          | tup hy1 hy2 => exact ⟨_, _, _, _, rfl, .inr ⟨hx1, hy1, q _ H1 _ (s1.pres g0 .colT) .colT (iter_zipT (.tup hx1 hx2) (.tup hy1 hy2) la lb)⟩⟩
  · cases ez
/-- enumerate -/
def enumD (xs : List D) : List D := xs.mapIdx fun i x => .tup [.int i, x]
def fEnum : List D → Option (List D)
  | [.lst a] => some (enumD a)
  | _ => none
/-- reversed -/
def fRev : List D → Option (List D)
  | [.lst a] => some a.reverse
  | _ => none
def isBl : D → Bool
  | .bl _ => true
  | _ => false
def toB : D → Bool
  | .bl b => b
  | _ => false
def fAll : List D → Option D
  | [.lst ds] => if ds.all isBl = true then some (.bl (ds.all toB)) else none
  | _ => none
theorem RpL.bools {K : PySem.W.Frag} {cl : CE} : ∀ {vs : List V} {ds : List D} {fp : List Addr}, RpL K cl H vs ds fp → ds.all isBl = true → ∃ bs : List Bool, vs = bs.map V.bl ∧ ds = bs.map D.bl
  | _, _, _, .nil, _ => ⟨[], rfl, rfl⟩
  | _, _, _, .cons h r, e => by
    rw [List.all_cons, Bool.and_eq_true] at e
    obtain ⟨bs, e1, e2⟩ := RpL.bools r e.2
    cases h with
    | bl b => exact ⟨b :: bs, by rw [e1]; rfl, by rw [e2]; rfl⟩
    | _ => cases e.1
theorem sc_all : ScalCall X fAll (rAll X.K) := fun ds z e => by
  unfold fAll at e
  split at e
  · split at e
    · rename_i hb
      cases e
      refine ⟨_, .bl _, fun H vs fp Q r q => ?_⟩
      obtain ⟨v, f, rfl, rr⟩ := r.one_inv
      cases rr with
      | lst h r =>
        obtain ⟨bs, e1, e2⟩ := r.bools hb
        subst e1 e2
        refine ⟨_, bs, rfl, .of h, ?_⟩
        have : (bs.map D.bl).all toB = bs.all id := by rw [List.all_map]; rfl
        rw [← this]; exact q
    · cases e
  · cases e
theorem ej_all (hc : X.calm = true) (hm : X.mg "all" = none) (ha : AJ X W Γx Γ n m [e] gs ks) (hg : Gl X "all" := by rfl) (ho : ks.all valA = true := by rfl) (he : starEach [e] X.env = [(false, eval e X.env)] := by rfl) : EJ X W Γx Γ n m (.Call (.Name "all" p) [e] [] pos) (eCall1 fAll gs) .own :=
  ej_callB sc_all (cr_all hc) hg hm boot_all ha ho (by decide) (by decide) he rfl
def isI : D → Bool
  | .int _ => true
  | _ => false
theorem RpL.ints {K : PySem.W.Frag} {cl : CE} : ∀ {vs : List V} {ds : List D} {fp : List Addr}, RpL K cl H vs ds fp → ds.all isI = true → ∃ bs : List Int, vs = bs.map V.int ∧ ds = bs.map D.int
  | _, _, _, .nil, _ => ⟨[], rfl, rfl⟩
  | _, _, _, .cons h r, e => by
    rw [List.all_cons, Bool.and_eq_true] at e
    obtain ⟨bs, e1, e2⟩ := RpL.ints r e.2
    cases h with
    | int b => exact ⟨b :: bs, by rw [e1]; rfl, by rw [e2]; rfl⟩
    | _ => cases e.1
theorem mk_spn {vs : List V} {ds : List D} {fp : List Addr} {q : Addr} (r : RpL X.K (clX X) H vs ds fp) (l : ∀ a ∈ fp, (∃ j, n ≤ j ∧ lab a = .tmp j) ∨ bw R (lab a)) (hp : H q = none) :
    Pres [] n H lab (upd H q (.lst vs)) (setL (colF n lab) q (.tmp n)) ∧ VR X.K (clX X) (upd H q (.lst vs)) (setL (colF n lab) q (.tmp n)) (.spn R) (.tmp n) (.ref q) (.lst ds) := by
  have ne : ∀ a ∈ fp, a ≠ q := fun a ha e => by
    obtain ⟨o, z, _⟩ := r.alloc a ha
    rw [e, hp] at z; cases z
  refine ⟨Pres.colF.trans (.alloc hp rfl) (SubK.refl _ _) (SubK.refl _ _), q, vs, ds, fp, rfl, rfl, upd_same, r.ext (TK.new hp) fun a ha => upd_ne (ne a ha), if_pos rfl, fun a ha => ⟨ne a ha, ?_⟩⟩
  show bw _ (if a = q then _ else _)
  rw [if_neg (ne a ha)]
  exact bw_colF (l a ha)
theorem mk_tup {vs : List V} {ds : List D} {fp : List Addr} {q : Addr} (r : RpL X.K (clX X) H vs ds fp) (l : ∀ a ∈ fp, (∃ j, n ≤ j ∧ lab a = .tmp j) ∨ bw R (lab a)) (hp : H q = none) :
    Pres [] n H lab (upd H q (.tup vs)) (setL (colF n lab) q (.tmp n)) ∧ VR X.K (clX X) (upd H q (.tup vs)) (setL (colF n lab) q (.tmp n)) (.bor R) (.tmp n) (.ref q) (.tup ds) := by
  have ne : ∀ a ∈ fp, a ≠ q := fun a ha e => by
    obtain ⟨o, z, _⟩ := r.alloc a ha
    rw [e, hp] at z; cases z
  refine ⟨Pres.colF.trans (.alloc hp rfl) (SubK.refl _ _) (SubK.refl _ _), fp, .tup (.of upd_same) (r.ext (TK.new hp) fun a ha => upd_ne (ne a ha)), fun a ha => ?_⟩
  show bw _ (if a = q then _ else _)
  rw [if_neg (ne a ha)]
  exact bw_colF (l a ha)
/-- the items of a thing, however it is held -/
theorem VR.its {k : Kd} {j : Nat} {v : V} {d : D} (h : VR X.K (clX X) H lab k (.tmp j) v d) (hn : d.noE = true) (hj : n ≤ j) : ∃ fp, Rp X.K (clX X) H v d fp ∧ ∀ a ∈ fp, (∃ j, n ≤ j ∧ lab a = .tmp j) ∨ bw (labsK k) (lab a) := by
  cases k with
  | own => obtain ⟨fp, r, _, l⟩ := h; exact ⟨fp, r, fun a ha => .inl ⟨j, hj, l a ha⟩⟩
  | bor R => obtain ⟨fp, r, l⟩ := h; exact ⟨fp, r, fun a ha => .inr (l a ha)⟩
  | spn R =>
    obtain ⟨a, vs, ds, fp, rfl, rfl, ha, r, la, l⟩ := h
    refine ⟨_, .lst ha r, fun b hb => ?_⟩
    rcases List.mem_cons.mp hb with q | q
    · exact .inl ⟨j, hj, by rw [q]; exact la⟩
    · exact .inr (l b q).2
  | exc R => obtain ⟨fp, r, _⟩ := h; cases r <;> cases hn
def fListOf : List D → Option D
  | [.lst ds] => some (.lst ds)
  | [.fzl ds] => some (.lst ds)
  | [.tup ds] => some (.lst ds)
  | _ => none
theorem ej_listOf (hm : X.mg "list" = none) (ha : AJ X W Γx Γ n m [e] gs [.val k]) (hg : Gl X "list" := by rfl) (he : starEach [e] X.env = [(false, eval e X.env)] := by rfl) : EJ X W Γx Γ n m (.Call (.Name "list" p) [e] [] pos) (eCall1 fListOf gs) (.spn (labsK k)) := by
  refine pe_imp (pe_callTy call_list_of hg hm (by decide +kernel) ha (by decide) (by decide) he rfl) fun σ H Q h => ?_
  obtain ⟨σD, lab, g0, s, po⟩ := h
  refine ⟨σD, lab, g0, s, po.last fun ds σD1 vs H1 lab1 s1 p1 r1 po1 => ?_⟩
  obtain ⟨z, ez, q⟩ := po1.done
  obtain ⟨v, vs', d, ds', e1, e2, r, e3, e4⟩ := r1
  subst e1 e2 e3 e4
  unfold fListOf at ez
  split at ez
  · rename_i e0
    cases e0; cases ez
    obtain ⟨fp, rp, l⟩ := r.its rfl (Nat.le_refl n)
    cases rp with
    | lst h1 h2 => exact ⟨_, _, rfl, .inl (.of h1), fun q' hq => by
        obtain ⟨P, V⟩ := mk_spn (n := n) (R := labsK k) h2 (fun a ha => l a (List.mem_cons_of_mem _ ha)) hq
        exact q _ _ _ (s1.pres g0 P) P V⟩
  · rename_i e0
    cases e0; cases ez
    obtain ⟨fp, rp, l⟩ := r.its rfl (Nat.le_refl n)
    cases rp with
    | lsf h1 h2 => exact ⟨_, _, rfl, .inl h1.sql, fun q' hq => by
        obtain ⟨P, V⟩ := mk_spn (n := n) (R := labsK k) h2 l hq
        exact q _ _ _ (s1.pres g0 P) P V⟩
  · rename_i e0
    cases e0; cases ez
    obtain ⟨fp, rp, l⟩ := r.its rfl (Nat.le_refl n)
    cases rp with
    | tup h1 h2 => exact ⟨_, _, rfl, .inr h1, fun q' hq => by
        obtain ⟨P, V⟩ := mk_spn (n := n) (R := labsK k) h2 l hq
        exact q _ _ _ (s1.pres g0 P) P V⟩
  · cases ez
def fTupOf : List D → Option D
  | [.lst ds] => some (.tup ds)
  | [.tup ds] => some (.tup ds)
  | _ => none
theorem ej_tupOf (hm : X.mg "tuple" = none) (ha : AJ X W Γx Γ n m [e] gs [.val k]) (hg : Gl X "tuple" := by rfl) (he : starEach [e] X.env = [(false, eval e X.env)] := by rfl) : EJ X W Γx Γ n m (.Call (.Name "tuple" p) [e] [] pos) (eCall1 fTupOf gs) (.bor (labsK k)) := by
  refine pe_imp (pe_callTy call_tuple_of hg hm (by decide +kernel) ha (by decide) (by decide) he rfl) fun σ H Q h => ?_
  obtain ⟨σD, lab, g0, s, po⟩ := h
  refine ⟨σD, lab, g0, s, po.last fun ds σD1 vs H1 lab1 s1 p1 r1 po1 => ?_⟩
  obtain ⟨z, ez, q⟩ := po1.done
  obtain ⟨v, vs', d, ds', e1, e2, r, e3, e4⟩ := r1
  subst e1 e2 e3 e4
  unfold fTupOf at ez
  split at ez
  · rename_i e0
    cases e0; cases ez
    obtain ⟨fp, rp, l⟩ := r.its rfl (Nat.le_refl n)
    cases rp with
    | lst h1 h2 => exact ⟨_, _, rfl, .inl ⟨.of h1, fun q' hq => by
        obtain ⟨P, V⟩ := mk_tup (n := n) (R := labsK k) h2 (fun a ha => l a (List.mem_cons_of_mem _ ha)) hq
        exact q _ _ _ (s1.pres g0 P) P V⟩⟩
  · rename_i e0
    cases e0; cases ez
    obtain ⟨fp, rp, l⟩ := r.its rfl (Nat.le_refl n)
    cases rp with
    | tup h1 h2 =>
      refine ⟨_, _, rfl, .inr ⟨h1, q _ H1 _ (s1.pres g0 .colF) .colF ⟨fp, .tup h1 h2, fun a ha => bw_colF (l a ha)⟩⟩⟩
  · cases ez
end
end Ow


namespace Ow
open PySem PySem.Spec PyProof.Rows L2
section
variable {X : Cx} {W : WX} {Z : SC} {Γx Γ Γ' : Ctx} {n r : Nat} {m m1 m2 m3 : List Nat} {H : Hp} {lab : Labs} {pos p px apos : Pos} {R : List Lab} {k k1 : Kd} {ks : List AK} {gs : List D → ER (List D)} {tg e e2 a b : Expr} {x : Str} {g ga gb : List D → ER D}
theorem ej_append (hx : PE X (.Name x px) (tVar r)) (ha : AJ X W Γx Γ n m [e] gs ks) (hr : Γ[r]? = some (some .own) := by rfl) (hb : noBor Γ r = true := by decide) (ho : ks.all ownA = true := by rfl)
    (hbase : attributeBase (.Name x px) "append" X.env (eval (.Name x px) X.env) = eval (.Name x px) X.env := by rfl)
    (hfew : ((backTo pos (starEach (e :: []) X.env)).all (fun x => !x.1) && (backToKw pos (keywordEach [] X.env)).all (fun x => x.1.isSome)
      && decide ((e :: ([] : List Expr)).length + ([] : List Keyword).length + (if ([] : List Keyword).isEmpty then 0 else 1) < 30)) = true := by rfl)
    (hline : (apos.endLine == pos.line) = true := by rfl) (hs : starEach (e :: []) X.env = (false, eval e X.env) :: starEach [] X.env := by rfl) (hplain : (backTo pos (starEach [] X.env)).any (·.1) = false := by rfl) :
    EJ X W Γx Γ n (m ++ [r]) (.Call (.Attribute (.Name x px) "append" apos) [e] [] pos) (eMut "list" r mAppend gs) .own :=
  ej_mut mo_append (pe_bm PySem.F.plainAttrs_list PySem.F.slot_list_append PySem.F.type_list_append mt_append hx ha hbase hfew hline hs hplain) hr hb ho
def cutD (xs : List D) (lo hi : Option Int) : List D := (xs.drop (HT.sIx xs.length 0 lo)).take (HT.sIx xs.length xs.length hi - HT.sIx xs.length 0 lo)
/-- a slice's part -/
def rdO (X : Cx) (W : WX) (Γx Γ : Ctx) (n : Nat) (m : List Nat) (g : List D → ER (Option Int)) : TO := fun σ H Q => ∃ σD lab, gok Γ n = true ∧ SR X Γ σ H lab σD ∧ Post X W Γx Γ σ m n (fun _ _ _ (b a : Option Int) => b = a) H lab Q (g σD)
abbrev OJ (X : Cx) (W : WX) (Γx Γ : Ctx) (n : Nat) (m : List Nat) (e : Option Expr) (g : List D → ER (Option Int)) : Prop := PO X e (rdO X W Γx Γ n m g)
theorem po_imp {e : Option Expr} {t u : TO} (h : PO X e t) (i : ∀ σ H Q, u σ H Q → t σ H Q) : PO X e u := ⟨fun pins s σ H Q I q => h.run pins s σ H Q I (i σ H Q q)⟩
def oNone : List D → ER (Option Int) := fun σ => .ok none σ
def oSome (g : List D → ER D) : List D → ER (Option Int) := fun σ => (g σ).bind fun d σ1 => match d with
  | .int i => .ok (some i) σ1
  | _ => .stuck
theorem oj_none : OJ X W Γx Γ n [] none oNone := po_imp po_none fun σ H Q h => by
  obtain ⟨σD, lab, g0, s, po⟩ := h
  exact po none H lab s (.refl _ _ _ _) rfl
theorem oj_some (h : EJ X W Γx Γ n m e g k) : OJ X W Γx Γ n m (some e) (oSome g) := po_imp (po_some h) fun σ H Q h => by
  obtain ⟨σD, lab, g0, s, po⟩ := h
  refine ⟨σD, lab, g0, s, po.last fun d σD1 v H1 lab1 s1 p1 r1 po1 => ?_⟩
  cases d with
  | int i =>
    have e := r1.int
    subst e
    exact ⟨i, rfl, po1 _ H1 lab1 s1 (.refl _ _ _ _) rfl⟩
  | _ => exact po1.elim
def dSlL (d : D) (lo hi : Option Int) : Option D := match d with
  | .lst xs => some (.lst (cutD xs lo hi))
  | .fzl xs => some (.lst (cutD xs lo hi))
  | _ => none
def dSlT (d : D) (lo hi : Option Int) : Option D := match d with
  | .tup xs => some (.tup (cutD xs lo hi))
  | _ => none
def eSl (f : D → Option Int → Option Int → Option D) (g : List D → ER D) (go gh : List D → ER (Option Int)) : List D → ER D := fun σ => (g σ).bind fun d σ1 => (go σ1).bind fun lo σ2 => (gh σ2).bind fun hi σ3 => ofO (f d lo hi) σ3
theorem cut_rp {vs : List V} {ds : List D} {fp : List Addr} (h : RpL X.K (clX X) H vs ds fp) (lo hi : Option Int) : ∃ f, RpL X.K (clX X) H (cutV vs lo hi) (cutD ds lo hi) f ∧ f.Sublist fp := by
  unfold cutV cutD
  rw [h.len]
  obtain ⟨f1, r1, s1⟩ := h.drop (HT.sIx ds.length 0 lo)
  obtain ⟨f2, r2, s2⟩ := r1.take (HT.sIx ds.length ds.length hi - HT.sIx ds.length 0 lo)
  exact ⟨f2, r2, s2.trans s1⟩
theorem sl_parts {lo hi : Option Expr} {gl gh : List D → ER (Option Int)} {rr : V → Option Int → Option Int → Hp → VK → Prop} {f : D → Option Int → Option Int → Option D} {kr : Kd} (hr : SlR X rr) (he : EJ X W Γx Γ n m1 e g k) (hl : OJ X W Γx Γ (n + 1) m2 lo gl) (hh : OJ X W Γx Γ (n + 1) m3 hi gh)
    (ok : okK (m2 ++ m3) (n + 1) k = true)
    (hf : ∀ {H : Hp} {lab : Labs} {v : V} {d z : D} {l u : Option Int} {σD : List D} {σ : St} {Q : VK}, gok Γ n = true → SR X Γ σ H lab σD → VR X.K (clX X) H lab k (.tmp n) v d → f d l u = some z → (∀ b H' lab', SR X Γ σ H' lab' σD → Pres [] n H lab H' lab' → VR X.K (clX X) H' lab' kr (.tmp n) b z → Q b H') → rr v l u H Q) :
    EJ X W Γx Γ n (m1 ++ (m2 ++ m3)) (.Subscript e (.Slice lo hi none p) pos) (eSl f g gl gh) kr := by
  refine pe_imp (pe_slice hr he hl hh) fun σ H Q h => ?_
  obtain ⟨σD, lab, g0, s, po⟩ := h
  refine ⟨σD, lab, g0, s, po.seq' fun d σD1 v H1 lab1 s1 p1 r1 po1 => ?_⟩
  refine ⟨σD1, lab1, gok.up g0, s1, po1.seq (m1 := m2) (n1 := n + 1) (m2 := m3) (n2 := n) ((SubK.left _ _ _).trans (SubK.up _ _)) (Nat.le_succ _) (SubK.right _ _ _) (Nat.le_refl _) fun l σD2 l' H2 lab2 s2 p2 e2 po2 => ?_⟩
  subst e2
  refine ⟨σD2, lab2, gok.up g0, s2, po2.seq (m1 := m3) (n1 := n + 1) (m2 := []) (n2 := n) (SubK.up _ _) (Nat.le_succ _) (SubK.nil _ _) (Nat.le_refl _) fun u σD3 u' H3 lab3 s3 p3 e3 po3 => ?_⟩
  subst e3
  have r1 : VR X.K (clX X) H1 lab1 k (.tmp n) v d := r1
  have P : Pres (m2 ++ m3) (n + 1) H1 lab1 H3 lab3 := p2.trans p3 (SubK.left _ _ _) (SubK.right _ _ _)
  have r3 := r1.pres P ok (by simp [keepL])
  obtain ⟨z, ez, q⟩ := po3.done
  exact hf g0 s3 r3 ez fun b H' lab' s' p' r' => q b H' lab' s' p' r'
theorem ej_slL {lo hi : Option Expr} {gl gh : List D → ER (Option Int)} (he : EJ X W Γx Γ n m1 e g k) (hl : OJ X W Γx Γ (n + 1) m2 lo gl) (hh : OJ X W Γx Γ (n + 1) m3 hi gh) (ok : okK (m2 ++ m3) (n + 1) k = true := by decide) :
    EJ X W Γx Γ n (m1 ++ (m2 ++ m3)) (.Subscript e (.Slice lo hi none p) pos) (eSl dSlL g gl gh) (.spn (labsK k)) := by
  refine sl_parts sl_list he hl hh ok fun {H lab v d z l u σD σ Q} g0 s r ez q => ?_
  unfold dSlL at ez
  split at ez
  · cases ez
    obtain ⟨fp, rp, lf⟩ := r.its rfl (Nat.le_refl n)
    cases rp with
    | lst h1 h2 =>
      obtain ⟨f, rf, sf⟩ := cut_rp h2 l u
      refine ⟨_, _, rfl, .of h1, fun q' hq => ?_⟩
      obtain ⟨P, V⟩ := mk_spn (n := n) (R := labsK k) rf (fun a ha => lf a (List.mem_cons_of_mem _ (sf.subset ha))) hq
      exact q _ _ _ (s.pres g0 P) P V
  · cases ez
    obtain ⟨fp, rp, lf⟩ := r.its rfl (Nat.le_refl n)
    cases rp with
    | lsf h1 h2 =>
      obtain ⟨f, rf, sf⟩ := cut_rp h2 l u
      refine ⟨_, _, rfl, h1.sql, fun q' hq => ?_⟩
      obtain ⟨P, V⟩ := mk_spn (n := n) (R := labsK k) rf (fun a ha => lf a (sf.subset ha)) hq
      exact q _ _ _ (s.pres g0 P) P V
  · cases ez
theorem ej_slT {lo hi : Option Expr} {gl gh : List D → ER (Option Int)} (he : EJ X W Γx Γ n m1 e g k) (hl : OJ X W Γx Γ (n + 1) m2 lo gl) (hh : OJ X W Γx Γ (n + 1) m3 hi gh) (ok : okK (m2 ++ m3) (n + 1) k = true := by decide) :
    EJ X W Γx Γ n (m1 ++ (m2 ++ m3)) (.Subscript e (.Slice lo hi none p) pos) (eSl dSlT g gl gh) (.bor (labsK k)) := by
  refine sl_parts sl_tupA he hl hh ok fun {H lab v d z l u σD σ Q} g0 s r ez q => ?_
  unfold dSlT at ez
  split at ez
  · cases ez
    obtain ⟨fp, rp, lf⟩ := r.its rfl (Nat.le_refl n)
    cases rp with
    | tup h1 h2 =>
      obtain ⟨f, rf, sf⟩ := cut_rp h2 l u
      refine ⟨_, _, rfl, h1, fun hw => ?_, fun _ q' hq => ?_⟩
      · refine q _ H _ (s.pres g0 .colF) .colF ⟨f, .tup h1 ?_, fun a ha => bw_colF (lf a (sf.subset ha))⟩
        rename_i xs vs
        have ec : cutV vs l u = vs := by
          unfold cutV
          rw [hw.1, hw.2]
          simp
        rw [ec] at rf
        exact rf
      · obtain ⟨P, V⟩ := mk_tup (n := n) (R := labsK k) rf (fun a ha => lf a (sf.subset ha)) hq
        exact q _ _ _ (s.pres g0 P) P V
  · cases ez
def dIn (x y : D) : Option D := match y with
  | .lst ds => if x.dat 64 = true ∧ (D.lst ds).dat 64 = true then some (.bl (ds.any fun z => z.eqv x)) else none
  | _ => none
def dNotIn (x y : D) : Option D := (dIn x y).bind dNot
def dRep (x y : D) : Option D := match x, y with
  | .lst xs, .int k => if D.flats xs = true ∧ -(2 ^ 63) ≤ k ∧ k < 2 ^ 63 ∧ xs.length * k.toNat ≤ sizeLine then some (.lst (List.replicate k.toNat xs).flatten) else none
  | _, _ => none
theorem rep_rp {vs : List V} {ds : List D} (h : RpL X.K (clX X) H vs ds []) : ∀ j : Nat, RpL X.K (clX X) H (List.replicate j vs).flatten (List.replicate j ds).flatten []
  | 0 => .nil
  | j + 1 => by
    rw [List.replicate_succ, List.replicate_succ, List.flatten_cons, List.flatten_cons]
    exact h.append (rep_rp h j)
theorem ej_rep (ha : EJ X W Γx Γ n m1 a ga k) (hb : EJ X W Γx Γ (n + 1) m2 b gb k1) (ok : okK m2 (n + 1) k = true := by decide) : EJ X W Γx Γ n (m1 ++ m2) (.BinOp a .Mult b pos) (eBin dRep ga gb) .own := by
  refine pe_imp (pe_op op_rep ha hb) fun σ H Q h => ?_
  obtain ⟨σD, lab, g0, s, po⟩ := h
  refine ⟨σD, lab, g0, s, po.seq' fun x σD1 v H1 lab1 s1 p1 r1 po1 => ?_⟩
  refine ⟨σD1, lab1, gok.up g0, s1, po1.seq (SubK.up _ _) (Nat.le_succ _) (SubK.nil _ _) (Nat.le_refl _) fun y σD2 w H2 lab2 s2 p2 r2 po2 => ?_⟩
  have r1 := VR.pres p2 r1 ok (by simp [keepL])
  obtain ⟨z, e, q⟩ := po2.done
  unfold dRep at e
  split at e
  · split at e
    · rename_i hd
      cases e
      have ew := r2.int
      subst ew
      obtain ⟨fp, rp⟩ := r1.rp rfl
      cases rp with
      | lst h1 h2 =>
        have ef := RpL.flat h2 hd.1
        subst ef
        refine ⟨_, _, _, rfl, rfl, h1, hd.2.1, hd.2.2.1, by rw [h2.len]; exact hd.2.2.2, fun q' hq => ?_⟩
        have hj := fun j => rep_rp h2 j
        obtain ⟨P, V⟩ := mk_spn (n := n) (lab := lab2) (R := []) (hj _) (by simp) hq
        refine q _ _ _ (s2.pres g0 P) P ⟨[q'], .lst upd_same ((hj _).ext (TK.new hq) (by simp)), by simp, fun b hb => ?_⟩
        rw [List.mem_singleton.mp hb]
        exact if_pos rfl
    · cases e
  · cases e
end
theorem hu65 {k : Nat} {A : Around} (h : Room k A) : A.units + 65 < cLine := by have := h.un; omega
end Ow


namespace Ow
open PySem PySem.Spec PyProof.Rows L2
mutual
def cvB (K : PySem.W.Frag) : Nat → Value → D → Bool
  | _, .int i _, .int j => decide (i = j)
  | _, .str s _, .str t => decide (s = t)
  | n + 1, .ref a, .tup ds => (match K.lookup a with
    | some o => decide (o.cls = .type "tuple") && (match o.data with
      | .seq its _ => decide (its.size ≤ 1000) && cvsB K n its.toList ds
      | _ => false)
    | none => false)
  | _, _, _ => false
def cvsB (K : PySem.W.Frag) : Nat → List Value → List D → Bool
  | _, [], [] => true
  | n, v :: vs, d :: ds => cvB K n v d && cvsB K n vs ds
  | _, _, _ => false
end
mutual
theorem cvB_ok {K : PySem.W.Frag} : ∀ (n : Nat) (v : Value) (d : D), cvB K n v d = true → ∃ x : V, RelV x v ∧ (∀ cl H, Rp K cl H x d []) ∧ d.noE = true
  | n, .int i t, .int j, h => by
    have e : i = j := by cases n <;> (simp only [cvB, decide_eq_true_eq] at h; exact h)
    exact ⟨.int j, ⟨t, by rw [e]⟩, fun _ _ => .int _, rfl⟩
  | n, .str s t, .str z, h => by
    have e : s = z := by cases n <;> (simp only [cvB, decide_eq_true_eq] at h; exact h)
    exact ⟨.str z, ⟨t, by rw [e]⟩, fun _ _ => .str _, rfl⟩
  | n + 1, .ref a, .tup ds, h => by
    simp only [cvB] at h
    cases e : K.lookup a with
    | none => rw [e] at h; cases h
    | some o =>
      rw [e] at h
      simp only [Bool.and_eq_true, decide_eq_true_eq] at h
      obtain ⟨h1, h2⟩ := h
      cases ed : o.data with
      | seq its m =>
        rw [ed] at h2
        simp only [Bool.and_eq_true, decide_eq_true_eq] at h2
        obtain ⟨xs, r1, r2⟩ := cvsB_ok n its.toList ds h2.2
        exact ⟨.ref a, rfl, fun cl H => .tup (.inr ⟨o, its, m, e, h1, ed, by rw [sizeLine_eq]; omega, r1⟩) (r2 cl H), rfl⟩
      | _ => rw [ed] at h2; cases h2
  | 0, .ref a, .tup ds, h => by simp [cvB] at h
  | n, .none, d, h => by cases n <;> cases d <;> simp [cvB] at h
  | n, .bool _, d, h => by cases n <;> cases d <;> simp [cvB] at h
  | n, .int _ _, .non, h => by cases n <;> simp [cvB] at h
  | n, .int _ _, .bl _, h => by cases n <;> simp [cvB] at h
  | n, .int _ _, .str _, h => by cases n <;> simp [cvB] at h
  | n, .int _ _, .tup _, h => by cases n <;> simp [cvB] at h
  | n, .int _ _, .lst _, h => by cases n <;> simp [cvB] at h
  | n, .int _ _, .dK _, h => by cases n <;> simp [cvB] at h
  | n, .int _ _, .dT _, h => by cases n <;> simp [cvB] at h
  | n, .int _ _, .ins _ _, h => by cases n <;> simp [cvB] at h
  | n, .int _ _, .fzl _, h => by cases n <;> simp [cvB] at h
  | n, .int _ _, .exn _ _, h => by cases n <;> simp [cvB] at h
  | n, .str _ _, .non, h => by cases n <;> simp [cvB] at h
  | n, .str _ _, .bl _, h => by cases n <;> simp [cvB] at h
  | n, .str _ _, .int _, h => by cases n <;> simp [cvB] at h
  | n, .str _ _, .tup _, h => by cases n <;> simp [cvB] at h
  | n, .str _ _, .lst _, h => by cases n <;> simp [cvB] at h
  | n, .str _ _, .dK _, h => by cases n <;> simp [cvB] at h
  | n, .str _ _, .dT _, h => by cases n <;> simp [cvB] at h
  | n, .str _ _, .ins _ _, h => by cases n <;> simp [cvB] at h
  | n, .str _ _, .fzl _, h => by cases n <;> simp [cvB] at h
  | n, .str _ _, .exn _ _, h => by cases n <;> simp [cvB] at h
  | n, .ref _, .non, h => by cases n <;> simp [cvB] at h
  | n, .ref _, .bl _, h => by cases n <;> simp [cvB] at h
  | n, .ref _, .int _, h => by cases n <;> simp [cvB] at h
  | n, .ref _, .str _, h => by cases n <;> simp [cvB] at h
  | n, .ref _, .lst _, h => by cases n <;> simp [cvB] at h
  | n, .ref _, .dK _, h => by cases n <;> simp [cvB] at h
  | n, .ref _, .dT _, h => by cases n <;> simp [cvB] at h
  | n, .ref _, .ins _ _, h => by cases n <;> simp [cvB] at h
  | n, .ref _, .fzl _, h => by cases n <;> simp [cvB] at h
  | n, .ref _, .exn _ _, h => by cases n <;> simp [cvB] at h
  | n, .bytes _ _, d, h => by cases n <;> cases d <;> simp [cvB] at h
  | n, .float _ _, d, h => by cases n <;> cases d <;> simp [cvB] at h
  | n, .type _, d, h => by cases n <;> cases d <;> simp [cvB] at h
  | n, .builtin _, d, h => by cases n <;> cases d <;> simp [cvB] at h
  | n, .ellipsis, d, h => by cases n <;> cases d <;> simp [cvB] at h
  | n, .notImplemented, d, h => by cases n <;> cases d <;> simp [cvB] at h
theorem cvsB_ok {K : PySem.W.Frag} : ∀ (n : Nat) (vs : List Value) (ds : List D), cvsB K n vs ds = true → ∃ xs : List V, Vals xs vs ∧ ∀ cl H, RpL K cl H xs ds []
  | n, [], [], _ => ⟨[], .nil, fun _ _ => .nil⟩
  | n, v :: vs, d :: ds, h => by
    simp only [cvsB, Bool.and_eq_true] at h
    obtain ⟨x, r1, r2, _⟩ := cvB_ok n v d h.1
    obtain ⟨xs, q1, q2⟩ := cvsB_ok n vs ds h.2
    exact ⟨x :: xs, .cons r1 q1, fun cl H => .cons (r2 cl H) (q2 cl H)⟩
  | n, [], _ :: _, h => by simp [cvsB] at h
  | n, _ :: _, [], h => by simp [cvsB] at h
end
def cstB (K : PySem.W.Frag) (x : Str) (d : D) : Bool := match PySem.W.nsIn K mainGlobals x with
  | some (some v) => cvB K 3 v d
  | _ => false
/-- what a head's look asks: the exceptions' classes, the constants -/
def mB (cs : List (Str × D)) (K : PySem.W.Frag) : Bool := exB K && cs.all fun p => cstB K p.1 p.2
def Cst (K : PySem.W.Frag) (mg : Str → Option Value) (x : Str) (d : D) : Prop := ∃ (v : Value) (w : V), mg x = some v ∧ RelV w v ∧ ∀ cl H, Rp K cl H w d []
structure Faz (fa : List He.Fa) (fn : List He.DefD) (cs : List (Str × D)) (K : PySem.W.Frag) (mg : Str → Option Value) : Prop extends Fax fa fn K mg where
  cst : ∀ (i : Nat) {x : Str} {d : D}, cs[i]? = some (x, d) → Cst K mg x d
theorem faz_of {fa : List He.Fa} {fn : List He.DefD} {cs : List (Str × D)} {w : World} {h : Heap} {K : PySem.W.Frag} {mg : Str → Option Value} (X : K.In h) (G : h.Ns mainGlobals mg) (c : He.SaysX fa fn [] [] (mB cs) w h K) : Faz fa fn cs K mg := by
  have hm := Bool.and_eq_true_iff.mp c.more
  refine { s := c.t.d, x := exB_ok X G hm.1, glo := fun i x e => He.glo_ok X G (c.t.d.fact i e), free := fun i x e => He.free_ok X G (c.t.d.fact i e), cst := fun i x d e => ?_ }
  have hp := List.all_eq_true.mp hm.2 (x, d) (List.mem_of_getElem? e)
  unfold cstB at hp
  dsimp only at hp
  split at hp
  · rename_i v ev
    obtain ⟨y, r1, r2, _⟩ := cvB_ok 3 v d hp
    exact ⟨v, y, PySem.W.mg_of X G ev, r1, r2⟩
  · cases hp
section
variable {X : Cx} {W : WX} {Z : SC} {Γx Γ Γ' : Ctx} {n r : Nat} {m m1 m2 m3 : List Nat} {σ : St} {H : Hp} {lab : Labs} {σD : List D} {pos p px apos ipos : Pos} {R : List Lab} {k k1 : Kd} {ks : List AK} {gs : List D → ER (List D)} {tg e ie : Expr} {x : Str} {g gi : List D → ER D}
theorem ej_cst {d : D} (c : Cst X.K X.mg x d) (hg : Gl X x := by rfl) (hdb : (x == ("__debug__" : Str)) = false := by decide) : EJ X W Γx Γ n [] (.Name x pos) (eC d) .own := by
  obtain ⟨v, w, h1, h2, h3⟩ := c
  exact ej_c (pe_glob hg h1 h2 hdb) fun H => h3 _ H
theorem SR.mut2 {a : Addr} {v : V} {u o : HO} {f' fz : List Addr} {d' : D} (s : SR X Γ σ H lab σD) (g : gok Γ n = true) (hb : noBor Γ r = true) (hΓ : Γ[r]? = some (some .own)) (hσ : σ[r]? = some (some v)) (ha : H a = some u) (mu : isMut u)
    (rp : Rp X.K (clX X) (upd H a o) v d' f') (nd : (f' ++ fz).Nodup) (hl : ∀ b ∈ a :: (f' ++ fz), lab b = .slt r ∨ ∃ j, n ≤ j ∧ lab b = .tmp j) :
    SR X Γ σ (upd H a o) (labMut r n f' fz lab) (σD.set r d') ∧ Pres [r] n H lab (upd H a o) (labMut r n f' fz lab) := by
  have nk : ∀ b ∈ a :: (f' ++ fz), keepL [r] n (lab b) = false := fun b hb => by
    rcases hl b hb with e | ⟨j, hj, e⟩
    · rw [e]; simp [keepL]
    · rw [e]; simp [keepL]; omega
  have P1 : Pres [r] n H lab (upd H a o) lab := .mut ha mu (nk a List.mem_cons_self)
  have P2 : Pres [r] n (upd H a o) lab (upd H a o) (labMut r n f' fz lab) := .relab (fun b hk => by
    unfold labMut
    rw [if_neg (fun z => by rw [nk b (List.mem_cons_of_mem _ (List.mem_append_right _ z))] at hk; exact Bool.noConfusion hk), if_neg (fun z => by rw [nk b (List.mem_cons_of_mem _ (List.mem_append_left _ z))] at hk; exact Bool.noConfusion hk)]) fun b ho => by
    unfold labMut at ho ⊢
    split at ho
    · cases ho
    · rename_i h1
      split at ho
      · cases ho
      · rename_i h2
        rw [if_neg h1, if_neg h2]
  have P := P1.trans P2 (SubK.refl _ _) (SubK.refl _ _)
  refine ⟨⟨s.l1, by rw [List.length_set]; exact s.l2, fun i k e => ?_⟩, P⟩
  obtain ⟨w, d, h1, h2, h3⟩ := s.at_ i k e
  by_cases ne : i = r
  · subst ne
    rw [hσ] at h1
    cases h1
    rw [hΓ] at e
    cases e
    refine ⟨v, d', hσ, List.getElem?_set_self (List.getElem?_eq_some_iff.mp h2).1, f', rp, (List.nodup_append.mp nd).1, fun b hb => ?_⟩
    unfold labMut
    rw [if_neg fun z => (List.nodup_append.mp nd).2.2 b hb b z rfl, if_pos hb]
  · obtain ⟨g1, g2⟩ := noBor.at_ hb g e ne
    exact ⟨w, d, h1, by rw [List.getElem?_set_ne (Ne.symm ne)]; exact h2, h3.pres P g1 g2⟩
end
end Ow


namespace Ow
open PySem PySem.Spec PyProof.Rows L2
section
variable {X : Cx} {W : WX} {Z : SC} {Γx Γ Γ' : Ctx} {n r x : Nat} {m m1 m2 m3 : List Nat} {σ : St} {H : Hp} {lab : Labs} {σD : List D} {pos p px apos ipos tpos : Pos} {R : List Lab} {k k1 : Kd} {ks : List AK} {gs : List D → ER (List D)} {tg e ie : Expr} {nx : Str} {g gi : List D → ER D}
end
end Ow


namespace Ow
open PySem PySem.Spec PyProof.Rows L2
section
variable {X : Cx} {W : WX} {Z : SC} {Γx Γ Γ' : Ctx} {n r : Nat} {m m1 m2 m3 : List Nat} {σ : St} {H : Hp} {lab : Labs} {σD : List D} {pos p px apos cpos ipos tpos : Pos} {R : List Lab} {k k1 : Kd} {ks : List AK} {gs : List D → ER (List D)} {tg e ie a b : Expr} {x : Str} {g gi ga gb gv gk : List D → ER D}
end
section
variable {κ : Type} [DecidableEq κ]
def dFind (kds : List (κ × D)) (k : κ) : Option D := (kds.find? fun kv => decide (kv.1 = k)).map (·.2)
def dPut (kds : List (κ × D)) (k : κ) (d : D) : List (κ × D) :=
  if (kds.any fun kv => decide (kv.1 = k)) = true then kds.map (fun kv => if kv.1 = k then (kv.1, d) else kv) else kds ++ [(k, d)]
variable {K : PySem.W.Frag} {cl : CE} {H : Hp}
end
/-- a key -/
def D.key : D → Option Key
  | .int i => some (.inl i)
  | .str s => some (.inr s)
  | _ => none
section
variable {X : Cx} {W : WX} {Z : SC} {Γx Γ Γ' : Ctx} {n r : Nat} {m m1 m2 m3 : List Nat} {σ : St} {H : Hp} {lab : Labs} {σD : List D} {pos p px apos cpos ipos tpos : Pos} {R : List Lab} {k k1 : Kd} {ks : List AK} {gs : List D → ER (List D)} {tg e ie a b : Expr} {x : Str} {g gi ga gb gv gk : List D → ER D}
def eDNew : List D → ER D := fun σ => .ok (.dK []) σ
def dPutD (c q v : D) : Option D := match c with
  | .dK kds => if v.flat = true ∧ kds.length < sizeLine then q.key.map fun z => .dK (dPut kds z v) else none
  | _ => none
end
section
variable {X : Cx} {W : WX} {Z : SC} {Γx Γ Γ' : Ctx} {n r : Nat} {m m1 m2 m3 : List Nat} {σ : St} {H : Hp} {lab : Labs} {σD : List D} {pos p px apos cpos ipos tpos : Pos} {R : List Lab} {k k1 : Kd} {ks : List AK} {gs : List D → ER (List D)} {tg e ie a b c : Expr} {x : Str} {g gi ga gb gv gk gc : List D → ER D}
theorem hu1 {j : Nat} {A : Around} (h : Room j A) : A.units + 1 < cLine := by have := h.un; omega
/-- d[q] = v -/
def sSetD (r : Nat) (gv gi : List D → ER D) : List D → SO := sOf gv fun v => sOf gi fun i σ => match dPutD (σ.getD r .non) i v with
  | some c => .nxt (σ.set r c)
  | none => .stuck
def eChain (f f' : D → D → Option D) (ga gb gc : List D → ER D) : List D → ER D := fun σ => (ga σ).bind fun x σ1 => (gb σ1).bind fun y σ2 => match f x y with
  | some (.bl true) => (gc σ2).bind fun z σ3 => ofO (f' y z) σ3
  | some (.bl false) => .ok (.bl false) σ2
  | _ => .stuck
theorem chain_imp {f f' : D → D → Option D} {r r' : R2} {k2 : Kd} (hf : ScalOp f r) (hf' : ScalOp f' r') {Q : VK} (h : rdE X W Γx Γ n (m1 ++ (m2 ++ m3)) .own (eChain f f' ga gb gc) σ H Q) :
    tChain r r' (rdE X W Γx Γ n m1 k ga) (rdE X W Γx Γ n m2 k1 gb) (rdE X W Γx Γ n m3 k2 gc) σ H Q := by
  obtain ⟨σD, lab, g0, s, po⟩ := h
  refine ⟨σD, lab, g0, s, po.seq' fun x σD1 v H1 lab1 s1 p1 r1 po1 => ?_⟩
  refine ⟨σD1, lab1, g0, s1, po1.seq' fun y σD2 w H2 lab2 s2 p2 r2 po2 => ?_⟩
  cases e : f x y with
  | none => rw [e] at po2; exact po2.elim
  | some z =>
    obtain ⟨zv, sv, hr⟩ := hf x y z e
    rw [e] at po2
    cases z with
    | bl q =>
      cases sv
      refine hr _ _ _ _ H2 _ _ _ _ _ _ _ _ _ r1 r2 ⟨q, rfl, ?_⟩
      cases q with
      | false =>
        rw [if_neg (by decide)]
        exact po2 _ H2 lab2 s2 (.refl _ _ _ _) (SV.bl _).vr
      | true =>
        rw [if_pos rfl]
        refine ⟨σD2, lab2, g0, s2, Post.last po2 fun u σD3 uv H3 lab3 s3 p3 r3 po3 => ?_⟩
        obtain ⟨z, e2, q⟩ := po3.done
        obtain ⟨zv, sv, hr⟩ := hf' y u z e2
        exact hr _ _ _ _ _ _ _ _ _ _ _ _ _ _ r2 r3 (q zv _ _ s3 (.refl _ _ _ _) sv.vr)
    | _ => exact po2.elim
theorem ej_chain {op op' : CmpOp} {f f' : D → D → Option D} {r r' : R2} {k2 : Kd} (hf : ScalOp f r) (hf' : ScalOp f' r') (ho : OpR X (compareOp op) r) (ho' : OpR X (compareOp op') r') (ha : EJ X W Γx Γ n m1 a ga k) (hb : EJ X W Γx Γ n m2 b gb k1) (hc : EJ X W Γx Γ n m3 c gc k2)
    (hm : lastMarks [op, op'] [b, c] = false := by with_unfolding_all rfl) : EJ X W Γx Γ n (m1 ++ (m2 ++ m3)) (.Compare a [op, op'] [b, c] pos) (eChain f f' ga gb gc) .own :=
  pe_imp (pe_chain ho ho' ha hb hc hm) fun σ H Q h => chain_imp hf hf' h
end
end Ow



namespace Ow
open PySem PySem.Spec PyProof.Rows L2
section
variable {X : Cx} {W : WX} {Z : SC} {Γx Γ Γ' : Ctx} {n r : Nat} {m m1 m2 m3 : List Nat} {σ : St} {H : Hp} {lab : Labs} {σD : List D} {pos p px apos cpos ipos tpos : Pos} {R : List Lab} {k k1 : Kd} {ks : List AK} {gs : List D → ER (List D)} {tg e ie a b c : Expr} {x : Str} {g gi ga gb gv gk gc : List D → ER D}
theorem notin_imp (ok : okK m2 (n + 1) k = true) (σ : St) (H : Hp) (Q : VK) (h : rdE X W Γx Γ n (m1 ++ m2) .own (eBin dNotIn ga gb) σ H Q) : tOp (rNotInD X.K) (rdE X W Γx Γ n m1 k ga) (rdE X W Γx Γ (n + 1) m2 k1 gb) σ H Q := by
  obtain ⟨σD, lab, g0, s, po⟩ := h
  refine ⟨σD, lab, g0, s, po.seq' fun x σD1 v H1 lab1 s1 p1 r1 po1 => ?_⟩
  refine ⟨σD1, lab1, gok.up g0, s1, po1.seq (SubK.up _ _) (Nat.le_succ _) (SubK.nil _ _) (Nat.le_refl _) fun y σD2 w H2 lab2 s2 p2 r2 po2 => ?_⟩
  have r1 := VR.pres p2 r1 ok (by simp [keepL])
  obtain ⟨z, e, q⟩ := po2.done
  unfold dNotIn dIn at e
  split at e
  · rename_i ds
    split at e
    · rename_i hd
      cases e
      obtain ⟨f1, q1⟩ := r1.rp (D.dat_noE hd.1)
      obtain ⟨f2, q2⟩ := r2.rp rfl
      refine ⟨x.py, D.pys ds, q1.dp hd.1, q2.dp hd.2, D.shaped hd.1, D.shaped hd.2, ?_⟩
      have : (D.pys ds).any (fun z => PyData.eqv z x.py) = ds.any fun z => z.eqv x := by
        rw [D.pys_map, List.any_map]; rfl
      rw [this]
      exact q _ H2 lab2 s2 (.refl _ _ _ _) (SV.bl _).vr
    · cases e
  · cases e
theorem tj_notin (hu : X.A.units + 65 < cLine) (ha : EJ X W Γx Γ n m1 a ga k) (hb : EJ X W Γx Γ (n + 1) m2 b gb k1) (ok : okK m2 (n + 1) k = true := by decide) (hm : behindInMarks .NotIn b = false := by rfl) : TJ X W Γx Γ n (m1 ++ m2) (.Compare a [.NotIn] [b] pos) (tOf (eBin dNotIn ga gb)) :=
  pt_imp (pt_cmpR (op_notInD hu) ha hb hm) fun σ H Q h => tof_imp (fun σ H Q q => notin_imp ok σ H Q q) σ H Q h
end
end Ow


namespace Ow
open PySem PySem.Spec PyProof.Rows L2
/-- what is scalar, as a value -/
def D.scal : D → Bool
  | .non => true
  | .bl _ => true
  | .int _ => true
  | .str _ => true
  | _ => false
def D.sv : D → V
  | .bl b => .bl b
  | .int i => .int i
  | .str s => .str s
  | _ => .non
section
variable {K : PySem.W.Frag} {cl : CE} {H : Hp}
theorem Rp.sv {v : V} {d : D} {fp : List Addr} (r : Rp K cl H v d fp) (h : d.scal = true) : v = d.sv := by
  cases r <;> first | rfl | cases h
theorem RpL.sv : ∀ {vs : List V} {ds : List D} {fp : List Addr}, RpL K cl H vs ds fp → ds.all D.scal = true → vs = ds.map D.sv
  | _, _, _, .nil, _ => rfl
  | _, _, _, .cons h r, e => by
    rw [List.all_cons, Bool.and_eq_true] at e
    rw [List.map_cons, h.sv e.1, RpL.sv r e.2]
theorem RpL.cut : ∀ {vs : List V} {ds : List D} {f : List Addr} (k : Nat), RpL K cl H vs ds f → ∃ f1 f2, f = f1 ++ f2 ∧ RpL K cl H (vs.take k) (ds.take k) f1 ∧ RpL K cl H (vs.drop k) (ds.drop k) f2
  | _, _, _, 0, r => ⟨[], _, rfl, .nil, r⟩
  | _, _, _, k + 1, .nil => ⟨[], [], rfl, .nil, .nil⟩
  | _, _, _, k + 1, .cons h r => by
    obtain ⟨f1, f2, rfl, a, b⟩ := RpL.cut k r
    exact ⟨_, f2, (List.append_assoc _ _ _).symm, .cons h a, b⟩
end
def dIsB (x y : D) : Option D := match x, y with
  | .bl a, .bl b => some (.bl (decide (a = b)))
  | _, _ => none
def dIsNotB (x y : D) : Option D := match x, y with
  | .bl a, .bl b => some (.bl (!decide (a = b)))
  | _, _ => none
def intsOf : List D → Option (List Int)
  | [] => some []
  | .int i :: ds => (intsOf ds).map (i :: ·)
  | _ :: _ => none
section
variable {X : Cx} {W : WX} {Z : SC} {Γx Γ Γ' : Ctx} {n r : Nat} {m m1 m2 m3 : List Nat} {σ : St} {H : Hp} {lab : Labs} {σD : List D} {pos p px apos cpos ipos tpos : Pos} {R : List Lab} {k k1 : Kd} {ks : List AK} {gs : List D → ER (List D)} {tg e ie a b c : Expr} {x : Str} {g gi ga gb gv gk gc : List D → ER D}
theorem dIsB_ok : ∀ x y z, dIsB x y = some z → ∃ c, z = .bl c ∧ (x.noE = true ∧ y.noE = true) ∧ ∀ H v w fp fq (Q : VK), Rp X.K (clX X) H v x fp → Rp X.K (clX X) H w y fq → Q (.bl c) H → rIsB v w H Q := fun x y z e => by
  unfold dIsB at e
  split at e
  · cases e
    refine ⟨_, rfl, ⟨rfl, rfl⟩, fun H v w fp fq Q rx ry q => ?_⟩
    cases rx
    cases ry
    exact ⟨_, _, rfl, rfl, q⟩
  · cases e
theorem dIsNotB_ok : ∀ x y z, dIsNotB x y = some z → ∃ c, z = .bl c ∧ (x.noE = true ∧ y.noE = true) ∧ ∀ H v w fp fq (Q : VK), Rp X.K (clX X) H v x fp → Rp X.K (clX X) H w y fq → Q (.bl c) H → rNotB v w H Q := fun x y z e => by
  unfold dIsNotB at e
  split at e
  · cases e
    refine ⟨_, rfl, ⟨rfl, rfl⟩, fun H v w fp fq Q rx ry q => ?_⟩
    cases rx
    cases ry
    exact ⟨_, _, rfl, rfl, q⟩
  · cases e
section
variable {op : CmpOp} {rr : R2} {f : D → D → Option D}
theorem ej_cmpG (ho : OpR X (compareOp op) rr) (hf : ∀ x y z, f x y = some z → ∃ c, z = .bl c ∧ (x.noE = true ∧ y.noE = true) ∧ ∀ H v w fp fq (Q : VK), Rp X.K (clX X) H v x fp → Rp X.K (clX X) H w y fq → Q (.bl c) H → rr v w H Q)
    (ha : EJ X W Γx Γ n m1 a ga k) (hb : EJ X W Γx Γ (n + 1) m2 b gb k1) (ok : okK m2 (n + 1) k = true := by decide) (hm : behindInMarks op b = false := by rfl) : EJ X W Γx Γ n (m1 ++ m2) (.Compare a [op] [b] pos) (eBin f ga gb) .own :=
  pe_imp (pe_cmpR ho ha hb hm) fun σ H Q h => eq_imp hf (fun _ _ _ q => q) (fun _ _ _ q => q) ok σ H Q h
theorem tj_cmpG (ho : OpR X (compareOp op) rr) (hf : ∀ x y z, f x y = some z → ∃ c, z = .bl c ∧ (x.noE = true ∧ y.noE = true) ∧ ∀ H v w fp fq (Q : VK), Rp X.K (clX X) H v x fp → Rp X.K (clX X) H w y fq → Q (.bl c) H → rr v w H Q)
    (ha : EJ X W Γx Γ n m1 a ga k) (hb : EJ X W Γx Γ (n + 1) m2 b gb k1) (ok : okK m2 (n + 1) k = true := by decide) (hm : behindInMarks op b = false := by rfl) : TJ X W Γx Γ n (m1 ++ m2) (.Compare a [op] [b] pos) (tOf (eBin f ga gb)) :=
  pt_imp (pt_cmpR ho ha hb hm) fun σ H Q h => tof_imp (fun σ H Q q => eq_imp hf (fun _ _ _ q => q) (fun _ _ _ q => q) ok σ H Q q) σ H Q h
end
end
end Ow


namespace Ow
open PySem PySem.Spec PyProof.Rows L2
section
variable {X : Cx} {W : WX} {Z : SC} {Γ : Ctx} {n : Nat} {m : List Nat} {pos : Pos}
end
end Ow


namespace Ow
open PySem PySem.Spec PyProof.Rows L2
def sUnpL (is : List Nat) (g : List D → ER D) : List D → SO := sOf g fun d σ1 => match d with
  | .lst ds => (match setMany is ds σ1 with
    | some σ2 => .nxt σ2
    | none => .stuck)
  | _ => .stuck
section
variable {X : Cx} {W : WX} {Z : SC} {Γ : Ctx} {n : Nat} {m : List Nat} {pos : Pos} {H : Hp}
/-- each item has addresses of its own label -/
inductive Each (K : PySem.W.Frag) (cl : CE) (H : Hp) (lab : Labs) : Nat → List V → List D → List Addr → Prop
  | nil {n : Nat} : Each K cl H lab n [] [] []
  | cons {n : Nat} {v : V} {d : D} {vs : List V} {ds : List D} {f1 f2 : List Addr} (h : Rp K cl H v d f1) (nd : f1.Nodup) (l : ∀ a ∈ f1, lab a = .tmp n) (r : Each K cl H lab (n + 1) vs ds f2) : Each K cl H lab n (v :: vs) (d :: ds) (f1 ++ f2)
theorem Each.put {K : PySem.W.Frag} {cl : CE} {lab : Labs} {i k : Nat} : ∀ {n : Nat} {vs : List V} {ds : List D} {f : List Addr}, k < n → Each K cl H lab n vs ds f → Each K cl H (labPut i k lab) n vs ds f
  | _, _, _, _, _, .nil => .nil
  | n, _, _, _, hk, .cons h nd l r => by
    refine .cons h nd (fun a ha => ?_) (Each.put (by omega) r)
    have e := l a ha
    unfold labPut
    rw [e, if_neg (by intro z; cases z), if_neg (by intro z; injection z; omega)]
end
end Ow


namespace Ow
open PySem PySem.Spec PyProof.Rows L2
section
variable {X : Cx} {W : WX} {Γx Γ : Ctx} {n : Nat} {m : List Nat} {pos p : Pos} {k : Kd} {gs : List D → ER (List D)} {e : Expr}
theorem rp_ints {K : PySem.W.Frag} {cl : CE} {H : Hp} : ∀ {vs : List V} {ds : List D} {fp : List Addr} {ns : List Int}, RpL K cl H vs ds fp → intsOf ds = some ns → vs = ns.map V.int
  | _, _, _, ns, .nil, e => by cases e; rfl
  | _, _, _, ns, .cons h r, e => by
    cases h with
    | int i =>
      unfold intsOf at e
      rw [Option.map_eq_some_iff] at e
      obtain ⟨l, e, rfl⟩ := e
      rw [List.map_cons, ← rp_ints r e]
    | _ => cases e
end
end Ow


namespace Ow
open PySem PySem.Spec PyProof.Rows L2
section
variable (X : Cx) (W : WX) (Γx Γ Γ' : Ctx) (n : Nat) (m : List Nat)
end
section
variable {α β γ δ : Type}
variable {X : Cx} {W : WX} {Γx Γ Γ1 Γ2 : Ctx} {σ : St} {m m1 m2 : List Nat} {n n1 n2 : Nat} {H H1 : Hp} {lab lab1 : Labs}
end
section
variable {X : Cx} {W : WX} {Z : SC} {Γx Γ Γ' Γ1 Γ2 : Ctx} {n r i : Nat} {m m1 m2 m3 : List Nat} {H : Hp} {lab : Labs} {pos p px apos : Pos} {k k1 : Kd} {ks : List AK} {gs : List D → ER (List D)} {e e2 a b : Expr} {es : List Expr} {x : Str} {g ga gb : List D → ER D} {fx : Nat → V} {E : Ends}
end
end Ow


namespace Ow
open PySem PySem.Spec PyProof.Rows L2
/-- what a row's part is -/
inductive Fk where
  | int | str | tup (d : Nat)
  deriving DecidableEq
/-- a text as numbers that are ordered alike; none is the beginning of another -/
def cpK (l : List Nat) : List Int := l.map (fun (c : Nat) => (c : Int) + 1) ++ [0]
def strK (x : Str) : List Int := cpK x.cps.toList
inductive FldsC (h : Heap) : List Fk → List Value → List Int → Prop
  | nil : FldsC h [] [] []
  | int {P : List Fk} {us : List Value} {ks : List Int} (i : Int) (t : Tok) (r : FldsC h P us ks) : FldsC h (.int :: P) (.int i t :: us) (i :: ks)
  | str {P : List Fk} {us : List Value} {ks : List Int} (x : Str) (t : Tok) (r : FldsC h P us ks) : FldsC h (.str :: P) (.str x t :: us) (strK x ++ ks)
  | tup {P : List Fk} {us : List Value} {ks : List Int} {d : Nat} {a : Addr} {its : Array Value} {ns : List Int} (h1 : IsTup h a its) (h2 : IntsAre its.toList ns) (hd : ns.length = d) (r : FldsC h P us ks) : FldsC h (.tup d :: P) (.ref a :: us) (ns ++ ks)
def RowC (h : Heap) (P : List Fk) (u : Value) (ks : List Int) : Prop := ∃ t its, u = .ref t ∧ IsTup h t its ∧ FldsC h P its.toList ks
def KeepH (h h' : Heap) : Prop := ∀ (b : Addr) (o : Obj), h.get? b = some o → h'.get? b = some o
theorem IsTup.keep {h h' : Heap} (k : KeepH h h') {a : Addr} {its : Array Value} (i : IsTup h a its) : IsTup h' a its := by
  obtain ⟨o, e, r⟩ := i
  exact ⟨o, k _ _ e, r⟩
theorem FldsC.keep {h h' : Heap} (k : KeepH h h') : ∀ {P : List Fk} {us : List Value} {ks : List Int}, FldsC h P us ks → FldsC h' P us ks
  | _, _, _, .nil => .nil
  | _, _, _, .int i t r => .int i t (r.keep k)
  | _, _, _, .str x t r => .str x t (r.keep k)
  | _, _, _, .tup h1 h2 hd r => .tup (IsTup.keep k h1) h2 hd (r.keep k)
theorem RowC.keep {h h' : Heap} (k : KeepH h h') {P : List Fk} {u : Value} {ks : List Int} (r : RowC h P u ks) : RowC h' P u ks := by
  obtain ⟨t, its, e, i, f⟩ := r
  exact ⟨t, its, e, IsTup.keep k i, f.keep k⟩
theorem FldsC.len {h : Heap} : ∀ {P : List Fk} {us : List Value} {ks : List Int}, FldsC h P us ks → us.length = P.length
  | _, _, _, .nil => rfl
  | _, _, _, .int i t r => by rw [List.length_cons, List.length_cons, r.len]
  | _, _, _, .str x t r => by rw [List.length_cons, List.length_cons, r.len]
  | _, _, _, .tup h1 h2 hd r => by rw [List.length_cons, List.length_cons, r.len]
theorem lex_app : ∀ (ns ms ks ls : List Int), ns.length = ms.length → HT.lexLt (ns ++ ks) (ms ++ ls) = if ns = ms then HT.lexLt ks ls else HT.lexLt ns ms
  | [], [], ks, ls, _ => by rw [if_pos rfl]; rfl
  | [], m :: ms, _, _, h => by simp at h
  | n :: ns, [], _, _, h => by simp at h
  | n :: ns, m :: ms, ks, ls, h => by
    rw [List.cons_append, List.cons_append, HT.lexLt, HT.lexLt, lex_app ns ms ks ls (by simpa using h)]
    by_cases e : n = m
    · subst e
      rw [if_pos rfl, if_pos rfl]
      by_cases e2 : ns = ms
      · subst e2; rw [if_pos rfl, if_pos rfl]
      · rw [if_neg e2, if_neg (fun q => e2 (List.cons.inj q).2)]
    · rw [if_neg e, if_neg e, if_neg (fun q => e (List.cons.inj q).1)]
theorem lex_cps : ∀ (a b : List Nat) (ks ls : List Int), HT.lexLt (cpK a ++ ks) (cpK b ++ ls) = if a = b then HT.lexLt ks ls else decide (a < b)
  | [], [], ks, ls => by rw [if_pos rfl]; show HT.lexLt (0 :: ks) (0 :: ls) = _; rw [HT.lexLt, if_pos rfl]
  | [], b :: bs, ks, ls => by
    rw [if_neg (by simp)]
    show HT.lexLt (0 :: ks) (((b : Int) + 1) :: (cpK bs ++ ls)) = _
    rw [HT.lexLt, if_neg (by omega), decide_eq_true (by omega), decide_eq_true (by simp)]
  | a :: as, [], ks, ls => by
    rw [if_neg (by simp)]
    show HT.lexLt (((a : Int) + 1) :: (cpK as ++ ks)) (0 :: ls) = _
    rw [HT.lexLt, if_neg (by omega), decide_eq_false (by omega), decide_eq_false (by simp)]
  | a :: as, b :: bs, ks, ls => by
    show HT.lexLt (((a : Int) + 1) :: (cpK as ++ ks)) (((b : Int) + 1) :: (cpK bs ++ ls)) = _
    rw [HT.lexLt, lex_cps as bs ks ls]
    by_cases e : a = b
    · subst e
      rw [if_pos rfl]
      by_cases e2 : as = bs
      · subst e2; rw [if_pos rfl, if_pos rfl]
      · rw [if_neg e2, if_neg (fun q => e2 (List.cons.inj q).2)]
        simp only [List.cons_lt_cons_iff, Nat.lt_irrefl, false_or, true_and]
    · rw [if_neg (by omega), if_neg (fun q => e (List.cons.inj q).1)]
      simp only [List.cons_lt_cons_iff, e, false_and, or_false]
      by_cases l : a < b
      · rw [decide_eq_true (by omega), decide_eq_true l]
      · rw [decide_eq_false (by omega), decide_eq_false l]
theorem str_cps {x y : Str} : x = y ↔ x.cps.toList = y.cps.toList := ⟨fun h => by rw [h], fun h => by
  cases x; cases y
  exact congrArg Str.mk (Array.toList_inj.mp h)⟩
theorem lex_str (x y : Str) (ks ls : List Int) : HT.lexLt (strK x ++ ks) (strK y ++ ls) = if x = y then HT.lexLt ks ls else decide (x.cps.toList < y.cps.toList) := by
  unfold strK
  rw [lex_cps]
  by_cases e : x = y
  · rw [if_pos e, if_pos (str_cps.mp e)]
  · rw [if_neg e, if_neg (fun q => e (str_cps.mpr q))]
theorem cpK_inj : ∀ {a b : List Nat} {ks ls : List Int}, cpK a ++ ks = cpK b ++ ls → a = b ∧ ks = ls
  | [], [], _, _, h => ⟨rfl, (List.cons.inj h).2⟩
  | [], b :: bs, _, _, h => by
    have := (List.cons.inj (show (0 : Int) :: _ = ((b : Int) + 1) :: _ from h)).1
    omega
  | a :: as, [], _, _, h => by
    have := (List.cons.inj (show ((a : Int) + 1) :: _ = (0 : Int) :: _ from h)).1
    omega
  | a :: as, b :: bs, ks, ls, h => by
    obtain ⟨h1, h2⟩ := List.cons.inj (show ((a : Int) + 1) :: (cpK as ++ ks) = ((b : Int) + 1) :: (cpK bs ++ ls) from h)
    obtain ⟨e1, e2⟩ := cpK_inj h2
    have : a = b := by omega
    exact ⟨by rw [this, e1], e2⟩
theorem lex_asym : ∀ (ns ms : List Int), HT.lexLt ns ms = true → HT.lexLt ms ns = false
  | [], [], _ => rfl
  | [], m :: ms, _ => rfl
  | n :: ns, [], h => by cases h
  | n :: ns, m :: ms, h => by
    rw [HT.lexLt] at h ⊢
    by_cases e : n = m
    · subst e
      rw [if_pos rfl] at h ⊢
      exact lex_asym ns ms h
    · rw [if_neg e] at h
      rw [if_neg (Ne.symm e)]
      have := of_decide_eq_true h
      exact decide_eq_false (by omega)
theorem lex_tr : ∀ (x y z : List Int), HT.lexLt y x = false → HT.lexLt z y = false → HT.lexLt z x = false
  | [], y, [], _, _ => rfl
  | [], [], z :: zs, _, _ => rfl
  | [], y :: ys, z :: zs, _, h2 => rfl
  | x :: xs, [], _, h1, _ => by cases h1
  | x :: xs, y :: ys, [], _, h2 => by cases h2
  | x :: xs, y :: ys, z :: zs, h1, h2 => by
    rw [HT.lexLt] at h1 h2 ⊢
    by_cases e1 : y = x
    · subst e1
      rw [if_pos rfl] at h1
      by_cases e2 : z = y
      · subst e2
        rw [if_pos rfl] at h2 ⊢
        exact lex_tr xs ys zs h1 h2
      · rw [if_neg e2] at h2 ⊢
        exact h2
    · rw [if_neg e1] at h1
      have h1 := of_decide_eq_false h1
      by_cases e2 : z = y
      · subst e2
        rw [if_neg e1]
        exact decide_eq_false h1
      · rw [if_neg e2] at h2
        have h2 := of_decide_eq_false h2
        rw [if_neg (by omega)]
        exact decide_eq_false (by omega)
theorem lex_anti : ∀ (x y : List Int), HT.lexLt y x = false → HT.lexLt x y = false → x = y
  | [], [], _, _ => rfl
  | [], y :: ys, _, h => by cases h
  | x :: xs, [], h, _ => by cases h
  | x :: xs, y :: ys, h1, h2 => by
    rw [HT.lexLt] at h1 h2
    by_cases e : y = x
    · subst e
      rw [if_pos rfl] at h1 h2
      rw [lex_anti xs ys h1 h2]
    · rw [if_neg e] at h1
      rw [if_neg (Ne.symm e)] at h2
      have h1 := of_decide_eq_false h1
      have h2 := of_decide_eq_false h2
      exact absurd (by omega) e
theorem swo_key {α : Type} (k : α → List Int) : SrtO.Swo fun x y => HT.lexLt (k x) (k y) := ⟨fun x y h => lex_asym _ _ h, fun x y z h1 h2 => lex_tr _ _ _ h1 h2⟩
section
variable {prog : Program} {w : World} {A : Around} {s : Shared}
theorem items_int {ks : List Int} {vs : List Value} (h : IntsAre vs ks) : ItemsAre (intKind prog w) ks vs := by
  induction h with
  | nil => exact .nil
  | cons n t h ih => exact .cons (by simp [intKind, Value.isInt]) ih
theorem flds_lex {b : Bool} {Q : Bool → Shared → Prop} (hu : A.units < cLine) : ∀ {P : List Fk} {us us' : List Value} {ks ks' : List Int} {i : Nat}, FldsC s.heap P us ks → FldsC s.heap P us' ks' → (b = true → i = 0 → ∀ d, P.head? ≠ some (.tup d)) → Q (HT.lexLt ks ks') s →
    PySem.W.KatLex prog w A b false Q (us.zip us') i s
  | _, _, _, _, _, i, .nil, .nil, _, q => PySem.W.kat_nil q
  | _, _, _, _, _, i, .int x t r, .int y t' r', hb, q => by
    refine PySem.W.kat_cons (wpAny_eqBool_int ?_)
    rw [HT.lexLt] at q
    by_cases e : x = y
    · subst e
      rw [if_pos rfl] at q
      rw [beq_self_eq_true]
      exact PySem.W.kat_yes (flds_lex hu r r' (fun _ z => by omega) q)
    · rw [if_neg e] at q
      rw [beq_eq_false_iff_ne.mpr e]
      exact PySem.W.kat_no (TS.oneLt_ints _ q)
  | _, _, _, _, _, i, .str x t r, .str y t' r', hb, q => by
    refine PySem.W.kat_cons (wpAny_eqBool_str ?_)
    rw [lex_str] at q
    by_cases e : x = y
    · rw [if_pos e] at q
      rw [decide_eq_true e]
      exact PySem.W.kat_yes (flds_lex hu r r' (fun _ z => by omega) q)
    · rw [if_neg e] at q
      rw [decide_eq_false e]
      exact PySem.W.kat_no (oneLt_any_str q)
  | _, _, _, _, _, i, .tup (ns := ns) h1 h2 hd r, .tup (ns := ms) g1 g2 gd r', hb, q => by
    refine PySem.W.kat_cons (wpAny_eqBool_tuple (knd := intKind prog w) (x := ns) (y := ms) hu ?_ ?_ ?_)
    · obtain ⟨o, a, b, n, c⟩ := h1
      exact ⟨o, _, n, a, b, c, items_int h2⟩
    · obtain ⟨o, a, b, n, c⟩ := g1
      exact ⟨o, _, n, a, b, c, items_int g2⟩
    · rw [lex_app _ _ _ _ (by rw [hd, gd])] at q
      by_cases e : ns = ms
      · rw [if_pos e] at q
        rw [decide_eq_true e]
        exact PySem.W.kat_yes (flds_lex hu r r' (fun _ z => by omega) q)
      · rw [if_neg e] at q
        rw [decide_eq_false e]
        have hb2 : (b && i == 0) = false := by
          cases b with
          | false => rfl
          | true =>
            by_cases z : i = 0
            · exact absurd rfl (hb rfl z _)
            · simp [z]
        refine PySem.W.kat_no ?_
        rw [hb2]
        exact PySem.W.kat_one _ _ (HT.lt_tupInts h1 g1 h2 g2 hu q)
def fkTy : Fk → Value
  | .int => .type "int"
  | .str => .type "str"
  | .tup _ => .type "tuple"
theorem looks_int {M : Model} {h : Heap} {i : Int} {t : Tok} : PySem.W.Looks M h (typeOf (.int i t)) (.type "int") := fun A Q E s _ q => wpAny_pure q
theorem looks_str {M : Model} {h : Heap} {x : Str} {t : Tok} : PySem.W.Looks M h (typeOf (.str x t)) (.type "str") := fun A Q E s _ q => wpAny_pure q
theorem rows_kind {M : Model} {h : Heap} {f : Fk} {P : List Fk} : ∀ {vs : List Value}, (∀ u ∈ vs, ∃ ks, RowC h (f :: P) u ks) → ∃ fs, PySem.W.KatTups h vs fs ∧ fs.length = vs.length ∧ ∀ v ∈ fs, PySem.W.Looks M h (typeOf v) (fkTy f)
  | [], _ => ⟨[], trivial, rfl, by simp⟩
  | u :: us, hr => by
    obtain ⟨fs, k, l, a⟩ := rows_kind (M := M) (vs := us) fun x hx => hr x (List.mem_cons_of_mem _ hx)
    obtain ⟨ks, t, its, rfl, ⟨o, e1, e2, n, e3⟩, fl⟩ := hr u List.mem_cons_self
    have key : ∃ v, its[0]? = some v ∧ PySem.W.Looks M h (typeOf v) (fkTy f) := by
      rw [← Array.getElem?_toList]
      generalize its.toList = us at fl
      cases fl with
      | int i t r => exact ⟨_, rfl, looks_int⟩
      | str x t r => exact ⟨_, rfl, looks_str⟩
      | tup h1 h2 hd r =>
        obtain ⟨o, a, b, _⟩ := h1
        exact ⟨_, rfl, PySem.W.kitAt_ty M h ⟨o, a, b⟩⟩
    obtain ⟨v, ev, lv⟩ := key
    exact ⟨v :: fs, ⟨⟨t, o, its, n, rfl, e1, e2, e3, ev⟩, k⟩, by simp [l], fun x hx => by
      rcases List.mem_cons.mp hx with rfl | hx
      · exact lv
      · exact a x hx⟩
theorem rows_sortable {f : Fk} {P : List Fk} {k : Value → List Int} {vs : List Value} {a : Addr} (hu : A.units < cLine) (hn : 2 ≤ vs.length) (hr : ∀ u ∈ vs, RowC s.heap (f :: P) u (k u)) (ha : ∀ o, s.heap.get? a = some o → o.cls ≠ .type "tuple") :
    SrtO.SortableO prog w A s a vs fun x y => HT.lexLt (k x) (k y) := by
  intro h' kp
  have kh : ∀ u ∈ vs, RowC h' (f :: P) u (k u) := fun u hu => by
    obtain ⟨t, its, e, i, fl⟩ := hr u hu
    have ne : ∀ {b : Addr} {its : Array Value}, IsTup s.heap b its → IsTup h' b its := fun {b its} i => by
      obtain ⟨o, e1, e2, e3⟩ := i
      exact ⟨o, kp _ _ (fun q => by subst q; exact ha _ e1 e2) e1, e2, e3⟩
    refine ⟨t, its, e, ne i, ?_⟩
    have go : ∀ {P : List Fk} {us : List Value} {ks : List Int}, FldsC s.heap P us ks → FldsC h' P us ks := by
      intro P us ks fl
      induction fl with
      | nil => exact .nil
      | int i t r ih => exact .int i t ih
      | str x t r ih => exact .str x t ih
      | tup h1 h2 hd r ih => exact .tup (ne h1) h2 hd ih
    exact go fl
  obtain ⟨fs, kt, kl, ka⟩ := rows_kind (M := model prog w) (vs := vs) fun u hu => ⟨_, kh u hu⟩
  refine ⟨tuples' (fkTy f != .type "tuple"), fun Q E q => ?_, ?_⟩
  · exact PySem.W.kat_kind kt (by omega) ka (by cases f <;> rfl) q
  · intro p q hp hq
    obtain ⟨t, its, e1, ⟨o, a1, a2, n, a3⟩, f1⟩ := kh p.1 hp
    obtain ⟨t', its', e1', ⟨o', b1, b2, n', b3⟩, f2⟩ := kh q.1 hq
    rw [e1, e1']
    refine PySem.W.kat_lt a1 a3 b1 b3 ?_
    have hs : its.size = its'.size := by
      have := f1.len
      have := f2.len
      simp only [Array.length_toList] at *
      omega
    rw [decide_eq_false (by omega)]
    refine flds_lex (s := ⟨h', s.gens, s.drawn, s.toks, s.os⟩) hu f1 f2 (fun hb _ d hd => ?_) ⟨rfl, ?_⟩
    · cases f with
      | int => cases hd
      | str => cases hd
      | tup d => cases hb
    · show _ = HT.lexLt (k p.1) (k q.1)
      rfl
end
inductive FldsV (K : PySem.W.Frag) (H : Hp) : List Fk → List V → List Int → Prop
  | nil : FldsV K H [] [] []
  | int {P : List Fk} {us : List V} {ks : List Int} (i : Int) (r : FldsV K H P us ks) : FldsV K H (.int :: P) (.int i :: us) (i :: ks)
  | str {P : List Fk} {us : List V} {ks : List Int} (x : Str) (r : FldsV K H P us ks) : FldsV K H (.str :: P) (.str x :: us) (strK x ++ ks)
  | tup {P : List Fk} {us : List V} {ks : List Int} {d : Nat} {a : Addr} {ns : List Int} (h1 : SqT K H a (ns.map V.int)) (hd : ns.length = d) (r : FldsV K H P us ks) : FldsV K H (.tup d :: P) (.ref a :: us) (ns ++ ks)
def RowV (K : PySem.W.Frag) (H : Hp) (P : List Fk) (u : V) (ks : List Int) : Prop := ∃ t fs, u = .ref t ∧ SqT K H t fs ∧ FldsV K H P fs ks
theorem FldsV.conc {X : Cx} {pins : List (Addr × Obj)} {σ : St} {H : Hp} {s : Shared} (I : Inv X pins σ H s) : ∀ {P : List Fk} {fs : List V} {ks : List Int} {us : List Value}, FldsV X.K H P fs ks → Vals fs us → FldsC s.heap P us ks
  | _, _, _, _, .nil, r => by cases r; exact .nil
  | _, _, _, _, .int i r, v => by
    cases v with
    | cons a b =>
      obtain ⟨t, rfl⟩ := a
      exact .int i t (r.conc I b)
  | _, _, _, _, .str x r, v => by
    cases v with
    | cons a b =>
      obtain ⟨t, rfl⟩ := a
      exact .str x t (r.conc I b)
  | _, _, _, _, .tup h1 hd r, v => by
    cases v with
    | cons a b =>
      have a : _ = Value.ref _ := a
      subst a
      obtain ⟨its, r1, p1, _⟩ := Inv.tuple I h1
      exact .tup p1 (by rw [List.toList_toArray]; exact intsAre_of r1) hd (r.conc I b)
theorem RowV.conc {X : Cx} {pins : List (Addr × Obj)} {σ : St} {H : Hp} {s : Shared} (I : Inv X pins σ H s) {P : List Fk} {x : V} {ks : List Int} {u : Value} (h : RowV X.K H P x ks) (r : RelV x u) : RowC s.heap P u ks := by
  obtain ⟨t, fs, rfl, h1, h2⟩ := h
  have r : u = Value.ref t := r
  subst r
  obtain ⟨its, r1, p1, _⟩ := Inv.tuple I h1
  exact ⟨t, its.toArray, rfl, p1, by rw [List.toList_toArray]; exact h2.conc I r1⟩
theorem ints_fun : ∀ {vs : List Value} {ns ms : List Int}, IntsAre vs ns → IntsAre vs ms → ns = ms
  | _, _, _, .nil, .nil => rfl
  | _, _, _, .cons n t h, .cons _ _ g => by rw [ints_fun h g]
theorem FldsC.fn {h : Heap} : ∀ {P : List Fk} {us : List Value} {ks ls : List Int}, FldsC h P us ks → FldsC h P us ls → ks = ls
  | _, _, _, _, .nil, .nil => rfl
  | _, _, _, _, .int i t r, .int _ _ r' => by rw [r.fn r']
  | _, _, _, _, .str x t r, .str _ _ r' => by rw [r.fn r']
  | _, _, _, _, .tup h1 h2 hd r, .tup g1 g2 gd r' => by
    obtain ⟨o, a, _, n, b⟩ := h1
    obtain ⟨o', a', _, n', b'⟩ := g1
    rw [a] at a'
    cases a'
    rw [b] at b'
    injection b' with e
    subst e
    rw [ints_fun h2 g2, r.fn r']
theorem RowC.fn {h : Heap} {P : List Fk} {u : Value} {ks ls : List Int} (r : RowC h P u ks) (q : RowC h P u ls) : ks = ls := by
  obtain ⟨t, its, rfl, ⟨o, a, _, n, b⟩, f⟩ := r
  obtain ⟨t', its', e, ⟨o', a', _, n', b'⟩, f'⟩ := q
  cases e
  rw [a] at a'
  cases a'
  rw [b] at b'
  injection b' with e
  subst e
  exact f.fn f'
def rSortedF (K : PySem.W.Frag) (f : Fk) (P : List Fk) : List V → Hp → VK → Prop := fun vs H Q => ∃ (a : Addr) (zs : List (V × List Int)), vs = [.ref a] ∧ SqL K H a (zs.map (·.1)) ∧ (∀ z ∈ zs, RowV K H (f :: P) z.1 z.2) ∧ ∀ (ys : List (V × List Int)) (p : Addr), ys.Pairwise (fun x y => HT.lexLt y.2 x.2 = false) → ys.Perm zs → H p = none → Q (.ref p) (upd H p (.lst (ys.map (·.1))))
theorem cr_sortedF {X : Cx} {f : Fk} {P : List Fk} (hu : X.A.units + 64 < cLine) : CallR X (.builtin "sorted") (rSortedF X.K f P) := by
  rintro pins s σ H vs us Q I r ⟨a, zs, rfl, hs, hx, q⟩
  obtain ⟨its, rv, hl, hz⟩ := Inv.list I hs
  obtain ⟨u, rfl, ru⟩ := vals1 r
  have ru : u = Value.ref a := ru
  subst ru
  obtain ⟨e1, e2⟩ := refs_back rv fun x m => by
    obtain ⟨z, hz, rfl⟩ := List.mem_map.mp m
    obtain ⟨t, fs, e, _⟩ := hx z hz
    exact ⟨t, e⟩
  let k : Value → List Int := fun u => open Classical in if h : ∃ ks, RowC s.heap (f :: P) u ks then Classical.choose h else []
  have kOf : ∀ {u : Value} {ks : List Int}, RowC s.heap (f :: P) u ks → k u = ks := fun {u ks} h => by
    have e : ∃ ks, RowC s.heap (f :: P) u ks := ⟨ks, h⟩
    show (open Classical in if h : ∃ ks, RowC s.heap (f :: P) u ks then Classical.choose h else []) = ks
    rw [dif_pos e]
    exact (Classical.choose_spec e).fn h
  have pair : ∀ {zs : List (V × List Int)} {its : List Value}, Vals (zs.map (·.1)) its → (∀ z ∈ zs, RowV X.K H (f :: P) z.1 z.2) → its.map (fun u => (backV u, k u)) = zs ∧ ∀ u ∈ its, RowC s.heap (f :: P) u (k u) := by
    intro zs
    induction zs with
    | nil =>
      intro its v _
      cases v
      exact ⟨rfl, by simp⟩
    | cons z zs ih =>
      intro its v hx
      cases v with
      | cons a b =>
        rename_i u us
        obtain ⟨i1, i2⟩ := ih b fun x h => hx x (List.mem_cons_of_mem _ h)
        have rc := (hx z List.mem_cons_self).conc I a
        have ke := kOf rc
        have bk : backV u = z.1 := by
          obtain ⟨t, fs, e, _⟩ := hx z List.mem_cons_self
          have a : RelV z.1 u := a
          rw [e] at a
          have a : u = Value.ref t := a
          rw [e, a]
          rfl
        refine ⟨?_, fun x h => ?_⟩
        · rw [List.map_cons, i1, bk, ke]
        · rcases List.mem_cons.mp h with rfl | h
          · rw [ke]; exact rc
          · exact i2 x h
  obtain ⟨pz, rows⟩ := pair rv hx
  have hz' : its.length ≤ sizeLine := by rw [← rv.length]; exact hz
  refine SrtO.sorted_ord (ltv := fun x y => HT.lexLt (k x) (k y)) (swo_key k) (PySem.PlainL.isList hl) hz' (fun h2 h₁ b hb hk => ?_) fun out h1 h2 => ?_
  · refine rows_sortable (k := k) (by show X.A.units + 2 < cLine; omega) h2 (fun u hu => (rows u hu).keep fun b o e => (hk b o e).2) fun o ho => ?_
    have e : o = seqObj "list" its.toArray 0 := Option.some.inj (ho.symm.trans hb)
    rw [e]
    intro z
    have z : Value.type "list" = Value.type "tuple" := z
    injection z with z
    exact absurd z (by decide)
  · obtain ⟨e, he⟩ := sortedAll_at s.heap its out.toArray
    have h3 : ∀ u ∈ out, ∃ a, u = Value.ref a := fun u hu => e2 u ((List.Perm.mem_iff h2.perm).mp hu)
    have hp : (out.map fun u => (backV u, k u)).Perm zs := by rw [← pz]; exact h2.perm.map _
    refine ⟨.ref (s.heap.objs.size + 1), upd H (s.heap.objs.size + 1) (.lst (out.map backV)), ?_, rfl, ?_⟩
    · refine Inv.laid I (fun b o hb => sortedAll_old hb) (Nat.le_succ _) ⟨?_, out, e, vals_back h3, he⟩
      rw [List.length_map]
      have := h2.perm.length_eq
      omega
    · have := q (out.map fun u => (backV u, k u)) (s.heap.objs.size + 1) (by rw [List.pairwise_map]; exact h1) hp (HOk.fresh I.hok (Nat.le_succ _))
      rwa [List.map_map] at this
def fldK : List Fk → List D → Option (List Int)
  | [], [] => some []
  | .int :: P, .int i :: ds => (fldK P ds).map (i :: ·)
  | .str :: P, .str x :: ds => (fldK P ds).map (strK x ++ ·)
  | .tup d :: P, .tup es :: ds => (intsOf es).bind fun ns => if ns.length = d then (fldK P ds).map (ns ++ ·) else none
  | _, _ => none
def rowK (P : List Fk) : D → Option (List Int)
  | .tup ds => fldK P ds
  | _ => none
/-- what the first row is like -/
def shpF : List D → Option (List Fk)
  | [] => some []
  | .int _ :: ds => (shpF ds).map (.int :: ·)
  | .str _ :: ds => (shpF ds).map (.str :: ·)
  | .tup es :: ds => (shpF ds).map (.tup es.length :: ·)
  | _ => none
def kyD (P : List Fk) (d : D) : List Int := (rowK P d).getD []
def leD (P : List Fk) (a b : D) : Bool := !HT.lexLt (kyD P b) (kyD P a)
def sortD (P : List Fk) (ds : List D) : Option (List D) := if ds.all (fun d => (rowK P d).isSome) = true then some (ds.mergeSort (leD P)) else none
def fSortedR : List D → Option D
  | [.lst []] => some (.lst [])
  | [.lst (.tup es :: ds)] => match shpF es with
    | some (f :: P) => (sortD (f :: P) (.tup es :: ds)).map .lst
    | _ => none
  | _ => none
theorem intsOf_rp {K : PySem.W.Frag} {cl : CE} {H : Hp} {vs : List V} {ds : List D} {fp : List Addr} {ns : List Int} (h : RpL K cl H vs ds fp) (e : intsOf ds = some ns) : vs = ns.map V.int := rp_ints h e
theorem fldK_rp {K : PySem.W.Frag} {cl : CE} {H : Hp} : ∀ {P : List Fk} {vs : List V} {ds : List D} {fp : List Addr} {ks : List Int}, RpL K cl H vs ds fp → fldK P ds = some ks → FldsV K H P vs ks ∧ fp = []
  | [], _, [], _, _, h, e => by
    cases h; cases e; exact ⟨.nil, rfl⟩
  | .int :: P, _, .int i :: ds, _, ks, h, e => by
    obtain ⟨v, ws, f1, f2, rfl, rfl, a, b⟩ := h.cons_inv
    cases a
    simp only [fldK, Option.map_eq_some_iff] at e
    obtain ⟨l, e, rfl⟩ := e
    obtain ⟨c, rfl⟩ := fldK_rp b e
    exact ⟨.int i c, rfl⟩
  | .str :: P, _, .str x :: ds, _, ks, h, e => by
    obtain ⟨v, ws, f1, f2, rfl, rfl, a, b⟩ := h.cons_inv
    cases a
    simp only [fldK, Option.map_eq_some_iff] at e
    obtain ⟨l, e, rfl⟩ := e
    obtain ⟨c, rfl⟩ := fldK_rp b e
    exact ⟨.str x c, rfl⟩
  | .tup d :: P, _, .tup es :: ds, _, ks, h, e => by
    obtain ⟨v, ws, f1, f2, rfl, rfl, a, b⟩ := h.cons_inv
    simp only [fldK, Option.bind_eq_some_iff] at e
    obtain ⟨ns, en, e⟩ := e
    split at e
    · rename_i hd
      rw [Option.map_eq_some_iff] at e
      obtain ⟨l, e, rfl⟩ := e
      cases a with
      | tup hq r =>
        have := intsOf_rp r en
        subst this
        obtain ⟨c, rfl⟩ := fldK_rp b e
        have fl : ∀ {ms : List Int} {es : List D} {fp : List Addr}, RpL K cl H (ms.map V.int) es fp → fp = [] := by
          intro ms
          induction ms with
          | nil => intro es fp r; cases r; rfl
          | cons m ms ih =>
            intro es fp r
            cases r with
            | cons h r =>
              cases h
              rw [ih r]; rfl
        rw [fl r]
        exact ⟨.tup hq hd c, rfl⟩
    · cases e
theorem intsOf_inj : ∀ {ds es : List D} {ns : List Int}, intsOf ds = some ns → intsOf es = some ns → ds = es
  | [], [], _, _, _ => rfl
  | [], e :: es, ns, h1, h2 => by
    cases h1
    cases e <;> simp [intsOf] at h2
  | d :: ds, [], ns, h1, h2 => by
    cases h2
    cases d <;> simp [intsOf] at h1
  | d :: ds, e :: es, ns, h1, h2 => by
    cases d <;> simp [intsOf] at h1
    cases e <;> simp [intsOf] at h2
    obtain ⟨l, a, rfl⟩ := h1
    obtain ⟨l', b, c⟩ := h2
    injection c with c1 c2
    subst c1 c2
    rw [intsOf_inj a b]
theorem fldK_inj : ∀ {P : List Fk} {ds es : List D} {ks : List Int}, fldK P ds = some ks → fldK P es = some ks → ds = es
  | [], ds, es, _, h1, h2 => by
    cases ds with
    | cons d ds => cases d <;> simp [fldK] at h1
    | nil => cases es with
      | cons e es => cases e <;> simp [fldK] at h2
      | nil => rfl
  | .int :: P, ds, es, _, h1, h2 => by
    cases ds with
    | nil => simp [fldK] at h1
    | cons d ds =>
      cases es with
      | nil => simp [fldK] at h2
      | cons e es =>
        cases d <;> simp [fldK] at h1
        cases e <;> simp [fldK] at h2
        obtain ⟨l, a, rfl⟩ := h1
        obtain ⟨l', b, c⟩ := h2
        injection c with c1 c2
        subst c1 c2
        rw [fldK_inj a b]
  | .str :: P, ds, es, _, h1, h2 => by
    cases ds with
    | nil => simp [fldK] at h1
    | cons d ds =>
      cases es with
      | nil => simp [fldK] at h2
      | cons e es =>
        cases d <;> simp [fldK] at h1
        cases e <;> simp [fldK] at h2
        obtain ⟨l, a, rfl⟩ := h1
        obtain ⟨l', b, c⟩ := h2
        obtain ⟨c1, c2⟩ := cpK_inj c
        have := str_cps.mpr c1
        subst this c2
        rw [fldK_inj a b]
  | .tup q :: P, ds, es, _, h1, h2 => by
    cases ds with
    | nil => simp [fldK] at h1
    | cons d ds =>
      cases es with
      | nil => simp [fldK] at h2
      | cons e es =>
        cases d <;> simp [fldK] at h1
        cases e <;> simp [fldK] at h2
        rename_i xs ys
        rw [Option.bind_eq_some_iff] at h1 h2
        obtain ⟨ns, a1, a2⟩ := h1
        obtain ⟨ms, b1, b2⟩ := h2
        split at a2
        · split at b2
          · rename_i hn hm
            rw [Option.map_eq_some_iff] at a2 b2
            obtain ⟨l, a2, rfl⟩ := a2
            obtain ⟨l', b2, c⟩ := b2
            obtain ⟨c1, c2⟩ := List.append_inj c (by omega)
            subst c1 c2
            rw [fldK_inj a2 b2, intsOf_inj a1 b1]
          · cases b2
        · cases a2
theorem rowK_inj {P : List Fk} {d e : D} {ks : List Int} (h1 : rowK P d = some ks) (h2 : rowK P e = some ks) : d = e := by
  cases d <;> try cases h1
  cases e <;> try cases h2
  exact congrArg D.tup (fldK_inj h1 h2)
theorem perm_map_inv {α β : Type} {f : α → β} {l : List α} {m : List β} (h : m.Perm (l.map f)) : ∃ l' : List α, l'.Perm l ∧ m = l'.map f := by
  generalize e : l.map f = k at h
  induction h generalizing l with
  | nil => exact ⟨[], by cases l <;> simp_all, rfl⟩
  | cons x h ih =>
    cases l with
    | nil => cases e
    | cons y l =>
      cases e
      obtain ⟨l', a, b⟩ := ih rfl
      exact ⟨y :: l', a.cons _, by rw [List.map_cons, b]⟩
  | swap x y t =>
    cases l with
    | nil => cases e
    | cons a l => cases l with
      | nil => cases e
      | cons b l =>
        cases e
        exact ⟨b :: a :: l, List.Perm.swap _ _ _, rfl⟩
  | trans h1 h2 i1 i2 =>
    obtain ⟨l1, a, b⟩ := i2 e
    obtain ⟨l2, c, d⟩ := i1 b.symm
    exact ⟨l2, c.trans a, d⟩
theorem leD_tr (P : List Fk) (a b c : D) (h1 : leD P a b = true) (h2 : leD P b c = true) : leD P a c = true := by
  unfold leD at *
  simp only [Bool.not_eq_true'] at *
  exact lex_tr _ _ _ h1 h2
theorem leD_tot (P : List Fk) (a b : D) : (leD P a b || leD P b a) = true := by
  unfold leD
  cases h : HT.lexLt (kyD P b) (kyD P a) with
  | false => rfl
  | true => rw [lex_asym _ _ h]; rfl
/-- the only sorted arrangement -/
theorem sortD_eq {P : List Fk} {ds es : List D} (hs : ds.all (fun d => (rowK P d).isSome) = true) (h : es.Perm ds) (s : es.Pairwise fun x y => leD P x y = true) : es = ds.mergeSort (leD P) := by
  refine List.Perm.eq_of_pairwise (le := fun a b => leD P a b = true) (fun a b ha hb h1 h2 => ?_) s (List.pairwise_mergeSort (leD_tr P) (leD_tot P) ds) (h.trans (List.mergeSort_perm _ _).symm)
  have ka := List.all_eq_true.mp hs a (h.mem_iff.mp ha)
  have kb := List.all_eq_true.mp hs b ((List.mergeSort_perm _ _).mem_iff.mp hb)
  obtain ⟨x, ex⟩ := Option.isSome_iff_exists.mp ka
  obtain ⟨y, ey⟩ := Option.isSome_iff_exists.mp kb
  unfold leD kyD at h1 h2
  rw [ex, ey] at h1 h2
  simp only [Bool.not_eq_true', Option.getD_some] at h1 h2
  have := lex_anti _ _ h1 h2
  subst this
  exact rowK_inj ex ey
section
variable {X : Cx} {W : WX} {Γx Γ : Ctx} {n : Nat} {m : List Nat} {pos p : Pos} {k : Kd} {gs : List D → ER (List D)} {e : Expr}
theorem rows_rp {K : PySem.W.Frag} {cl : CE} {H : Hp} {P : List Fk} : ∀ {vs : List V} {ds : List D} {fp : List Addr}, RpL K cl H vs ds fp → ds.all (fun d => (rowK P d).isSome) = true → ∃ L : List (V × D), L.map (·.1) = vs ∧ L.map (·.2) = ds ∧ ∀ z ∈ L, RowV K H P z.1 (kyD P z.2) ∧ Rp K cl H z.1 z.2 []
  | _, _, _, .nil, _ => ⟨[], rfl, rfl, by simp⟩
  | _, _, _, .cons (v := v) (d := d) h r, a => by
    simp only [List.all_cons, Bool.and_eq_true] at a
    obtain ⟨L, l1, l2, l3⟩ := rows_rp r a.2
    refine ⟨(v, d) :: L, by rw [List.map_cons, l1], by rw [List.map_cons, l2], fun z hz => ?_⟩
    rcases List.mem_cons.mp hz with rfl | hz
    · obtain ⟨ks, ek⟩ := Option.isSome_iff_exists.mp a.1
      have ky : kyD P d = ks := by unfold kyD; rw [ek]; rfl
      show RowV K H P v (kyD P d) ∧ Rp K cl H v d []
      rw [ky]
      cases d <;> try cases ek
      cases h with
      | tup h r =>
        obtain ⟨c, rfl⟩ := fldK_rp r ek
        exact ⟨⟨_, _, rfl, h, c⟩, .tup h r⟩
    · exact l3 z hz
theorem rpl_pairs {K : PySem.W.Frag} {cl : CE} {H : Hp} : ∀ {L : List (V × D)}, (∀ z ∈ L, Rp K cl H z.1 z.2 []) → RpL K cl H (L.map (·.1)) (L.map (·.2)) []
  | [], _ => .nil
  | z :: L, h => .cons (f1 := []) (f2 := []) (h z List.mem_cons_self) (rpl_pairs fun x hx => h x (List.mem_cons_of_mem _ hx))
theorem ej_sortedR (hc : X.calm = true) (hm : X.mg "sorted" = none) (hu : X.A.units + 64 < cLine) (ha : AJ X W Γx Γ n m [e] gs [.val k]) (hg : Gl X "sorted" := by rfl) (he : starEach [e] X.env = [(false, eval e X.env)] := by rfl) : EJ X W Γx Γ n m (.Call (.Name "sorted" p) [e] [] pos) (eCall1 fSortedR gs) .own := by
  have key : ∀ (rr : List V → Hp → VK → Prop), CallR X (.builtin "sorted") rr → (∀ vs H Q, (rSortedI X.K vs H Q ∨ ∃ f P, rSortedF X.K f P vs H Q) → rr vs H Q) → EJ X W Γx Γ n m (.Call (.Name "sorted" p) [e] [] pos) (eCall1 fSortedR gs) .own := by
    intro rr hr hrr
    refine pe_imp (pe_callB hr hg hm (by decide +kernel) ha (by decide) (by decide) he rfl) fun σ H Q h => ?_
    obtain ⟨σD, lab, g0, s, po⟩ := h
    refine ⟨σD, lab, g0, s, po.last fun ds σD1 vs H1 lab1 s1 p1 r1 po1 => hrr _ _ _ ?_⟩
    obtain ⟨z, ez, q⟩ := po1.done
    obtain ⟨v, vs', d, ds', e1, e2, r, e3, e4⟩ := r1
    subst e1 e2 e3 e4
    unfold fSortedR at ez
    split at ez
    · rename_i e0
      cases e0
      cases ez
      obtain ⟨fp, rp, l⟩ := r.its rfl (Nat.le_refl n)
      cases rp with
      | lst h1 h2 =>
        cases h2
        refine .inl ⟨_, [], rfl, .inl (.inl h1), fun ns' q' hp hs hq => ?_⟩
        have P : Pres [] n H1 lab1 (upd H1 q' (.lst (ns'.map V.int))) (setL lab1 q' (.tmp n)) := .alloc hq rfl
        have : ns' = [] := hp.eq_nil
        subst this
        refine q (.ref q') _ _ (s1.pres g0 P) P ⟨[q'], .lst upd_same .nil, by simp, fun b hb => ?_⟩
        rw [List.mem_singleton.mp hb]
        exact if_pos rfl
    · rename_i es ds e0
      cases e0
      split at ez
      · rename_i f P esh
        rw [Option.map_eq_some_iff] at ez
        obtain ⟨ts, et, rfl⟩ := ez
        unfold sortD at et
        split at et
        · rename_i hall
          cases et
          obtain ⟨fp, rp, l⟩ := r.its rfl (Nat.le_refl n)
          cases rp with
          | lst h1 h2 =>
            obtain ⟨L, l1, l2, l3⟩ := rows_rp h2 hall
            refine .inr ⟨f, P, _, L.map fun z => (z.1, kyD (f :: P) z.2), rfl, .inl (.inl (by rw [h1, List.map_map, ← l1]; rfl)), fun z hz => ?_, fun ys q' hs hp hq => ?_⟩
            · obtain ⟨w, hw, rfl⟩ := List.mem_map.mp hz
              exact (l3 w hw).1
            · obtain ⟨L', hL, rfl⟩ := perm_map_inv hp
              have P0 : Pres [] n H1 lab1 (upd H1 q' (.lst ((L'.map fun z => (z.1, kyD (f :: P) z.2)).map (·.1)))) (setL lab1 q' (.tmp n)) := .alloc hq rfl
              have ed : L'.map (·.2) = (D.tup es :: ds).mergeSort (leD (f :: P)) := by
                refine sortD_eq hall (by rw [← l2]; exact hL.map _) ?_
                rw [List.pairwise_map] at hs ⊢
                refine hs.imp fun h => ?_
                unfold leD
                rw [h]; rfl
              have rl := rpl_pairs (L := L') fun z hz => (l3 z (hL.mem_iff.mp hz)).2
              rw [ed] at rl
              have em : (L'.map fun z => (z.1, kyD (f :: P) z.2)).map (·.1) = L'.map (·.1) := by rw [List.map_map]; rfl
              rw [em] at P0 ⊢
              refine q (.ref q') _ _ (s1.pres g0 P0) P0 ⟨[q'], .lst upd_same (rl.ext (TK.new hq) (by simp)), by simp, fun b hb => ?_⟩
              rw [List.mem_singleton.mp hb]
              exact if_pos rfl
        · cases et
      · cases ez
    · cases ez
  refine key (fun vs H Q => rSortedI X.K vs H Q ∨ ∃ f P, rSortedF X.K f P vs H Q) ?_ fun _ _ _ h => h
  intro pins s σ H xs us Q I r h
  rcases h with h | ⟨f, P, h⟩
  · exact cr_sortedI pins s σ H xs us Q I r h
  · exact cr_sortedF hu pins s σ H xs us Q I r h
end
end Ow


namespace Ow
open PySem PySem.Spec PyProof.Rows L2
section
variable {X : Cx} {pins : List (Addr × Obj)} {σ : St} {H : Hp} {s : Shared} {a : Addr} {o : Obj} {us : List (List Int × Addr × Value)}
end
section
variable {X : Cx} {pos apos cpos : Pos}
end
section
variable {K : PySem.W.Frag} {cl : CE} {H : Hp}
end
section
variable {X : Cx} {W : WX} {Z : SC} {Γx Γ Γ' : Ctx} {n r : Nat} {m m1 m2 m3 : List Nat} {pos p px apos cpos ipos tpos : Pos} {k k1 k2 : Kd} {tg e f ie : Expr} {x : Str} {g gi ge gf gv : List D → ER D}
def eDNewT : List D → ER D := fun σ => .ok (.dT []) σ
/-- what a dict tells of a key, flat -/
def dGetT : D → D → D → Option D
  | .dT kds, .tup ds, z => (intsOf ds).bind fun ks => if ((dFind kds ks).getD z).flat = true then some ((dFind kds ks).getD z) else none
  | _, _, _ => none
def isDT : D → Bool
  | .dT _ => true
  | _ => false
def eGetT (r : Nat) (ge gf : List D → ER D) : List D → ER D := fun σ => if isDT (σ.getD r .non) = true then (ge σ).bind fun y σ1 => (gf σ1).bind fun z σ2 => ofO (dGetT (σ2.getD r .non) y z) σ2 else .stuck
def dIxT : D → D → Option D
  | .dT kds, .tup ds => (intsOf ds).bind fun ks => (dFind kds ks).bind fun d => if d.flat = true then some d else none
  | _, _ => none
def eIxT (r : Nat) (gi : List D → ER D) : List D → ER D := fun σ => if isDT (σ.getD r .non) = true then (gi σ).bind fun y σ1 => ofO (dIxT (σ1.getD r .non) y) σ1 else .stuck
/-- a key put in -/
def dPutT : D → D → D → Option D
  | .dT kds, .tup ds, d => if d.flat = true ∧ kds.length < sizeLine then (intsOf ds).map fun ks => .dT (dPut kds ks d) else none
  | _, _, _ => none
def sSetT (r : Nat) (gv gi : List D → ER D) : List D → SO := sOf gv fun d σ => match gi σ with
  | .stuck => .stuck
  | .ok i σ1 => (match dPutT (σ1.getD r .non) i d with
    | some c => .nxt (σ1.set r c)
    | none => .stuck)
  | .exc c p σ1 => .exc c p σ1
end
def gKeysT (r : Nat) : List D → ER (List D) := fun σ => match σ.getD r .non with
  | .dT kds => .ok (kds.map fun kv => .tup (kv.1.map D.int)) σ
  | _ => .stuck
section
variable {X : Cx} {W : WX} {Γx Γ : Ctx} {n r : Nat} {px : Pos} {k : Kd} {tg : Expr} {x : Str}
end
end Ow


namespace Ow
open PySem PySem.Spec PyProof.Rows L2
section
variable {X : Cx} {tg : Expr} {z : Addr} {fp wr ch : List Addr} {q i : Nat} {St : Nat → Heap → Prop} {Pt : Nat → Array Value → Prop} {pins : List (Addr × Obj)} {s : Shared} {σ : L2.St} {H : Hp} {E : Value → Shared → Prop}
end
theorem far {a n k : Nat} (h : a < n) : a ≠ n + k := by omega
/-- five cells that lie apart from one another and from what is walked -/
structure Sep5 (z TI TO i1 i2 a b : Addr) : Prop where
  nd : [z, TI, TO, i1, i2].Nodup
  ha : a ∉ [z, TI, TO, i1, i2]
  hb : b ∉ [z, TI, TO, i1, i2]
theorem Sep5.zs {z TI TO i1 i2 a b : Addr} (D : Sep5 z TI TO i1 i2 a b) : ZipSep2 z TI TO i1 i2 [i1, a] [i2, b] := by
  obtain ⟨nd, ha, hb⟩ := D
  simp only [List.nodup_cons, List.mem_cons, List.not_mem_nil, not_or, or_false] at nd ha hb
  constructor <;> simp only [List.mem_cons, List.not_mem_nil, not_or, or_false, true_or, ne_eq] <;> grind
/-- how such a zip stands after so many turns -/
structure ZmAt (z TI TO i1 i2 a b : Addr) (i : Nat) (h : Heap) : Prop where
  zp : IsZip h z TI TO .none
  ti : IsTupOf2 h TI (.ref i1) (.ref i2)
  to_ : ∃ x y, IsTupOf2 h TO x y
  w1 : h.IsTupleIter i1 a i
  w2 : h.IsListIter i2 b i
theorem ZmAt.objs {z TI TO i1 i2 a b : Addr} {i : Nat} {h : Heap} (st : ZmAt z TI TO i1 i2 a b i h) : ∀ c ∈ [z, TI, TO, i1, i2], ∃ o, h.get? c = some o ∧ ∀ v, o.data ≠ .cell v := by
  obtain ⟨x, y, hTO⟩ := st.to_
  obtain ⟨o1, e1, _, d1⟩ := st.w1
  obtain ⟨o2, e2, _, d2⟩ := st.w2
  intro c hc
  simp only [List.mem_cons, List.not_mem_nil, or_false] at hc
  rcases hc with rfl | rfl | rfl | rfl | rfl
  · exact ⟨_, st.zp, fun _ e => nomatch e⟩
  · exact ⟨_, st.ti, fun _ e => nomatch e⟩
  · exact ⟨_, hTO, fun _ e => nomatch e⟩
  · exact ⟨o1, e1, fun v e => by rw [d1] at e; cases e⟩
  · exact ⟨o2, e2, fun v e => by rw [d2] at e; cases e⟩
section
variable {X : Cx} {W : WX} {Γx Γ : Ctx} {n : Nat} {m : List Nat} {pos p : Pos} {e e2 : Expr} {gs : List D → ER (List D)} {ks : List AK} {R : List Lab} {H : Hp} {lab : Labs}
end
end Ow


namespace Ow
open PySem PySem.Spec PyProof.Rows L2
/-- a tuple taken once is itself -/
theorem tuple_once {l : Addr} {o : Obj} {items : Array Value} {n : Nat} {u : Tok} (ho : o.cls = .type "tuple") (hd : o.data = .seq items n) :
    Meets (Builtin.«tuple.__mul__» ⟨[.ref l, .int 1 u], []⟩) (fun _ R s => s.heap.get? l = some o ∧ R (.ok (.ret (Value.ref l))) s) :=
  .of_wp fun prog w A R s ⟨lies, fin⟩ => by
    obtain ⟨cls, dd, data, sl⟩ := o
    dsimp only at ho hd
    subst ho hd
    cases s
    have index := AutoSeq1.idx_int
    wp_walk using wpAny_loadPart' lies
    exact ⟨_, rfl, fin⟩
def dRepT (x y : D) : Option D := match x, y with
  | .tup xs, .int k => if D.flats xs = true ∧ xs ≠ [] ∧ 1 ≤ k ∧ k ≤ 1000 ∧ xs.length ≤ 1000 then some (.tup (List.replicate k.toNat xs).flatten) else none
  | _, _ => none
def rRepT1 (K : PySem.W.Frag) : R2 := fun x y H Q => ∃ l k xs, x = .ref l ∧ y = .int k ∧ SqT K H l xs ∧ xs ≠ [] ∧ 1 ≤ k ∧ k ≤ 1000 ∧ xs.length ≤ 1000 ∧ (k = 1 → Q (.ref l) H) ∧ (2 ≤ k → ∀ p, H p = none → Q (.ref p) (upd H p (.tup (List.replicate k.toNat xs).flatten)))
theorem op_repT1 {X : Cx} : OpR X (binaryOp .Mult) (rRepT1 X.K) := by
  rintro pins s σ H _ _ v u Q I rx ry ⟨l, k, xs, rfl, rfl, hT, hne, h1, h2, hz, once, more⟩
  by_cases hk : k = 1
  · subst hk
    match v, u, rx, ry with
    | _, _, rfl, ⟨t, rfl⟩ =>
      obtain ⟨its, _, ⟨o, ho, hc, n, hd⟩, _⟩ := I.tuple hT
      have self := call_meets (prog := X.prog) (w := X.w) (s := s) F.slot_tuple_mul (self := .ref l) ⟨_, ho, hc⟩ F.entry_tuple_mul (F.args_tuple_mul_2 (.ref l) (.int 1 t)) (tuple_once (u := t) hc hd) (Q := EP X pins σ Q) (E := X.xe) (A := X.A) ⟨ho, .ref l, H, I, rfl, once rfl⟩
      obtain ⟨cls, dd, data, sl⟩ := o
      dsimp only at hc hd
      subst hc hd
      exact wpAny_binaryOp_repeat_ref (T := "tuple") (U := "int") (by decide) ⟨_, ho, rfl⟩ (fun s' => typeIs_int s' 1 t) noFill_tuple_mul F.fills_int_mul F.slot_int_rmul repeat_tuple F.slot_int_index.lookup
        (call_meets F.slot_int_rmul (typeIs_int s 1 t) F.entry_int_rmul (F.args_int_rmul_2 _ _) (int_rmul_tuple 1 t l its.toArray n dd sl) ⟨ho, rfl, ⟨_, ho, rfl⟩, self⟩)
  · exact op_repT pins s σ H _ _ v u Q I rx ry ⟨l, k, xs, rfl, rfl, hT, hne, by omega, h2, hz, more (by omega)⟩
section
variable {X : Cx} {W : WX} {Γx Γ : Ctx} {n : Nat} {m1 m2 : List Nat} {pos : Pos} {a b : Expr} {ga gb : List D → ER D} {k k1 : Kd}
theorem ej_repT (ha : EJ X W Γx Γ n m1 a ga k) (hb : EJ X W Γx Γ (n + 1) m2 b gb k1) (ok : okK m2 (n + 1) k = true := by decide) : EJ X W Γx Γ n (m1 ++ m2) (.BinOp a .Mult b pos) (eBin dRepT ga gb) .own := by
  refine pe_imp (pe_op op_repT1 ha hb) fun σ H Q h => ?_
  obtain ⟨σD, lab, g0, s, po⟩ := h
  refine ⟨σD, lab, g0, s, po.seq' fun x σD1 v H1 lab1 s1 p1 r1 po1 => ?_⟩
  refine ⟨σD1, lab1, gok.up g0, s1, po1.seq (SubK.up _ _) (Nat.le_succ _) (SubK.nil _ _) (Nat.le_refl _) fun y σD2 w H2 lab2 s2 p2 r2 po2 => ?_⟩
  have r1 := VR.pres p2 r1 ok (by simp [keepL])
  obtain ⟨z, e, q⟩ := po2.done
  unfold dRepT at e
  split at e
  · split at e
    · rename_i hd
      cases e
      have ew := r2.int
      subst ew
      obtain ⟨fp, rp⟩ := r1.rp rfl
      cases rp with
      | tup h1 h2 =>
        have ef := RpL.flat h2 hd.1
        subst ef
        refine ⟨_, _, _, rfl, rfl, h1, fun e => hd.2.1 ?_, hd.2.2.1, hd.2.2.2.1, by rw [h2.len]; exact hd.2.2.2.2, fun e => ?_, fun _ q' hq => ?_⟩
        · subst e
          cases h2
          rfl
        · subst e
          have e1 : ∀ {α : Type} (l : List α), (List.replicate (1 : Int).toNat l).flatten = l := fun l => by
            show (List.replicate 1 l).flatten = l
            simp
          rw [e1] at q
          exact q _ _ _ s2 (.refl _ _ _ _) (.of_nil (.tup h1 h2))
        · have hj := fun j => rep_rp h2 j
          have P : ∀ o, Pres [] n H2 lab2 (upd H2 q' o) (setL lab2 q' .fro) := fun o => .alloc hq rfl
          exact q _ _ _ (s2.pres g0 (P _)) (P _) (.of_nil (.tup (.of upd_same) ((hj _).ext (TK.new hq) (by simp))))
    · cases e
  · cases e
end
end Ow


namespace Ow
open PySem PySem.Spec PyProof.Rows L2
section
variable {X : Cx} {W : WX} {Γx Γ : Ctx} {n : Nat} {m1 m2 : List Nat} {pos : Pos} {a b : Expr} {ga gb : List D → ER D} {k k1 : Kd} {H : Hp}
end
end Ow


namespace Ow
open PySem PySem.Spec PyProof.Rows L2
def dLtT : D → D → Option D
  | .tup xs, .tup ys => (intsOf xs).bind fun ns => (intsOf ys).map fun ms => .bl (HT.lexLt ns ms)
  | _, _ => none
theorem dLtT_ok {X : Cx} : ∀ x y z, dLtT x y = some z → ∃ c, z = .bl c ∧ (x.noE = true ∧ y.noE = true) ∧ ∀ H v w fp fq (Q : VK), Rp X.K (clX X) H v x fp → Rp X.K (clX X) H w y fq → Q (.bl c) H → rLtT X.K v w H Q := fun x y z e => by
  unfold dLtT at e
  split at e
  · rename_i xs ys
    rw [Option.bind_eq_some_iff] at e
    obtain ⟨ns, e1, e⟩ := e
    rw [Option.map_eq_some_iff] at e
    obtain ⟨ms, e2, rfl⟩ := e
    refine ⟨_, rfl, ⟨rfl, rfl⟩, fun H v w fp fq Q rx ry q => ?_⟩
    cases rx with
    | tup hs r => cases ry with
      | tup hs2 r2 =>
        have a1 := intsOf_rp r e1
        have a2 := intsOf_rp r2 e2
        subst a1 a2
        exact ⟨_, _, _, _, rfl, rfl, hs, hs2, q⟩
  · cases e
end Ow


namespace Ow
open PySem PySem.Spec PyProof.Rows L2
/-- how an enumerate over a tuple stands after so many turns -/
structure EnAt (e it a : Addr) (i : Nat) (h : Heap) : Prop where
  en : ∃ old, IsEnum h e it (0 + (i : Int)) old
  w1 : h.IsTupleIter it a i
theorem EnAt.objs {e it a : Addr} {i : Nat} {h : Heap} (st : EnAt e it a i h) : ∀ c ∈ [e, it], ∃ o, h.get? c = some o ∧ ∀ v, o.data ≠ .cell v := by
  obtain ⟨old, he⟩ := st.en
  obtain ⟨o1, e1, _, d1⟩ := st.w1
  intro c hc
  simp only [List.mem_cons, List.not_mem_nil, or_false] at hc
  rcases hc with rfl | rfl
  · exact ⟨_, he, fun _ q => nomatch q⟩
  · exact ⟨o1, e1, fun v q => by rw [d1] at q; cases q⟩
section
variable {X : Cx} {W : WX} {Γx Γ : Ctx} {n : Nat} {m : List Nat} {pos p : Pos} {e : Expr} {gs : List D → ER (List D)} {ks : List AK} {R : List Lab} {H : Hp} {lab : Labs}
end
end Ow


namespace Ow
open PySem PySem.Spec PyProof.Rows L2
section
variable {X : Cx} {W : WX} {Z : SC} {Γx Γ Γ' : Ctx} {n r : Nat} {m m1 m2 m3 : List Nat} {H : Hp} {lab : Labs} {pos p px apos p1 p2 p3 : Pos} {R : List Lab} {k k1 : Kd} {ks : List AK} {gs : List D → ER (List D)} {tg e e2 a b : Expr} {x : Str} {g ga gb : List D → ER D} {σ : St} {σD : List D}
end
end Ow


namespace Ow
open PySem PySem.Spec PyProof.Rows L2
section
variable {X : Cx} {W : WX} {Z : SC} {Γx Γ Γ' : Ctx} {n r : Nat} {m m1 m2 : List Nat} {σ : St} {H : Hp} {lab : Labs} {σD : List D} {pos : Pos}
theorem SR.drop {js : List Nat} (s : SR X Γ σ H lab σD) (hd : wipeC Γ js = Γ') : SR X Γ' σ H lab σD := hd ▸ ⟨s.l1, s.l2, fun i k e => s.at_ i k (wipeC_at e).1⟩
end
end Ow


namespace Ow
open PySem PySem.Spec PyProof.Rows L2
section
variable {P : Program} {w : World} {A : Around} {E : Value → Shared → Prop} {s : Shared}
end
section
variable {X : Cx} {W : WX} {Γx Γ : Ctx} {n : Nat} {m : List Nat} {pos p pos2 p2 : Pos} {k : Kd} {gs : List D → ER (List D)} {e : Expr}
end
section
variable {X : Cx} {W : WX} {Γx Γ : Ctx} {n r : Nat} {m : List Nat} {nx : Str} {px apos cpos : Pos} {H : Hp}
end
end Ow


namespace Ow
open PySem PySem.Spec PyProof.Rows L2
def dFld (c f : Str) : D → Option D
  | .ins c' fs => if c' = c then fs.lookup f else none
  | _ => none
def putD (f : Str) (v : D) : List (Str × D) → List (Str × D)
  | [] => [(f, v)]
  | (g, x) :: r => if g = f then (g, v) :: r else (g, x) :: putD f v r
section
variable {K : PySem.W.Frag} {cl : CE} {H H' : Hp} {lab : Labs}
/-- a field stands at the same place in both -/
theorem fld_at {f : Str} : ∀ {fs : List (Str × V)} {fds : List (Str × D)} {d : D}, fs.map (·.1) = fds.map (·.1) → fds.lookup f = some d → ∃ (i : Nat), (fds.map (·.2))[i]? = some d ∧ (∀ v, (fs.map (·.2))[i]? = some v → fs.lookup f = some v) ∧
    (∀ w : V, (putF f w fs).map (·.1) = fs.map (·.1) ∧ (putF f w fs).map (·.2) = (fs.map (·.2)).set i w) ∧ (∀ e : D, (putD f e fds).map (·.1) = fds.map (·.1) ∧ (putD f e fds).map (·.2) = (fds.map (·.2)).set i e)
  | _, [], _, _, h => by cases h
  | [], (g, x) :: r, _, e, _ => by cases e
  | (g', y) :: q, (g, x) :: r, d, e, h => by
    rw [List.map_cons, List.map_cons] at e
    injection e with e1 e2
    have e1 : g' = g := e1
    subst e1
    by_cases hg : g' = f
    · subst hg
      have : d = x := by simpa [List.lookup] using h.symm
      subst this
      refine ⟨0, rfl, fun v hv => ?_, fun w => ?_, fun w => ?_⟩
      · have : y = v := by simpa using hv
        subst this
        simp [List.lookup]
      · simp [putF]
      · simp [putD]
    · have hb : (f == g') = false := beq_eq_false_iff_ne.mpr fun z => hg z.symm
      have h2 : r.lookup f = some d := by simpa [List.lookup, hb] using h
      obtain ⟨i, a1, a2, a3, a4⟩ := fld_at e2 h2
      refine ⟨i + 1, by simpa using a1, fun v hv => ?_, fun w => ?_, fun w => ?_⟩
      · have := a2 v (by simpa using hv)
        simpa [List.lookup, hb] using this
      · obtain ⟨b1, b2⟩ := a3 w
        simp [putF, hg, b1, b2]
      · obtain ⟨b1, b2⟩ := a4 w
        simp [putD, hg, b1, b2]
theorem VR.fldB {R : List Lab} {t : Lab} {v : V} {c f : Str} {x d : D} (h : VR K cl H lab (.bor R) t v x) (e : dFld c f x = some d) : ∃ a C dx fs w, v = .ref a ∧ cl.cl c C ∧ H a = some (.ins C dx fs) ∧ fs.lookup f = some w ∧ VR K cl H lab (.bor R) t w d := by
  obtain ⟨fp, r, l⟩ := h
  unfold dFld at e
  split at e
  · rename_i c' fds
    split at e
    · rename_i hc
      subst hc
      cases r with
      | ins hcl hH hk rr =>
        rename_i a C dx fs fp'
        obtain ⟨i, a1, a2, _, _⟩ := fld_at hk e
        obtain ⟨w, fw, e1, rw', sb⟩ := rr.get a1
        exact ⟨a, C, dx, fs, w, rfl, hcl, hH, a2 w e1, fw, rw', fun b hb => l b (List.mem_cons_of_mem _ (sb.subset hb))⟩
    · cases e
  · cases e
end
section
variable {X : Cx} {W : WX} {Z : SC} {Γx Γ Γ' : Ctx} {n r x : Nat} {m m1 m2 m3 : List Nat} {σ : St} {H : Hp} {lab : Labs} {σD : List D} {pos p px apos ipos tpos : Pos} {R : List Lab} {k k1 : Kd} {ks : List AK} {gs : List D → ER (List D)} {tg e ie o : Expr} {nx c f : Str} {g gi : List D → ER D}
end
end Ow


namespace Ow
open PySem PySem.Spec PySem.SeqAt PyProof.Rows L2
section
variable {X : Cx} {CX : CXT} {k : Nat} {f C : Addr} {fd : FuncData} {ps : List Str} {sp : Sp} {E : L2.St → XK} {x m : Str} {p pos apos : Pos} {e o : Expr} {es : List Expr} {ta : TE} {t : TA}
end
def okM (c m : Str) : D → Bool
  | .ins c' fds => decide (c' = c) && (fds.lookup m).isNone
  | _ => false
theorem lookup_none {fs : List (Str × V)} {fds : List (Str × D)} {f : Str} (e : fs.map (·.1) = fds.map (·.1)) (h : fds.lookup f = none) : fs.lookup f = none := by
  induction fds generalizing fs with
  | nil => cases fs with
    | nil => rfl
    | cons a b => cases e
  | cons a b ih =>
    obtain ⟨g, x⟩ := a
    cases fs with
    | nil => cases e
    | cons q r =>
      obtain ⟨g', y⟩ := q
      rw [List.map_cons, List.map_cons] at e
      injection e with e1 e2
      have e1 : g' = g := e1
      subst e1
      by_cases hg : f = g'
      · subst hg; simp [List.lookup] at h
      · have hb : (f == g') = false := beq_eq_false_iff_ne.mpr hg
        have h2 : b.lookup f = none := by simpa [List.lookup, hb] using h
        have := ih e2 h2
        simpa [List.lookup, hb] using this
section
variable {X : Cx} {W : WX} {Γx Γ : Ctx} {n lv np r : Nat} {m m1 m2 : List Nat} {ks : List AK} {rs io : List Nat} {own : Bool} {Fd : List D → FR} {c mt nx : Str} {p pos apos px : Pos} {e o : Expr} {es : List Expr} {gs : List D → ER (List D)} {g : List D → ER D} {R : List Lab}
theorem VR.okM {K : PySem.W.Frag} {cl : CE} {H : Hp} {lab : Labs} {t : Lab} {v : V} {d : D} (h : VR K cl H lab (.bor R) t v d) (e : okM c mt d = true) : ∃ a C dx fs, v = .ref a ∧ cl.cl c C ∧ H a = some (.ins C dx fs) ∧ fs.lookup mt = none := by
  obtain ⟨fp, rp, _⟩ := h
  cases rp with
  | ins hc hH hk rr =>
    simp only [Ow.okM, Bool.and_eq_true, decide_eq_true_eq, Option.isNone_iff_eq_none] at e
    obtain ⟨rfl, e2⟩ := e
    exact ⟨_, _, _, _, rfl, hc, hH, lookup_none hk e2⟩
  | _ => cases e
end
end Ow


namespace Ow
open PySem PySem.Spec PySem.SeqAt PyProof.Rows L2
section
variable {X : Cx} {CX : CXT} {k : Nat} {f C : Addr} {fd : FuncData} {ps : List Str} {sp : Sp} {E : L2.St → XK} {x m : Str} {p pos apos : Pos} {e o : Expr} {es : List Expr} {ta : TE} {t : TA}
end
section
variable {X : Cx} {W : WX} {Γx Γ : Ctx} {n lv np r : Nat} {m m1 m2 : List Nat} {ks : List AK} {rs io : List Nat} {own : Bool} {Fd : List D → FR} {c mt nx x : Str} {p pos apos px : Pos} {e o : Expr} {es : List Expr} {gs : List D → ER (List D)} {g : List D → ER D} {R : List Lab}
end
end Ow


namespace Ow
open PySem PySem.Spec PySem.SeqAt PyProof.Rows L2
section
variable {X : Cx} {W : WX} {Z : SC} {Γx Γ Γ' : Ctx} {n r : Nat} {m m1 m2 : List Nat} {pos p px apos fpos tpos : Pos} {k : Kd} {ks : List AK} {gs : List D → ER (List D)} {e ie : Expr} {nx c f : Str} {g gi gv : List D → ER D}
end
section
variable {P : Program} {w : World} {K : PySem.W.Frag} {mg : Str → Option Value} {base : Heap}
end
end Ow


namespace Ow
open PySem PySem.Spec PySem.SeqAt PyProof.Rows L2
section
variable {X : Cx} {W : WX} {Z : SC} {Γx Γ Γ' : Ctx} {n r : Nat} {m m1 m2 : List Nat} {pos : Pos} {H H1 : Hp} {lab lab1 : Labs}
end
end Ow


namespace Ow
open PySem PySem.Spec PySem.SeqAt PyProof.Rows L2
section
variable {X : Cx} {W : WX} {Z : SC} {Γx Γ Γ' : Ctx} {n r : Nat} {m m1 m2 : List Nat} {σ : L2.St} {H : Hp} {lab : Labs} {σD : List D} {pos pt px : Pos} {c nx f : Str} {e : Expr} {g : List D → ER D}
end
end Ow


namespace Ow
open PySem PySem.Spec PySem.SeqAt PyProof.Rows L2
section
variable {X : Cx} {W : WX} {Z : SC} {Γx Γ Γ' : Ctx} {n r : Nat} {m m1 m2 m3 : List Nat} {pos p px tpos : Pos} {e : Expr} {nx c f : Str} {g : List D → ER D}
end
end Ow


namespace Ow
open PySem PySem.Spec PySem.SeqAt PyProof.Rows L2
section
variable {X : Cx} {W : WX} {Γx Γ : Ctx} {n : Nat} {m m1 m2 : List Nat} {pos apos : Pos} {k : Kd} {ks : List AK} {gs : List D → ER (List D)} {e o : Expr} {g : List D → ER D}
end
end Ow


namespace Ow
open PySem PySem.Spec PySem.SeqAt PyProof.Rows L2
section
variable {X : Cx} {W : WX} {Γx Γ : Ctx} {n : Nat} {m : List Nat} {e : Expr} {g : List D → ER D} {R : List Lab}
theorem ej_spnB (h : EJ X W Γx Γ n m e g (.spn R)) : EJ X W Γx Γ n m e g (.bor R) := by
  refine pe_imp h fun σ H Q hh => ?_
  obtain ⟨σD, lab, gg, sr, po⟩ := hh
  cases eg : g σD with
  | stuck => rw [eg] at po; exact po.elim
  | exc c p σD' =>
    refine ⟨σD, lab, gg, sr, ?_⟩
    rw [eg] at po ⊢
    exact po
  | ok d σD' =>
    refine ⟨σD, lab, gg, sr, ?_⟩
    rw [eg] at po ⊢
    intro v H1 lab1 sr1 pr1 rl1
    obtain ⟨p, ws, es, fp, rfl, rfl, hp, r, lp, l⟩ := rl1
    have P : Pres [] n H1 lab1 H1 (colF n lab1) := .colF
    refine po _ H1 (colF n lab1) (sr1.pres gg P) (pr1.trans P (SubK.refl _ _) (SubK.nil _ _)) ⟨p :: fp, .lst hp r, fun a ha => ?_⟩
    rcases List.mem_cons.mp ha with q | q
    · rw [q]; exact .inl (colF_tmp lp (Nat.le_refl _))
    · exact bw_colF (.inr (l a q).2)
end
end Ow


namespace Ow
open PySem PySem.Spec PySem.SeqAt PyProof.Rows L2
section
variable {X : Cx} {W : WX} {Γx Γ : Ctx} {n : Nat} {m1 m2 : List Nat} {pos p px ipos : Pos} {k k1 : Kd} {a b : Expr} {ga gb : List D → ER D}
end
end Ow


namespace Ow
open PySem PySem.Spec PySem.SeqAt PyProof.Rows L2
abbrev Suite := Addr → Value → Option Addr → TS
/-- what the clauses ask, the first one first -/
def asks (K : PySem.W.Frag) (W : WX) (E : Ends) : List (Value × Nat × Suite) → WX
  | [] => W
  | q :: l => wAs K q.1 q.2.1 q.2.2 (asks K W E l) E
section
variable {X : Cx} {W : WX} {pins : List (Addr × Obj)} {D : Ends}
/-- an exception that has been caught: the state without it, and the heap where it lies -/
structure Caught (X : Cx) (pins : List (Addr × Obj)) (σ : St) (H : Hp) (a : Addr) (cls : Value) (d : Option Addr) (B : Heap) (s1 s2 s3 : Shared) : Prop where
  inv : Inv X pins σ H s1
  base : ∀ b o, s1.heap.get? b = some o → b ∉ frs X.stack → B.get? b = some o
  upto : s1.heap.UpToSlots s3.heap
  fly : HandSPX.FlyingZ B (X.env :: X.outer) a (L2N.Zn cls d) s3.heap
  gone : H a = none
  os : s2.os = s1.os
  bare : AllBare s2.gens
theorem Caught.apart {σ : St} {H : Hp} {a : Addr} {cls : Value} {d : Option Addr} {B : Heap} {s1 s2 s3 : Shared} (C : Caught X pins σ H a cls d B s1 s2 s3) (hf : X.env.frame = some X.env.locals) : a ≠ X.env.locals ∧ a ∉ X.fs := by
  obtain ⟨oe, vs, here, _, fields⟩ := C.fly.there
  have off : a ∉ frs (X.env :: X.outer) := fun m => by
    obtain ⟨_, o, there, other⟩ := C.fly.2.2.1.mem m
    rw [here] at there
    cases there
    exact other _ fields
  refine ⟨fun e => off ?_, fun m => off ?_⟩
  · exact List.mem_filterMap.mpr ⟨X.env, List.mem_cons_self, hf.trans (congrArg some e.symm)⟩
  · obtain ⟨env, henv, eq⟩ := List.mem_filterMap.mp m
    exact List.mem_filterMap.mpr ⟨env, List.mem_cons_of_mem _ henv, eq⟩
end
end Ow


namespace Ow
open PySem PySem.Spec PySem.SeqAt PyProof.Rows L2
section
variable {X : Cx} {W : WX} {Z : SC} {Γ Γ1 Γt : Ctx} {n : Nat} {m1 ms : List Nat} {pos : Pos}
end
end Ow


namespace Ow
open PySem PySem.Spec PySem.SeqAt PyProof.Rows L2
section
variable {P : Program} {w : World} {K : PySem.W.Frag} {mg : Str → Option Value} {base : Heap}
end
section
variable {X : Cx} {CX : CXT} {x : Str} {C fI : Addr} {k : Nat} {fd : FuncData} {ps : List Str} {sp : Sp} {e : Expr} {es : List Expr} {ta : TA} {p pos : Pos}
end
end Ow


namespace Ow
open PySem PySem.Spec PySem.SeqAt PyProof.Rows L2
section
variable {X : Cx} {W : WX} {Z : SC} {Γx Γ Γ' Γ1 : Ctx} {n lv : Nat} {m : List Nat} {p pos pos2 : Pos} {e : Expr} {gs : List D → ER (List D)} {g : List D → ER D} {c f : Str} {R : List Lab}
end
section
variable {P : Program} {w : World} {K : PySem.W.Frag} {mg : Str → Option Value} {base : Heap}
end
end Ow


namespace Ow
open PySem PySem.Spec PySem.SeqAt PyProof.Rows L2
section
variable {prog : Program} {w : World} {A : Around} {E : Value → Shared → Prop} {s : Shared}
end
section
variable {X : Cx} {pins : List (Addr × Obj)} {s : Shared} {σ : L2.St} {H : Hp} {Q : VK} {elt tg iter : Expr} {ifs : List Expr} {scope : Scope} {own : List (Str × Nat)} {pos pos' : Pos} {wi : TI} {g : TG} {tt : TT} {te : TE}
end
end Ow


namespace Ow
open PySem PySem.Spec PySem.SeqAt PyProof.Rows L2
section
variable {X : Cx} {pins : List (Addr × Obj)} {σ : L2.St} {Q : VK} {elt tg iter : Expr} {ifs : List Expr} {scope : Scope} {own : List (Str × Nat)} {pos pos' : Pos} {wi : TI} {g : TG} {tt : TT} {te : TE}
end
end Ow


namespace Ow
open PySem PySem.Spec PySem.SeqAt PyProof.Rows L2
section
variable {X : Cx} {elt tg iter : Expr} {ifs : List Expr} {scope : Scope} {own : List (Str × Nat)} {pos spos py : Pos} {wi : TI} {g : TG} {tt : TT} {te : TE} {i : Nat} {y : Str}
end
section
variable {X : Cx} {W : WX} {Z : SC} {Γx Γ Γ' : Ctx} {n : Nat} {m m1 mt me : List Nat} {pos spos py : Pos} {R : List Lab} {k : Kd} {elt tg iter : Expr} {ifs : List Expr} {scope : Scope} {own : List (Str × Nat)} {T : Tg} {vr : List Nat} {gi : List D → ER (List D)} {gt : List D → ER Bool} {ge : List D → ER D} {s0 : Shared} {H0 : Hp} {ce : Env} {fp : List Addr}
end
end Ow


namespace Ow
open PySem PySem.Spec PySem.SeqAt PyProof.Rows L2
section
variable {prog : Program} {w : World} {A : Around} {E : Value → Shared → Prop} {s : Shared}
end
section
variable {X : Cx}
end
section
variable {X : Cx} {W : WX} {Γx Γ : Ctx} {n : Nat} {m : List Nat} {pos p p2 q : Pos} {k : Kd} {ks : List AK} {gs : List D → ER (List D)} {g : List D → ER D} {e : Expr}
end
end Ow


namespace Ow
open PySem PySem.Spec PySem.SeqAt PyProof.Rows L2
section
variable {X : Cx} {W : WX} {Z : SC} {Γx Γ Γ' : Ctx} {n : Nat} {m m1 m2 : List Nat} {pos p : Pos} {R : List Lab} {k : Kd} {tg iter a : Expr} {body : List Stmt} {gi gs : List D → ER (List D)} {G : List D → SO} {T : Tg}
end
end Ow


namespace Ow
open PySem PySem.Spec PySem.SeqAt PyProof.Rows L2
section
variable {X : Cx} {W : WX} {Γx Γ : Ctx} {n r : Nat} {m m1 m2 : List Nat} {pos p p2 px apos cpos pos2 : Pos} {k : Kd} {ks : List AK} {gs : List D → ER (List D)} {g : List D → ER D} {e o : Expr} {x : Str}
end
end Ow


namespace Ow
open PySem PySem.Spec PySem.SeqAt PyProof.Rows L2
section
variable {prog : Program} {w : World} {A : Around} {E : Value → Shared → Prop} {s : Shared}
end
section
variable {X : Cx} {pos : Pos}
end
section
variable {X : Cx} {W : WX} {Z : SC} {Γx Γ Γ' : Ctx} {n r : Nat} {m m1 m2 : List Nat} {pos : Pos} {H H1 : Hp} {lab lab1 : Labs}
end
end Ow


namespace Ow
open PySem PySem.Spec PyProof.Rows L2
section
variable {X : Cx} {W : WX} {Z : SC} {Γ : Ctx} {n : Nat} {m : List Nat} {pos : Pos}
end
end Ow


namespace Ow
open PySem PySem.Spec PySem.SeqAt PyProof.Rows L2
section
variable {X : Cx} {W : WX} {Γ Γx : Ctx} {n lv np : Nat} {x : Str} {p pos : Pos} {own : Bool} {Fd : List D → FR}
end
end Ow


namespace Ow
open PySem PySem.Spec PySem.SeqAt PyProof.Rows L2
/-- a list's parts, each with its cells -/
theorem RpL.parts {K : PySem.W.Frag} {cl : CE} {H : Hp} : ∀ {vs : List V} {ds : List D} {fp : List Addr}, RpL K cl H vs ds fp → ∃ fs : List (List Addr), fp = fs.flatten ∧ fs.length = ds.length ∧ ∀ (k : Nat) v d f, vs[k]? = some v → ds[k]? = some d → fs[k]? = some f → Rp K cl H v d f
  | _, _, _, .nil => ⟨[], rfl, rfl, fun k v d f h => by simp at h⟩
  | _, _, _, .cons (f1 := f1) h r => by
    obtain ⟨fs, e, l, q⟩ := r.parts
    refine ⟨f1 :: fs, by rw [e]; rfl, by simp [l], fun k v d f a b c => ?_⟩
    cases k with
    | zero => cases a; cases b; cases c; exact h
    | succ k => exact q k v d f a b c
theorem RpL.ofParts {K : PySem.W.Frag} {cl : CE} {H : Hp} : ∀ {vs : List V} {ds : List D} (fs : List (List Addr)), vs.length = ds.length → fs.length = ds.length → (∀ (k : Nat) v d f, vs[k]? = some v → ds[k]? = some d → fs[k]? = some f → Rp K cl H v d f) → RpL K cl H vs ds fs.flatten
  | [], [], [], _, _, _ => .nil
  | v :: vs, d :: ds, f :: fs, h1, h2, q => .cons (q 0 v d f rfl rfl rfl) (RpL.ofParts fs (by simpa using h1) (by simpa using h2) fun k v d f a b c => q (k + 1) v d f a b c)
  | [], d :: ds, _, h, _, _ => by cases h
  | v :: vs, [], _, h, _, _ => by cases h
  | [], [], f :: fs, _, h, _ => by cases h
  | v :: vs, d :: ds, [], _, h, _ => by cases h
theorem set2_get {α : Type} {l : List α} {i j k : Nat} {a b : α} (hi : i < l.length) (hj : j < l.length) : ((l.set i a).set j b)[k]? = if k = j then some b else if k = i then some a else l[k]? := by
  by_cases e : k = j
  · subst e
    rw [if_pos rfl, List.getElem?_set_self (by rw [List.length_set]; exact hj)]
  · rw [if_neg e, List.getElem?_set_ne (Ne.symm e)]
    by_cases e2 : k = i
    · subst e2
      rw [if_pos rfl, List.getElem?_set_self hi]
    · rw [if_neg e2, List.getElem?_set_ne (Ne.symm e2)]
theorem RpL.swap {K : PySem.W.Frag} {cl : CE} {H : Hp} {vs : List V} {ds : List D} {fp : List Addr} (h : RpL K cl H vs ds fp) {i j : Nat} {vi vj : V} {di dj : D} (a : vs[i]? = some vi) (b : vs[j]? = some vj) (c : ds[i]? = some di) (d : ds[j]? = some dj) :
    ∃ f', RpL K cl H ((vs.set i vj).set j vi) ((ds.set i dj).set j di) f' ∧ f'.Perm fp := by
  have len := h.len
  obtain ⟨fs, rfl, l, q⟩ := h.parts
  have ci := (List.getElem?_eq_some_iff.mp c).1
  have cj := (List.getElem?_eq_some_iff.mp d).1
  have li : i < fs.length := by omega
  have lj : j < fs.length := by omega
  refine ⟨_, RpL.ofParts ((fs.set i fs[j]).set j fs[i]) (by simp [len]) (by simp [l]) fun k v w f h1 h2 h3 => ?_, (List.set_set_perm li lj).flatten⟩
  rw [set2_get (by omega) (by omega)] at h1 h2 h3
  by_cases e : k = j
  · rw [if_pos e] at h1 h2 h3
    cases h1; cases h2; cases h3
    exact q i _ _ _ a c (List.getElem?_eq_getElem li)
  · rw [if_neg e] at h1 h2 h3
    by_cases e2 : k = i
    · rw [if_pos e2] at h1 h2 h3
      cases h1; cases h2; cases h3
      exact q j _ _ _ b d (List.getElem?_eq_getElem lj)
    · rw [if_neg e2] at h1 h2 h3
      exact q k v w f h1 h2 h3
section
variable {X : Cx} {W : WX} {Z : SC} {Γ : Ctx} {n r i j : Nat} {pos p1 p2 p3 p4 p5 p6 p7 p8 t1 t2 s1 s2 : Pos} {xs x y : Str} {pt pt2 : Pos} {kt k2} {ki kj : Kd}
end
section
variable {X : Cx} {W : WX} {Z : SC} {Γ : Ctx} {n i : Nat} {m : List Nat} {pos px : Pos} {x : Str} {e : Expr} {g : List D → ER D} {k k1 : Kd}
end
end Ow


namespace Ow
open PySem PySem.Spec PySem.SeqAt PyProof.Rows L2
section
variable {X : Cx} {W : WX} {Z : SC} {Γx Γ Γ' Γ1 Γ2 : Ctx} {n i : Nat} {m m1 m2 m3 : List Nat} {pos p px : Pos} {R : List Lab} {f x : Str} {e a b c : Expr} {g ga gb : List D → ER D} {tg : List D → ER Bool} {k : Kd}
end
end Ow


namespace Ow
open PySem PySem.Spec PySem.SeqAt PyProof.Rows L2
def dCatS : D → D → Option D
  | .str a, .str b => if a.length + b.length ≤ sizeLine then some (.str (a ++ b)) else none
  | _, _ => none
def fStrI : List D → Option D
  | [.int i] => if i.natAbs.log2 < 1920 then some (.str (toString i)) else none
  | _ => none
section
variable {X : Cx} {W : WX} {Γx Γ : Ctx} {n : Nat} {m m1 m2 m3 : List Nat} {pos p : Pos} {a b e o tg : Expr} {g ga gb : List D → ER D} {gs : List D → ER (List D)} {k k1 : Kd} {ks : List AK}
end
end Ow


namespace Ow
open PySem PySem.Spec PySem.SeqAt PyProof.Rows L2
section
variable {X : Cx} {W : WX} {Γx Γ : Ctx} {n : Nat} {m m1 m2 : List Nat} {pos p1 p2 p3 : Pos} {a b e : Expr} {g ga gb : List D → ER D} {k k1 : Kd}
end
end Ow


namespace Ow
open PySem PySem.Spec PySem.SeqAt PyProof.Rows L2
theorem Cx.Ok.any {Y : Cx} {E' : Value → Shared → Prop} (k : Y.Ok) : ({ Y with xe := E' } : Cx).Ok := ⟨k.mod, k.kind, k.glob, k.blt, k.above, k.inj, k.has, k.cab, k.hd, k.frames, k.stk, k.exf, k.bs, k.bsz, k.noex, k.exfs, k.funs, k.frf⟩
theorem Inv.any {Y : Cx} {E' : Value → Shared → Prop} {pins : List (Addr × Obj)} {σ : L2.St} {H : Hp} {s : Shared} (i : L2.Inv Y pins σ H s) : L2.Inv { Y with xe := E' } pins σ H s := ⟨Cx.Ok.any i.ok, i.os, i.bare, i.base, i.loc, i.cell, i.free, i.freeC, i.pin, i.hok, i.len⟩
theorem Cx.Ok.back {Y : Cx} {E' : Value → Shared → Prop} (k : ({ Y with xe := E' } : Cx).Ok) : Y.Ok := ⟨k.mod, k.kind, k.glob, k.blt, k.above, k.inj, k.has, k.cab, k.hd, k.frames, k.stk, k.exf, k.bs, k.bsz, k.noex, k.exfs, k.funs, k.frf⟩
theorem Inv.back {Y : Cx} {E' : Value → Shared → Prop} {pins : List (Addr × Obj)} {σ : L2.St} {H : Hp} {s : Shared} (i : L2.Inv { Y with xe := E' } pins σ H s) : L2.Inv Y pins σ H s := ⟨Cx.Ok.back i.ok, i.os, i.bare, i.base, i.loc, i.cell, i.free, i.freeC, i.pin, i.hok, i.len⟩
section
variable {X : Cx} {W : WX} {pins : List (Addr × Obj)} {σ : L2.St} {H H3 : Hp} {Q : VK} {s3 : Shared} {elt tg iter : Expr} {ifs : List Expr} {scope : Scope} {own : List (Str × Nat)} {pos pos' : Pos} {wi : TI} {g : TG} {tt : TT} {te : WX → TE} {fp : List Addr} {ce : Env} {E' : Value → Shared → Prop}
end
end Ow


namespace Ow
open PySem PySem.Spec PyProof.Rows L2
section
variable {X X' : Cx} {W : WX} {Γx Γ Γ' : Ctx} {n : Nat} {m m1 m2 mt me : List Nat} {σ : St} {H : Hp} {lab : Labs} {σD : List D} {pos : Pos} {R R2 : List Lab} {fx : Nat → V} {io vs : List Nat}
end
section
variable {X : Cx} {W : WX} {Z : SC} {Γx Γ Γ' : Ctx} {n : Nat} {m1 mt me : List Nat} {pos spos py : Pos} {R : List Lab} {k : Kd} {elt tg iter : Expr} {ifs : List Expr} {scope : Scope} {own : List (Str × Nat)} {T : Tg} {gi : List D → ER (List D)} {gt : List D → ER Bool} {ge : List D → ER D}
end
end Ow


namespace Ow
open PySem PySem.Spec PySem.SeqAt PyProof.Rows L2
def isInt : D → Bool
  | .int _ => true
  | _ => false
theorem RpL.whole {K : PySem.W.Frag} {cl : CE} {H : Hp} : ∀ {vs : List V} {ds : List D} {fp : List Addr}, RpL K cl H vs ds fp → ds.all isInt = true → ∃ ns : List Int, vs = ns.map V.int ∧ ds = ns.map D.int
  | _, _, _, .nil, _ => ⟨[], rfl, rfl⟩
  | _, _, _, .cons h r, e => by
    rw [List.all_cons, Bool.and_eq_true] at e
    obtain ⟨ns, e1, e2⟩ := RpL.whole r e.2
    cases h with
    | int i => exact ⟨i :: ns, by rw [e1]; rfl, by rw [e2]; rfl⟩
    | _ => cases e.1
section
variable {X : Cx} {W : WX} {Γx Γ : Ctx} {n : Nat} {m : List Nat} {pos p : Pos} {e : Expr} {gs : List D → ER (List D)} {ks : List AK}
end
end Ow


namespace Ow
open PySem PySem.Spec PySem.SeqAt PyProof.Rows L2
end Ow


namespace Ow
open PySem PySem.Spec PySem.SeqAt PyProof.Rows L2
section
variable {X : Cx} {W : WX} {Z : SC} {Γx Γ Γ1 Γt : Ctx} {n : Nat} {m m1 m2 : List Nat} {pos p px apos cpos : Pos} {k k1 k2 : Kd} {e f : Expr} {x : Str} {ge gf : List D → ER D}
end
section
variable {P : Program} {w : World} {K : PySem.W.Frag} {mg : Str → Option Value} {base : Heap}
end
section
variable {X : Cx} {W : WX} {Z : SC} {Γ : Ctx} {n : Nat} {m : List Nat} {pos : Pos}
end
end Ow


namespace Ow
open PySem PySem.Spec PySem.SeqAt PyProof.Rows L2
/-- nothing is being shown around -/
abbrev Quiet (A : Around) : Prop := A.guards = some []
structure FnG (P : Program) (w : World) (K : PySem.W.Frag) (mg : Str → Option Value) (base : Heap) (CX : CXT) (lv : Nat) (f : Addr) (fd : FuncData) (ps : List Str) (sp : Sp) : Prop where
  lens : ∀ vs H Q E, sp vs H Q E → vs.length = ps.length
  goes : ∀ (A : Around) (outer : List Env) (s : Shared) (H : Hp) (as : Args) (ws : List Value) (vs : List V) (Q : VK) (E : XK), Room lv A → Quiet A → Env0 P w K mg base A outer s H → BindsTo s fd as (ps.zip ws) →
    Vals vs ws → sp vs H Q E → codeAny (model P w) A (.call (.ref f) as) (CR CX outer P w H s Q E) s
section
variable {P : Program} {w : World} {K : PySem.W.Frag} {mg : Str → Option Value} {base : Heap}
theorem fnG_of {CX : CXT} {x qual : Str} {params : Arguments} {body : List Stmt} {scope : Scope} {f : Addr} {fd : FuncData} {N ps : List Str} {lv : Nat} {sp : Sp} (F : FunD K x qual params body scope [] [] f fd) (S : FnScope N ps scope) (hl : ∀ vs H Q E, sp vs H Q E → vs.length = ps.length)
    (hb : ∀ (cd : Value) (A : Around) (outer : List Env) (s : Shared) (H : Hp) (vs : List V) (Q : VK) (E : XK), Quiet A → Room lv (A.deeper (envOfC qual scope s.heap.objs.size f cd)) → sp vs H Q E →
      ∃ t, PSs (cxOf CX P w K mg base N qual scope f cd A outer s H E) body t ∧ t { nx := fun _ H' => Q .non H', rt := Q } (L2.start N vs) H) :
    FnG P w K mg base CX (lv + 1) f fd ps sp := by
  obtain ⟨c1, d1, dV, kV, doc, pm, an, cd, ct, sl1, rfl, look, hcode, _, _⟩ := F.ex
  constructor
  · exact hl
  · intro A outer s H as ws vs Q E room quiet env bind vals said
    have inK : K.In s.heap := env.mod.kin.keeps fun y z q => (env.bs y z q).1
    have kinds : ∀ z ∈ ps.zip ws, scope.names.lookup z.1 = some .local ∨ (scope.names.lookup z.1 = some .cell ∧ ((cellsFrom (s.heap.objs.size + 1) scope.names []).lookup z.1).isSome = true) := by
      rintro ⟨n, v⟩ hz
      have := S.par n (List.of_mem_zip hz).1
      exact this.elim Or.inl fun q => Or.inr ⟨q, PySem.W.cellsFrom_some _ _ _ (Or.inl q)⟩
    refine codeAny_call_function room.depth (inK _ _ look) rfl S.co S.gen rfl (PySem.W.codeRec_of inK hcode) (bind _ _ _ _ (wpAny_newFunctionEnv_cells S.kind kinds ?_))
    intro env1 ee s1 call1
    subst ee
    have lim1 : s1.heap.NoLimit := (env.mod.nolimit.keeps fun y z q => (env.bs y z q).1).keeps call1.toInCall.keep
    refine ⟨lim1, codeAny_func ?_⟩
    obtain ⟨t, ht, reads⟩ := hb cd A outer s H vs Q E quiet (room.deeper _) said
    have inv1 : Inv (cxOf CX P w K mg base N qual scope f cd A outer s H E) [] (L2.start N vs) H s1 := inv_start S room.hd env (hl _ _ _ _ said) vals call1
    refine wpAny_mono (ht.run [] s1 (L2.start N vs) H _ inv1 reads) ?_ fun _ _ z => z
    intro fl s2 ends
    cases fl with
    | next =>
      obtain ⟨σ2, H2, J, q⟩ := ends
      exact ⟨V.non, H2, J.os, J.bare, J.base, J.hok, (rfl : RelV V.non Value.none), q⟩
    | ret u =>
      obtain ⟨v2, σ2, H2, J, r2, q⟩ := ends
      exact ⟨v2, H2, J.os, J.bare, J.base, J.hok, r2, q⟩
    | brk => obtain ⟨_, _, _, q⟩ := ends; exact False.elim q
    | cont => obtain ⟨_, _, _, q⟩ := ends; exact False.elim q
theorem okG {x qual : Str} {params : Arguments} {body : List Stmt} {scope : Scope} {f : Addr} {fd : FuncData} {N ps : List Str} {lv np nl : Nat} {io m : List Nat} {own : Bool} {G : List D → SO} {Γ' : Ctx} (F : FunD K x qual params body scope [] [] f fd) (S : FnScope N ps scope)
    (hnp : ps.length = np) (hnl : N.length = nl) (hio : io.all (fun i => decide (i < np)) = true) (hpn : np ≤ nl) (hl : leC Γ' (ctxIo nl io) = true)
    (hb : ∀ (cdv : Value) (A : Around) (outer : List Env) (s : Shared) (H : Hp) (E : XK), Quiet A → Room lv (A.deeper (envOfC qual scope s.heap.objs.size f cdv)) →
      BJ (cxOf (L2N.CX P w) P w K mg base N qual scope f cdv A outer s H E) (wOf E) (scOf nl io own) (ctx0 np nl io []) Γ' 0 m body G) :
    FnG P w K mg base (L2N.CX P w) (lv + 1) f fd ps (spD K (clM mg) np io [] own (fnD nl io G)) := by
  refine fnG_of F S (fun vs H Q E h => ?_) (fun cdv A outer s H vs Q E quiet hr h => ⟨_, hb cdv A outer s H E quiet hr, ?_⟩)
  · obtain ⟨ds, lab, h1, _⟩ := h
    rw [h1, hnp]
  · exact okD_read (X := cxOf (L2N.CX P w) P w K mg base N qual scope f cdv A outer s H E) (CEq.calm rfl) hnl hio hpn hl h
end
section
variable {X : Cx} {W : WX} {Γx Γ : Ctx} {n lv np : Nat} {m : List Nat} {ks : List AK} {rs io : List Nat} {own : Bool} {Fd : List D → FR} {f : Addr} {fd : FuncData} {ps : List Str} {x : Str} {p pos : Pos} {e : Expr} {es : List Expr} {gs : List D → ER (List D)}
end
def fRepr : List D → Option D
  | [d] => if d.dat 64 = true ∧ d.py.showable = true ∧ d.py.shown.length ≤ sizeLine then some (.str d.py.shown) else none
  | _ => none
mutual
theorem D.py_noDict : ∀ d : D, d.py.hasDict = false
  | .non => by rw [D.py]; rfl
  | .bl b => by rw [D.py]; rfl
  | .int i => by rw [D.py]; rfl
  | .str x => by rw [D.py]; rfl
  | .tup ds => by rw [D.py]; exact D.pys_noDict ds
  | .lst ds => by rw [D.py]; exact D.pys_noDict ds
  | .dK _ => by rw [D.py]; rfl
  | .dT _ => by rw [D.py]; rfl
  | .ins _ _ => by rw [D.py]; rfl
  | .fzl _ => by rw [D.py]; rfl
  | .exn _ _ => by rw [D.py]; rfl
theorem D.pys_noDict : ∀ ds : List D, PyData.hasDictAll (D.pys ds) = false
  | [] => rfl
  | d :: ds => by
    show (d.py.hasDict || PyData.hasDictAll (D.pys ds)) = false
    rw [D.py_noDict d, D.pys_noDict ds]
    rfl
end
section
variable {X : Cx} {W : WX} {Γx Γ : Ctx} {n : Nat} {m : List Nat} {ks : List AK} {p pos : Pos} {e : Expr} {gs : List D → ER (List D)}
def rRepr (K : PySem.W.Frag) : List V → Hp → VK → Prop := fun xs H Q => ∃ v d, xs = [v] ∧ Dp K H v d ∧ d.showable = true ∧ d.shown.length ≤ sizeLine ∧ d.hasDict = false ∧ d.depth ≤ 64 ∧ Q (.str d.shown) H
theorem call_repr_data (quiet : Quiet X.A) (hu : X.A.units + 66 < cLine) : CallR X (.builtin "repr") (rRepr X.K) := by
  rintro pins s σ H _ us Q I rel ⟨v, d, rfl, dp, sh, few, nd, deep, q⟩
  obtain ⟨u, rfl, ru⟩ := vals1 rel
  cases dp with
  | non =>
    cases ru
    exact PySem.P.repr_of_none ⟨.str _, H, I.tok _, ⟨_, rfl⟩, q⟩
  | bl b =>
    cases ru
    exact PySem.P.repr_of_bool ⟨.str _, H, I.tok _, ⟨_, rfl⟩, q⟩
  | int i =>
    obtain ⟨t, rfl⟩ := ru
    exact PySem.P.repr_of_int (by simpa [PyData.showable] using sh) ⟨.str _, H, I.tok _, ⟨_, rfl⟩, q⟩
  | str x =>
    obtain ⟨t, rfl⟩ := ru
    exact PySem.P.repr_of_str ⟨.str _, H, I.tok _, ⟨_, rfl⟩, q⟩ few
  | lst hs ha =>
    obtain ⟨as, rd⟩ := Dp.reads I _ _ u (.lst hs ha) ru
    obtain rfl : u = Value.ref _ := ru
    refine repr_of_reads' rd sh (fun z => by rw [nd] at z; cases z) quiet (by omega) (fun _ _ e => e) (fun h' u tk keep => ?_) few
    exact ⟨.str _, H, I.kept keep, ⟨_, rfl⟩, q⟩
  | tup hs ha =>
    obtain ⟨as, rd⟩ := Dp.reads I _ _ u (.tup hs ha) ru
    obtain rfl : u = Value.ref _ := ru
    refine repr_of_reads' rd sh (fun z => by rw [nd] at z; cases z) quiet (by omega) (fun _ _ e => e) (fun h' u tk keep => ?_) few
    exact ⟨.str _, H, I.kept keep, ⟨_, rfl⟩, q⟩
theorem sc_repr : ScalCall X fRepr (rRepr X.K) := fun ds z e => by
  unfold fRepr at e
  split at e
  · rename_i d
    split at e
    · rename_i ok
      cases e
      refine ⟨_, .str _, fun H vs fp Q r q => ?_⟩
      obtain ⟨v, f, rfl, r0⟩ := r.one_inv
      exact ⟨v, d.py, rfl, r0.dp ok.1, ok.2.1, ok.2.2, D.py_noDict d, (D.dat_lay 64 d ok.1).2, q⟩
    · cases e
  · cases e
end
end Ow


namespace Ow
open PySem PySem.Spec PySem.SeqAt PyProof.Rows L2
theorem hu66 {k : Nat} {A : Around} (h : Room k A) : A.units + 66 < cLine := by have := h.un; omega
section
variable {X : Cx} {W : WX} {Γx Γ : Ctx} {n : Nat} {m : List Nat} {ks : List AK} {p pos : Pos} {e : Expr} {gs : List D → ER (List D)}
theorem ej_repr (quiet : Quiet X.A) (hu : X.A.units + 66 < cLine) (hm : X.mg "repr" = none) (ha : AJ X W Γx Γ n m [e] gs ks) (hg : Gl X "repr" := by rfl) (ho : ks.all valA = true := by rfl) (he : starEach [e] X.env = [(false, eval e X.env)] := by rfl) :
    EJ X W Γx Γ n m (.Call (.Name "repr" p) [e] [] pos) (eCall1 fRepr gs) .own :=
  ej_callB sc_repr (call_repr_data quiet hu) hg hm (by decide +kernel) ha ho (by decide) (by decide) he (by rfl)
end
section
variable {P : Program} {w : World} {K : PySem.W.Frag} {mg mb : Str → Option Value}
/-- the script's list and nothing else is known of the heap -/
def scriptH (K : PySem.W.Frag) (a : Addr) (o : Obj) (ns : List Int) : Hp := fun b => if K.lookup a = none ∧ b = a then some (.frz o (.lst (ns.map V.int))) else none
theorem scriptH_at {a b : Addr} {o : Obj} {ns : List Int} {u : HO} (h : scriptH K a o ns b = some u) : K.lookup a = none ∧ b = a ∧ u = .frz o (.lst (ns.map V.int)) := by
  unfold scriptH at h
  split at h
  · rename_i both
    exact ⟨both.1, both.2, (Option.some.inj h).symm⟩
  · cases h
theorem quiet_call {sp : Sp} {k : Nat} {fa a : Addr} {fd : FuncData} {x : Str} {s : Shared} {vs : List Value} {ns : List Int} (inK : K.In s.heap) (glob : s.heap.Ns mainGlobals mg) (blt : s.heap.Ns builtinsNs mb) (known : ∀ y : Str, y ≠ "__name__" → mb y = bootBuiltins y) (free : s.heap.NoLimit) (noGens : s.gens = #[])
    (script : s.heap.get? a = some { cls := .type "list", data := .seq vs.toArray }) (whole : IntsAre vs ns) (few : ns.length ≤ sizeLine) (room : Room k callerA)
    (F : ∀ base : Heap, K.In base → base.Ns mainGlobals mg → FnG P w K mg base (L2N.CX P w) k fa fd [x] sp) (bind : ∀ (s : Shared) (u : Value), BindsTo s fd ⟨[u], []⟩ [(x, u)])
    (said : ∀ H : Hp, Only H → SqL K H a (ns.map V.int) → sp [.ref a] H (fun v _ => v = .bl true) fun _ _ _ => False) :
    codeAny (model P w) callerA (.call (.ref fa) ⟨[.ref a], []⟩) (fun r s' => r = .ok (.ret (.bool true)) ∧ OldK s.heap s'.heap ∧ s'.os = s.os ∧ AllBare s'.gens) s := by
  obtain ⟨o, ho⟩ : ∃ o : Obj, o = { cls := .type "list", data := .seq vs.toArray } := ⟨_, rfl⟩
  rw [← ho] at script
  have told := vals_ints whole
  have same := whole.length
  have other : ∀ b : Addr, (K.lookup a = none → b ≠ a) → scriptH K a o ns b = none := fun b h => if_neg fun z => h z.1 z.2
  have list_ : SqL K (scriptH K a o ns) a (ns.map V.int) := by
    cases hk : K.lookup a with
    | none => exact .inl (.inr ⟨o, if_pos ⟨hk, rfl⟩⟩)
    | some u =>
      have e := inK a u hk
      rw [script] at e
      have e := Option.some.inj e
      rw [ho] at e
      subst e
      exact .inr ⟨_, vs.toArray, _, hk, rfl, rfl, rfl, by simpa [same] using few, by simpa using told⟩
  have heapOk : HOk P w (scriptH K a o ns) s.heap := fun b u z => by
    obtain ⟨_, rfl, rfl⟩ := scriptH_at z
    rw [ho] at script ⊢
    exact ⟨script, by simpa using few, vs, _, told, script⟩
  have dictFree : ∀ {b : Addr} {ob : Obj} {es : Array DictEntry} {ep : Nat}, s.heap.get? b = some ob → ob.data = .dict es ep → scriptH K a o ns b = none := fun {b ob es ep} here dd => other b fun _ e => by
    subst e
    rw [script] at here
    cases Option.some.inj here
    rw [ho] at dd
    cases dd
  have hidden : ∀ {b : Addr} {mm : Str → Option Value}, s.heap.Ns b mm → (hidT s.heap (scriptH K a o ns)).Ns b mm := fun {b mm} q => by
    obtain ⟨ob, es, ep, here, dd, rest⟩ := q
    exact ⟨ob, es, ep, hidT_get here (dictFree here dd), dd, rest⟩
  have inBase : K.In (hidT s.heap (scriptH K a o ns)) := fun b ob e => hidT_get (inK b ob e) (other b fun hk q => by rw [q, hk] at e; cases e)
  obtain ⟨mc, lim1, lim2⟩ := free
  have env : Env0 P w K mg (hidT s.heap (scriptH K a o ns)) callerA [] s (scriptH K a o ns) :=
    { frames := rfl, mod := ⟨inBase, hidden glob, ⟨mb, hidden blt, known⟩, ⟨mc, hidden lim1, lim2⟩⟩, bs := fun _ _ e => of_hidT e, bsz := (by rw [hidT_size]; exact Nat.le_refl _), funs := trivial, frf := (fun b hb => by cases hb), hok := heapOk, bare := .of_eq noGens }
  have alone : Only (scriptH K a o ns) := fun b => by
    cases q : scriptH K a o ns b with
    | none => exact .inl rfl
    | some u => exact .inr ⟨_, _, by rw [(scriptH_at q).2.2]⟩
  refine codeAny_mono ((F _ inBase (hidden glob)).goes callerA [] s _ ⟨[.ref a], []⟩ [.ref a] [.ref a] _ _ room rfl env (bind s _) (.cons rfl .nil) (said _ alone list_)) ?_
  intro res s2 got
  cases res with
  | error u =>
    obtain ⟨_, _, _, _, _, _, _, _, _, _, _, _, z⟩ := got
    exact z.elim
  | ok fl =>
    cases fl with
    | next => exact got.elim
    | brk => exact got.elim
    | cont => exact got.elim
    | ret u =>
      obtain ⟨v, H2, os, bare, un, ok2, rv, q⟩ := got
      cases (show v = .bl true from q)
      cases (show u = Value.bool true from rv)
      refine ⟨rfl, OldK.of_keep fun b ob e => ?_, os, bare⟩
      cases q : scriptH K a o ns b with
      | none => exact un.keep b ob e q (fun z => by cases z) (fun z => by cases z)
      | some w2 =>
        obtain ⟨_, e1, e2⟩ := scriptH_at q
        rw [e2] at q
        obtain ⟨g1, _⟩ := heapOk b _ q
        obtain ⟨g2, _⟩ := ok2 b _ (un.frzs b o _ q)
        rw [e] at g1
        cases Option.some.inj g1
        exact g2
theorem walk_owG {l : PySem.W.OpenLaw} {n k : Nat} {q : Program} {loose : List Str} {XP : (Str → Option Value) → Heap → Prop} {YP : World → Heap → Prop} {d : DefRec} {x : Str} {own : Bool} {Fd : List D → FR}
    (most : l.most = some n) (fits : n ≤ sizeLine) (plain : d.params.defaults = []) (room : Room k callerA)
    (F : ∀ (w : World) (mg : Str → Option Value) (fa : Addr) (h : Heap), YP w h →
      h.Ns mainGlobals mg → mg d.name = some (.ref fa) → ∃ (K : PySem.W.Frag) (fd : FuncData), K.In h ∧ (∀ (s : Shared) (u : Value), BindsTo s fd ⟨[u], []⟩ [(x, u)]) ∧
        ∀ base : Heap, K.In base → base.Ns mainGlobals mg → FnG l.prog w K mg base (L2N.CX l.prog w) k fa fd [x] (spD K (clM mg) 1 [] [] own Fd))
    (law : ∀ ns : List Int, ns.length ≤ n → (∀ z ∈ ns, Builtin.Int.intBits z ≤ 1048576) → ∃ outs, Fd [.fzl (ns.map D.int)] = .ret (.bl true) outs) :
    PySem.W.WalkO q loose XP YP l.row.toRowW d [] (fun f vs => PySem.call f vs) :=
  Att.attach_callB most plain fun w _ s mg _ fa _ _ _ _ a _ ns G Y _ _ _ named script whole few bits noGens => by
    obtain ⟨K, fd, inK, binds, promise⟩ := F w mg fa _ Y G.T.g named
    exact quiet_call inK G.T.g G.T.b G.T.builtins G.T.nolimit noGens script whole (Nat.le_trans few fits) room promise binds fun H only list_ => sp_law only list_ (law ns few bits)
theorem law_ofG {fa : List He.Fa} {fn : List He.DefD} (c : Fax fa fn K mg) (i j : Nat) {x y : Str} {params : Arguments} {body : List Stmt} {scope : Scope} {N : List Str} {lv nl : Nat} {m : List Nat} {own : Bool} {G : List D → SO} {Γ' : Ctx} {f : Addr} (hf : mg x = some (.ref f))
    (hd : fn[i]? = some ⟨(x, none), x, x, params, body, scope, [], []⟩) (hj : fa[j]? = some (.glo x)) (S : FnScope N [y] scope) (hnl : N.length = nl) (hpn : 1 ≤ nl) (hl : leC Γ' (ctxIo nl []) = true)
    (hbd : ∀ (kV doc pm : Value) (an : Option Addr) (cdv ct : Value) (us : List Value), us.length = [y].length → bindArgs (PySem.W.fnOf x x params body scope .none kV doc pm an cdv ct) ⟨us, []⟩ = pure ([y].zip us))
    (hb : ∀ (base : Heap) (cdv : Value) (A : Around) (outer : List Env) (s : Shared) (H : Hp) (E : XK), Quiet A → Room lv (A.deeper (envOfC x scope s.heap.objs.size (He.fAd K (x, none)) cdv)) →
      BJ (cxOf (L2N.CX P w) P w K mg base N x scope (He.fAd K (x, none)) cdv A outer s H E) (wOf E) (scOf nl [] own) (ctx0 1 nl [] []) Γ' 0 m body G) :
    ∃ fd : FuncData, (∀ (s : Shared) (u : Value), BindsTo s fd ⟨[u], []⟩ [(y, u)]) ∧ ∀ base : Heap, FnG P w K mg base (L2N.CX P w) (lv + 1) f fd [y] (spD K (clM mg) 1 [] [] own (fnD nl [] G)) := by
  obtain ⟨fd, F⟩ := c.s.def_ i hd
  have e := hf.symm.trans (c.glo j hj)
  cases e
  exact ⟨fd, fun s u => FunD.bindsA F hbd s [u] rfl, fun base => okG F S rfl hnl (by decide) hpn hl (hb base)⟩
end
end Ow


namespace Ow
open PySem PySem.Spec PyProof.Rows L2
/-- a tuple taken no times is a new empty one -/
theorem tuple_none (l : Addr) (items : Array Value) (n : Nat) (dd : Option Addr) (sl : Array (Option Value)) (u : Tok) (hne : items.isEmpty = false) :
    Meets (Builtin.«tuple.__mul__» ⟨[.ref l, .int 0 u], []⟩) (fun _ R s => s.heap.get? l = some { cls := .type "tuple", dict := dd, data := .seq items n, slots := sl } ∧
      R (.ok (.ret (Value.ref s.heap.objs.size))) { s with heap := s.heap.push { cls := Value.type "tuple", data := Data.seq #[] }, toks := s.toks }) :=
  .of_wp fun prog w A R s h => by
    obtain ⟨hp, g, d, tk, os⟩ := s
    obtain ⟨hl, h⟩ := h
    have f1 := AutoSeq1.idx_int
    have c1 : (items.isEmpty || (0 : Int) == 1) = false := by rw [hne]; rfl
    wp_walk using wpAny_loadPart' hl
    repeat (first
      | (refine wpAny_ite_false (decide_eq_false (by rw [c1]; exact Bool.false_ne_true)) ?_; wp_walk using wpAny_loadPart' hl))
    exact ⟨_, rfl, h⟩
def dRepT0 (x y : D) : Option D := match x, y with
  | .tup xs, .int k => if D.flats xs = true ∧ xs ≠ [] ∧ 0 ≤ k ∧ k ≤ 1000 ∧ xs.length ≤ 1000 then some (.tup (List.replicate k.toNat xs).flatten) else none
  | _, _ => none
def rRepT0 (K : PySem.W.Frag) : R2 := fun x y H Q => ∃ l k xs, x = .ref l ∧ y = .int k ∧ SqT K H l xs ∧ xs ≠ [] ∧ 0 ≤ k ∧ k ≤ 1000 ∧ xs.length ≤ 1000 ∧ (k = 1 → Q (.ref l) H) ∧ (k ≠ 1 → ∀ p, H p = none → Q (.ref p) (upd H p (.tup (List.replicate k.toNat xs).flatten)))
theorem op_repT0 {X : Cx} : OpR X (binaryOp .Mult) (rRepT0 X.K) := by
  rintro pins s σ H _ _ v u Q I rx ry ⟨l, k, xs, rfl, rfl, hT, hne, h1, h2, hz, once, more⟩
  by_cases hk : k = 0
  · subst hk
    match v, u, rx, ry with
    | _, _, rfl, ⟨t, rfl⟩ =>
      obtain ⟨its, r, ⟨⟨cls, dd, data, sl⟩, ho, hc, n, hd⟩, hs⟩ := I.tuple hT
      simp only at hc hd
      subst hc hd
      have hle : its.length = xs.length := r.length.symm
      have hi : its.toArray.isEmpty = false := by
        cases its with
        | nil => exact absurd (List.eq_nil_of_length_eq_zero hle.symm) hne
        | cons a b => rfl
      refine wpAny_binaryOp_repeat_ref (T := "tuple") (U := "int") (by decide) ⟨_, ho, rfl⟩ (fun s' => typeIs_int s' 0 t) noFill_tuple_mul F.fills_int_mul F.slot_int_rmul repeat_tuple F.slot_int_index.lookup
        (call_meets F.slot_int_rmul (typeIs_int s 0 t) F.entry_int_rmul (F.args_int_rmul_2 _ _) (int_rmul_tuple 0 t l its.toArray n dd sl)
          ⟨ho, rfl, ⟨_, ho, rfl⟩, call_meets F.slot_tuple_mul ⟨_, ho, rfl⟩ F.entry_tuple_mul (F.args_tuple_mul_2 _ _) (tuple_none l its.toArray n dd sl t hi) ⟨ho, ?_⟩⟩)
      refine ⟨.ref s.heap.objs.size, _, I.laid (t' := s.toks) (o := .tup (List.replicate (0 : Int).toNat xs).flatten) (fun b ob q => Heap.get?_push_of_some _ q) (Nat.le_refl _) ?_, rfl, more (by decide) _ (I.hok.fresh (Nat.le_refl _))⟩
      exact ⟨by show (0 : Nat) ≤ sizeLine; omega, _, .nil, IsTup.new _ _⟩
  · exact op_repT1 pins s σ H _ _ v u Q I rx ry ⟨l, k, xs, rfl, rfl, hT, hne, by omega, h2, hz, once, fun e => more (by omega)⟩
section
variable {X : Cx} {W : WX} {Γx Γ : Ctx} {n : Nat} {m1 m2 : List Nat} {pos : Pos} {a b : Expr} {ga gb : List D → ER D} {k k1 : Kd}
theorem ej_repT0 (ha : EJ X W Γx Γ n m1 a ga k) (hb : EJ X W Γx Γ (n + 1) m2 b gb k1) (ok : okK m2 (n + 1) k = true := by decide) : EJ X W Γx Γ n (m1 ++ m2) (.BinOp a .Mult b pos) (eBin dRepT0 ga gb) .own := by
  refine pe_imp (pe_op op_repT0 ha hb) fun σ H Q h => ?_
  obtain ⟨σD, lab, g0, s, po⟩ := h
  refine ⟨σD, lab, g0, s, po.seq' fun x σD1 v H1 lab1 s1 p1 r1 po1 => ?_⟩
  refine ⟨σD1, lab1, gok.up g0, s1, po1.seq (SubK.up _ _) (Nat.le_succ _) (SubK.nil _ _) (Nat.le_refl _) fun y σD2 w H2 lab2 s2 p2 r2 po2 => ?_⟩
  have r1 := VR.pres p2 r1 ok (by simp [keepL])
  obtain ⟨z, e, q⟩ := po2.done
  unfold dRepT0 at e
  split at e
  · split at e
    · rename_i hd
      cases e
      have ew := r2.int
      subst ew
      obtain ⟨fp, rp⟩ := r1.rp rfl
      cases rp with
      | tup h1 h2 =>
        have ef := RpL.flat h2 hd.1
        subst ef
        refine ⟨_, _, _, rfl, rfl, h1, fun e => hd.2.1 ?_, hd.2.2.1, hd.2.2.2.1, by rw [h2.len]; exact hd.2.2.2.2, fun e => ?_, fun _ q' hq => ?_⟩
        · subst e
          cases h2
          rfl
        · subst e
          have e1 : ∀ {α : Type} (l : List α), (List.replicate (1 : Int).toNat l).flatten = l := fun l => by
            show (List.replicate 1 l).flatten = l
            simp
          rw [e1] at q
          exact q _ _ _ s2 (.refl _ _ _ _) (.of_nil (.tup h1 h2))
        · have hj := fun j => rep_rp h2 j
          have P : ∀ o, Pres [] n H2 lab2 (upd H2 q' o) (setL lab2 q' .fro) := fun o => .alloc hq rfl
          exact q _ _ _ (s2.pres g0 (P _)) (P _) (.of_nil (.tup (.of upd_same) ((hj _).ext (TK.new hq) (by simp))))
    · cases e
  · cases e
end
end Ow


namespace Ow
open PySem PySem.Spec PyProof.Rows L2
def SO.bnd (r : SO) (G : List D → SO) : SO := match r with
  | .nxt σ1 => G σ1
  | r => r
def FR.er (r : FR) (rs : List Nat) (σ1 : List D) : ER D := match r with
  | .stuck => .stuck
  | .ret d outs => .ok d (putOuts rs outs σ1)
  | .exc c p outs => .exc c p (putOuts rs outs σ1)
def SO.fin (r : SO) (io : List Nat) : FR := match r with
  | .nxt σ => .ret .non (io.map fun i => σ.getD i .non)
  | .ret d σ => .ret d (io.map fun i => σ.getD i .non)
  | .exc c p σ => .exc c p (io.map fun i => σ.getD i .non)
  | _ => .stuck
section
variable {α β : Type} {σ σ1 : List D} {io rs : List Nat}
theorem bnd_nxt (σ : List D) (G : List D → SO) : (SO.nxt σ).bnd G = G σ := (rfl)
theorem bnd_ret (d : D) (σ : List D) (G : List D → SO) : (SO.ret d σ).bnd G = .ret d σ := (rfl)
theorem bnd_exc (c : Str) (p : D) (σ : List D) (G : List D → SO) : (SO.exc c p σ).bnd G = .exc c p σ := (rfl)
theorem bnd_brk (σ : List D) (G : List D → SO) : (SO.brk σ).bnd G = .brk σ := (rfl)
theorem bnd_cnt (σ : List D) (G : List D → SO) : (SO.cnt σ).bnd G = .cnt σ := (rfl)
theorem er_ret (d : D) (outs : List D) (rs : List Nat) (σ : List D) : (FR.ret d outs).er rs σ = .ok d (putOuts rs outs σ) := (rfl)
theorem er_exc (c : Str) (p : D) (outs : List D) (rs : List Nat) (σ : List D) : (FR.exc c p outs).er rs σ = .exc c p (putOuts rs outs σ) := (rfl)
theorem fin_nxt (σ : List D) (io : List Nat) : (SO.nxt σ).fin io = .ret .non (io.map fun i => σ.getD i .non) := (rfl)
theorem fin_ret (d : D) (σ : List D) (io : List Nat) : (SO.ret d σ).fin io = .ret d (io.map fun i => σ.getD i .non) := (rfl)
theorem fin_exc (c : Str) (p : D) (σ : List D) (io : List Nat) : (SO.exc c p σ).fin io = .exc c p (io.map fun i => σ.getD i .non) := (rfl)
theorem a_fnD {nl : Nat} {io : List Nat} {G : List D → SO} {ds : List D} : fnD nl io G ds = (G (ds ++ List.replicate (nl - ds.length) .non)).fin io := by
  unfold fnD; cases G (ds ++ List.replicate (nl - ds.length) .non) <;> rfl
theorem a_seq {A B : List D → SO} : sSeq A B σ = (A σ).bnd B := by unfold sSeq SO.bnd; cases A σ <;> rfl
theorem a_skip : sSkip σ = .nxt σ := (rfl)
theorem a_retV {i : Nat} : sRetV i σ = .ret (σ.getD i .non) σ := (rfl)
theorem a_retN : sRetN σ = .ret .non σ := (rfl)
theorem a_brk : sBrk σ = .brk σ := (rfl)
theorem a_cnt : sCnt σ = .cnt σ := (rfl)
theorem a_raise {c : Str} : sRaise c σ = .exc c .non σ := (rfl)
theorem a_var {i : Nat} : eVar i σ = .ok (σ.getD i .non) σ := (rfl)
theorem a_c {d : D} : eC d σ = .ok d σ := (rfl)
theorem a_nil : aNil σ = .ok [] σ := (rfl)
theorem o_some {α : Type} (a : α) (σ : List D) : ofO (some a) σ = .ok a σ := (rfl)
def soO (o : Option (List D)) : SO := match o with
  | some c => .nxt c
  | none => .stuck
theorem soO_some {c : List D} : soO (some c) = .nxt c := (rfl)
def ifK (A B : List D → SO) (e0 : ER (Bool)) : SO := match e0 with
  | .stuck => .stuck
  | .ok b σ1 => if b = true then A σ1 else B σ1
  | .exc c p σ1 => .exc c p σ1
theorem ifK_x {A B : List D → SO} {c : Str} {p : D} : ifK A B (.exc c p σ) = .exc c p σ := (rfl)
theorem ifK_t {A B : List D → SO} : ifK A B (.ok true σ) = A σ := (rfl)
theorem ifK_f {A B : List D → SO} : ifK A B (.ok false σ) = B σ := (rfl)
def retK1  (e0 : ER (D)) : SO := match e0 with
  | .stuck => .stuck
  | .ok d σ1 => .ret d σ1
  | .exc c p σ1 => .exc c p σ1
theorem retK1_x  {c : Str} {p : D} : retK1  (.exc c p σ) = .exc c p σ := (rfl)
theorem retK1_o  {d : D} : retK1  (.ok d σ) = .ret d σ := (rfl)
def setK (i : Nat) (e0 : ER (D)) : SO := match e0 with
  | .stuck => .stuck
  | .ok d σ1 => .nxt (σ1.set i d)
  | .exc c p σ1 => .exc c p σ1
theorem setK_x {i : Nat} {c : Str} {p : D} : setK i (.exc c p σ) = .exc c p σ := (rfl)
theorem setK_o {i : Nat} {d : D} : setK i (.ok d σ) = .nxt (σ.set i d) := (rfl)
def dropK1  (e0 : ER (D)) : SO := match e0 with
  | .stuck => .stuck
  | .ok d σ1 => .nxt σ1
  | .exc c p σ1 => .exc c p σ1
theorem dropK1_x  {c : Str} {p : D} : dropK1  (.exc c p σ) = .exc c p σ := (rfl)
theorem dropK1_o  {d : D} : dropK1  (.ok d σ) = .nxt σ := (rfl)
def parK1 (i j : Nat) (e0 : ER (List D)) : SO := match e0 with
  | .stuck => .stuck
  | .ok ds σ1 => soO (match ds with | [x, y] => some ((σ1.set i x).set j y) | _ => none)
  | .exc c p σ1 => .exc c p σ1
theorem parK1_x {i j : Nat} {c : Str} {p : D} : parK1 i j (.exc c p σ) = .exc c p σ := (rfl)
theorem parK1_o {i j : Nat} {x y : D} : parK1 i j (.ok [x, y] σ) = .nxt ((σ.set i x).set j y) := (rfl)
def setix3 (r : Nat) (v : D) (e0 : ER (D)) : SO := match e0 with
  | .stuck => .stuck
  | .ok i σ1 => soO ((dSetIx (σ1.getD r .non) i v).map fun c => σ1.set r c)
  | .exc c p σ1 => .exc c p σ1
theorem setix3_x {r : Nat} {v : D} {c : Str} {p : D} : setix3 r v (.exc c p σ) = .exc c p σ := (rfl)
def setix4 (r : Nat) (σ1 : List D) (o : Option D) : SO := match o with
  | some c => .nxt (σ1.set r c)
  | none => .stuck
theorem setix4_s {r : Nat} {c : D} : setix4 r σ (some c) = .nxt (σ.set r c) := (rfl)
theorem setix3_o {r : Nat} {v i : D} : setix3 r v (.ok i σ) = setix4 r σ (dSetIx (σ.getD r .non) i v) := by
  show soO _ = _
  cases dSetIx (σ.getD r .non) i v <;> rfl
def unpK (T : Tg) (e0 : ER (D)) : SO := match e0 with
  | .stuck => .stuck
  | .ok d σ1 => soO (bindT T d σ1)
  | .exc c p σ1 => .exc c p σ1
theorem unpK_x {T : Tg} {c : Str} {p : D} : unpK T (.exc c p σ) = .exc c p σ := (rfl)
theorem unpK_o {T : Tg} {d : D} : unpK T (.ok d σ) = soO (bindT T d σ) := (rfl)
def forK (T : Tg) (G : List D → SO) (e0 : ER (List D)) : SO := match e0 with
  | .stuck => .stuck
  | .ok ds σ1 => forL T G ds σ1
  | .exc c p σ1 => .exc c p σ1
theorem forK_x {T : Tg} {G : List D → SO} {c : Str} {p : D} : forK T G (.exc c p σ) = .exc c p σ := (rfl)
theorem forK_o {T : Tg} {G : List D → SO} {ds : List D} : forK T G (.ok ds σ) = forL T G ds σ := (rfl)
def bin3 (f : D → D → Option D) (x : D) (e0 : ER (D)) : ER D := match e0 with
  | .stuck => .stuck
  | .ok y σ1 => ofO (f x y) σ1
  | .exc c p σ1 => .exc c p σ1
theorem bin3_x {f : D → D → Option D} {x : D} {c : Str} {p : D} : bin3 f x (.exc c p σ) = .exc c p σ := (rfl)
theorem bin3_o {f : D → D → Option D} {x : D} {y : D} : bin3 f x (.ok y σ) = ofO (f x y) σ := (rfl)
def un2 (f : D → Option D) (e0 : ER (D)) : ER D := match e0 with
  | .stuck => .stuck
  | .ok x σ1 => ofO (f x) σ1
  | .exc c p σ1 => .exc c p σ1
theorem un2_x {f : D → Option D} {c : Str} {p : D} : un2 f (.exc c p σ) = .exc c p σ := (rfl)
theorem un2_o {f : D → Option D} {x : D} : un2 f (.ok x σ) = ofO (f x) σ := (rfl)
def cons3 (d : D) (e0 : ER (List D)) : ER (List D) := match e0 with
  | .stuck => .stuck
  | .ok ds σ1 => .ok (d :: ds) σ1
  | .exc c p σ1 => .exc c p σ1
theorem cons3_x {d : D} {c : Str} {p : D} : cons3 d (.exc c p σ) = .exc c p σ := (rfl)
theorem cons3_o {d : D} {ds : List D} : cons3 d (.ok ds σ) = .ok (d :: ds) σ := (rfl)
def slot2 (r : Nat) (e0 : ER (List D)) : ER (List D) := match e0 with
  | .stuck => .stuck
  | .ok ds σ1 => .ok (σ1.getD r .non :: ds) σ1
  | .exc c p σ1 => .exc c p σ1
theorem slot2_x {r : Nat} {c : Str} {p : D} : slot2 r (.exc c p σ) = .exc c p σ := (rfl)
theorem slot2_o {r : Nat} {ds : List D} : slot2 r (.ok ds σ) = .ok (σ.getD r .non :: ds) σ := (rfl)
def tup2  (e0 : ER (List D)) : ER D := match e0 with
  | .stuck => .stuck
  | .ok ds σ1 => .ok (.tup ds) σ1
  | .exc c p σ1 => .exc c p σ1
theorem tup2_x  {c : Str} {p : D} : tup2  (.exc c p σ) = .exc c p σ := (rfl)
theorem tup2_o  {ds : List D} : tup2  (.ok ds σ) = .ok (.tup ds) σ := (rfl)
def lst2  (e0 : ER (List D)) : ER D := match e0 with
  | .stuck => .stuck
  | .ok ds σ1 => .ok (.lst ds) σ1
  | .exc c p σ1 => .exc c p σ1
theorem lst2_x  {c : Str} {p : D} : lst2  (.exc c p σ) = .exc c p σ := (rfl)
theorem lst2_o  {ds : List D} : lst2  (.ok ds σ) = .ok (.lst ds) σ := (rfl)
def c12 (f : List D → Option D) (e0 : ER (List D)) : ER D := match e0 with
  | .stuck => .stuck
  | .ok ds σ1 => ofO (f ds) σ1
  | .exc c p σ1 => .exc c p σ1
theorem c12_x {f : List D → Option D} {c : Str} {p : D} : c12 f (.exc c p σ) = .exc c p σ := (rfl)
theorem c12_o {f : List D → Option D} {ds : List D} : c12 f (.ok ds σ) = ofO (f ds) σ := (rfl)
def call2 (F : List D → FR) (rs : List Nat) (e0 : ER (List D)) : ER D := match e0 with
  | .stuck => .stuck
  | .ok ds σ1 => (F ds).er rs σ1
  | .exc c p σ1 => .exc c p σ1
theorem call2_x {F : List D → FR} {rs : List Nat} {c : Str} {p : D} : call2 F rs (.exc c p σ) = .exc c p σ := (rfl)
theorem call2_o {F : List D → FR} {rs : List Nat} {ds : List D} : call2 F rs (.ok ds σ) = (F ds).er rs σ := (rfl)
def flat2  (e0 : ER (D)) : ER D := match e0 with
  | .stuck => .stuck
  | .ok d σ1 => if d.flat = true then .ok d σ1 else .stuck
  | .exc c p σ1 => .exc c p σ1
theorem flat2_x  {c : Str} {p : D} : flat2  (.exc c p σ) = .exc c p σ := (rfl)
theorem flat2_o {d : D} (h : d.flat = true) : flat2 (.ok d σ) = .ok d σ := if_pos h
theorem flat2_i {i : Int} : flat2 (.ok (.int i) σ) = .ok (.int i) σ := (rfl)
theorem flat2_b {i : Bool} : flat2 (.ok (.bl i) σ) = .ok (.bl i) σ := (rfl)
theorem flat2_s {i : Str} : flat2 (.ok (.str i) σ) = .ok (.str i) σ := (rfl)
theorem flat2_n : flat2 (.ok .non σ) = .ok .non σ := (rfl)
def flatL2  (e0 : ER (D)) : ER D := match e0 with
  | .stuck => .stuck
  | .ok d σ1 => match d with | .lst ds => if D.flats ds = true then .ok d σ1 else .stuck | _ => .stuck
  | .exc c p σ1 => .exc c p σ1
theorem flatL2_x  {c : Str} {p : D} : flatL2  (.exc c p σ) = .exc c p σ := (rfl)
theorem flatL2_o {ds : List D} (h : D.flats ds = true) : flatL2 (.ok (.lst ds) σ) = .ok (.lst ds) σ := if_pos h
def tof2  (e0 : ER (D)) : ER Bool := match e0 with
  | .stuck => .stuck
  | .ok d σ1 => match d with | .bl b => .ok b σ1 | _ => .stuck
  | .exc c p σ1 => .exc c p σ1
theorem tof2_x  {c : Str} {p : D} : tof2  (.exc c p σ) = .exc c p σ := (rfl)
theorem tof2_o {b : Bool} : tof2 (.ok (.bl b) σ) = .ok b σ := (rfl)
def tru2  (e0 : ER (D)) : ER Bool := match e0 with
  | .stuck => .stuck
  | .ok d σ1 => ofO d.truth σ1
  | .exc c p σ1 => .exc c p σ1
theorem tru2_x  {c : Str} {p : D} : tru2  (.exc c p σ) = .exc c p σ := (rfl)
theorem tru2_o  {d : D} : tru2  (.ok d σ) = ofO d.truth σ := (rfl)
def tnot2  (e0 : ER (Bool)) : ER Bool := match e0 with
  | .stuck => .stuck
  | .ok b σ1 => .ok (!b) σ1
  | .exc c p σ1 => .exc c p σ1
theorem tnot2_x  {c : Str} {p : D} : tnot2  (.exc c p σ) = .exc c p σ := (rfl)
theorem tnot2_o  {b : Bool} : tnot2  (.ok b σ) = .ok (!b) σ := (rfl)
def tand2 (h : List D → ER Bool) (e0 : ER (Bool)) : ER Bool := match e0 with
  | .stuck => .stuck
  | .ok b σ1 => if b = true then h σ1 else .ok false σ1
  | .exc c p σ1 => .exc c p σ1
theorem tand2_x {h : List D → ER Bool} {c : Str} {p : D} : tand2 h (.exc c p σ) = .exc c p σ := (rfl)
theorem tand2_t {h : List D → ER Bool} : tand2 h (.ok true σ) = h σ := (rfl)
theorem tand2_f {h : List D → ER Bool} : tand2 h (.ok false σ) = .ok false σ := (rfl)
def tor2 (h : List D → ER Bool) (e0 : ER (Bool)) : ER Bool := match e0 with
  | .stuck => .stuck
  | .ok b σ1 => if b = true then .ok true σ1 else h σ1
  | .exc c p σ1 => .exc c p σ1
theorem tor2_x {h : List D → ER Bool} {c : Str} {p : D} : tor2 h (.exc c p σ) = .exc c p σ := (rfl)
theorem tor2_t {h : List D → ER Bool} : tor2 h (.ok true σ) = .ok true σ := (rfl)
theorem tor2_f {h : List D → ER Bool} : tor2 h (.ok false σ) = h σ := (rfl)
def and2 (h : List D → ER D) (e0 : ER (D)) : ER D := match e0 with
  | .stuck => .stuck
  | .ok d σ1 => match d with | .bl true => h σ1 | .bl false => .ok (.bl false) σ1 | _ => .stuck
  | .exc c p σ1 => .exc c p σ1
theorem and2_x {h : List D → ER D} {c : Str} {p : D} : and2 h (.exc c p σ) = .exc c p σ := (rfl)
theorem and2_t {h : List D → ER D} : and2 h (.ok (.bl true) σ) = h σ := (rfl)
theorem and2_f {h : List D → ER D} : and2 h (.ok (.bl false) σ) = .ok (.bl false) σ := (rfl)
def or2 (h : List D → ER D) (e0 : ER (D)) : ER D := match e0 with
  | .stuck => .stuck
  | .ok d σ1 => match d with | .bl true => .ok (.bl true) σ1 | .bl false => h σ1 | _ => .stuck
  | .exc c p σ1 => .exc c p σ1
theorem or2_x {h : List D → ER D} {c : Str} {p : D} : or2 h (.exc c p σ) = .exc c p σ := (rfl)
theorem or2_t {h : List D → ER D} : or2 h (.ok (.bl true) σ) = .ok (.bl true) σ := (rfl)
theorem or2_f {h : List D → ER D} : or2 h (.ok (.bl false) σ) = h σ := (rfl)
def eif2 (g h : List D → ER D) (e0 : ER (Bool)) : ER D := match e0 with
  | .stuck => .stuck
  | .ok b σ1 => if b = true then g σ1 else h σ1
  | .exc c p σ1 => .exc c p σ1
theorem eif2_x {g h : List D → ER D} {c : Str} {p : D} : eif2 g h (.exc c p σ) = .exc c p σ := (rfl)
theorem eif2_t {g h : List D → ER D} : eif2 g h (.ok true σ) = g σ := (rfl)
theorem eif2_f {g h : List D → ER D} : eif2 g h (.ok false σ) = h σ := (rfl)
def isx2 (hit : Str → Option Bool) (e0 : ER (D)) : ER D := match e0 with
  | .stuck => .stuck
  | .ok d σ1 => match d with | .exn c _ => ofO ((hit c).map .bl) σ1 | _ => .stuck
  | .exc c p σ1 => .exc c p σ1
theorem isx2_x {hit : Str → Option Bool} {c : Str} {p : D} : isx2 hit (.exc c p σ) = .exc c p σ := (rfl)
def meth3 (f : D → List D → Option D) (d : D) (e0 : ER (List D)) : ER D := match e0 with
  | .stuck => .stuck
  | .ok ds σ1 => ofO (f d ds) σ1
  | .exc c p σ1 => .exc c p σ1
theorem meth3_x {f : D → List D → Option D} {d : D} {c : Str} {p : D} : meth3 f d (.exc c p σ) = .exc c p σ := (rfl)
theorem meth3_o {f : D → List D → Option D} {d : D} {ds : List D} : meth3 f d (.ok ds σ) = ofO (f d ds) σ := (rfl)
def mut2 (r : Nat) (f : D → List D → Option (D × D)) (e0 : ER (List D)) : ER D := match e0 with
  | .stuck => .stuck
  | .ok ds σ1 => match f (σ1.getD r .non) ds with | some (c, z) => .ok z (σ1.set r c) | none => .stuck
  | .exc c p σ1 => .exc c p σ1
theorem mut2_x {r : Nat} {f : D → List D → Option (D × D)} {c : Str} {p : D} : mut2 r f (.exc c p σ) = .exc c p σ := (rfl)
def mut3 (r : Nat) (σ1 : List D) (o : Option (D × D)) : ER D := match o with
  | some (c, z) => .ok z (σ1.set r c)
  | none => .stuck
theorem mut3_s {r : Nat} {c z : D} : mut3 r σ (some (c, z)) = .ok z (σ.set r c) := (rfl)
theorem mut2_o {r : Nat} {f : D → List D → Option (D × D)} {ds : List D} : mut2 r f (.ok ds σ) = mut3 r σ (f (σ.getD r .non) ds) := by
  show (match f (σ.getD r .non) ds with | some (c, z) => ER.ok z (σ.set r c) | none => .stuck) = _
  cases f (σ.getD r .non) ds <;> rfl
def list2  (e0 : ER (D)) : ER (List D) := match e0 with
  | .stuck => .stuck
  | .ok d σ1 => match d with | .lst ds => .ok ds σ1 | .fzl ds => .ok ds σ1 | _ => .stuck
  | .exc c p σ1 => .exc c p σ1
theorem list2_x  {c : Str} {p : D} : list2  (.exc c p σ) = .exc c p σ := (rfl)
theorem list2_l {ds : List D} : list2 (.ok (.lst ds) σ) = .ok ds σ := (rfl)
theorem list2_f {ds : List D} : list2 (.ok (.fzl ds) σ) = .ok ds σ := (rfl)
def gtup2  (e0 : ER (D)) : ER (List D) := match e0 with
  | .stuck => .stuck
  | .ok d σ1 => match d with | .tup ds => .ok ds σ1 | _ => .stuck
  | .exc c p σ1 => .exc c p σ1
theorem gtup2_x  {c : Str} {p : D} : gtup2  (.exc c p σ) = .exc c p σ := (rfl)
theorem gtup2_o {ds : List D} : gtup2 (.ok (.tup ds) σ) = .ok ds σ := (rfl)
def rng2  (e0 : ER (List D)) : ER (List D) := match e0 with
  | .stuck => .stuck
  | .ok ds σ1 => ofO (gRng ds) σ1
  | .exc c p σ1 => .exc c p σ1
theorem rng2_x  {c : Str} {p : D} : rng2  (.exc c p σ) = .exc c p σ := (rfl)
theorem rng2_o  {ds : List D} : rng2  (.ok ds σ) = ofO (gRng ds) σ := (rfl)
def bin2 (f : D → D → Option D) (g : List D → ER D) (e0 : ER (D)) : ER D := match e0 with
  | .stuck => .stuck
  | .ok x σ1 => bin3 f x (g σ1)
  | .exc c p σ1 => .exc c p σ1
theorem bin2_x {f : D → D → Option D} {g : List D → ER D} {c : Str} {p : D} : bin2 f g (.exc c p σ) = .exc c p σ := (rfl)
theorem bin2_o {f : D → D → Option D} {g : List D → ER D} {x : D} : bin2 f g (.ok x σ) = bin3 f x (g σ) := (rfl)
def cons2 (gs : List D → ER (List D)) (e0 : ER (D)) : ER (List D) := match e0 with
  | .stuck => .stuck
  | .ok d σ1 => cons3 d (gs σ1)
  | .exc c p σ1 => .exc c p σ1
theorem cons2_x {gs : List D → ER (List D)} {c : Str} {p : D} : cons2 gs (.exc c p σ) = .exc c p σ := (rfl)
theorem cons2_o {gs : List D → ER (List D)} {d : D} : cons2 gs (.ok d σ) = cons3 d (gs σ) := (rfl)
def setix2 (r : Nat) (gi : List D → ER D) (e0 : ER (D)) : SO := match e0 with
  | .stuck => .stuck
  | .ok v σ1 => setix3 r v (gi σ1)
  | .exc c p σ1 => .exc c p σ1
theorem setix2_x {r : Nat} {gi : List D → ER D} {c : Str} {p : D} : setix2 r gi (.exc c p σ) = .exc c p σ := (rfl)
theorem setix2_o {r : Nat} {gi : List D → ER D} {v : D} : setix2 r gi (.ok v σ) = setix3 r v (gi σ) := (rfl)
def meth2 (T : String) (f : D → List D → Option D) (gs : List D → ER (List D)) (e0 : ER (D)) : ER D := match e0 with
  | .stuck => .stuck
  | .ok d σ1 => if isTy T d = true then meth3 f d (gs σ1) else .stuck
  | .exc c p σ1 => .exc c p σ1
theorem meth2_x {T : String} {f : D → List D → Option D} {gs : List D → ER (List D)} {c : Str} {p : D} : meth2 T f gs (.exc c p σ) = .exc c p σ := (rfl)
theorem meth2_o {T : String} {f : D → List D → Option D} {gs : List D → ER (List D)} {d : D} (h : isTy T d = true) : meth2 T f gs (.ok d σ) = meth3 f d (gs σ) := if_pos h
theorem meth2_l {f : D → List D → Option D} {gs : List D → ER (List D)} {ds : List D} : meth2 "list" f gs (.ok (.lst ds) σ) = meth3 f (.lst ds) (gs σ) := meth2_o (by rfl)
theorem a_if {t : List D → ER Bool} {A B : List D → SO} : sIf t A B σ = ifK A B (t σ) := by
  unfold sIf ifK
  cases t σ <;> rfl
theorem a_ret {g : List D → ER D} : sRet g σ = retK1 (g σ) := by
  unfold sRet sOf retK1
  cases g σ <;> rfl
theorem a_set {i : Nat} {g : List D → ER D} : sSet i g σ = setK i (g σ) := by
  unfold sSet sOf setK
  cases g σ <;> rfl
theorem a_drop {g : List D → ER D} : sDrop g σ = dropK1 (g σ) := by
  unfold sDrop sOf dropK1
  cases g σ <;> rfl
theorem a_setix {r : Nat} {gv gi : List D → ER D} : sSetIx r gv gi σ = setix2 r gi (gv σ) := by
  unfold sSetIx sOf setix2
  cases gv σ with
  | ok v σ1 =>
    show (match gi σ1 with | .stuck => SO.stuck | .ok d σ1 => _ | .exc c p σ1 => .exc c p σ1) = setix3 r v (gi σ1)
    cases gi σ1 with
    | ok i σ2 =>
      rw [setix3_o]
      dsimp only
      cases dSetIx (σ2.getD r .non) i v <;> rfl
    | _ => rfl
  | _ => rfl
theorem a_unp {T : Tg} {g : List D → ER D} : sUnp T g σ = unpK T (g σ) := by
  unfold sUnp sOf unpK
  cases g σ with
  | ok d σ1 =>
    dsimp only
    cases bindT T d σ1 <;> rfl
  | _ => rfl
theorem a_for {T : Tg} {gi : List D → ER (List D)} {G : List D → SO} : sFor T gi G σ = forK T G (gi σ) := by
  unfold sFor forK
  cases gi σ <;> rfl
theorem a_bin {f : D → D → Option D} {ga gb : List D → ER D} : eBin f ga gb σ = bin2 f gb (ga σ) := by
  unfold eBin bin2
  cases ga σ with
  | ok x σ1 =>
    show (gb σ1).bind _ = bin3 f x (gb σ1)
    unfold bin3
    cases gb σ1 <;> rfl
  | _ => rfl
theorem a_un {f : D → Option D} {ga : List D → ER D} : eUn f ga σ = un2 f (ga σ) := by
  unfold eUn un2 ER.bind
  cases ga σ <;> rfl
theorem a_cons {g : List D → ER D} {gs : List D → ER (List D)} : aCons g gs σ = cons2 gs (g σ) := by
  unfold aCons cons2
  cases g σ with
  | ok x σ1 =>
    show (gs σ1).bind _ = cons3 x (gs σ1)
    unfold cons3
    cases gs σ1 <;> rfl
  | _ => rfl
theorem a_slot {r : Nat} {gs : List D → ER (List D)} : aSlot r gs σ = slot2 r (gs σ) := by
  unfold aSlot slot2 ER.bind
  cases gs σ <;> rfl
theorem a_tup {gs : List D → ER (List D)} : eTup gs σ = tup2 (gs σ) := by
  unfold eTup tup2 ER.bind
  cases gs σ <;> rfl
theorem a_lst {gs : List D → ER (List D)} : eLst gs σ = lst2 (gs σ) := by
  unfold eLst lst2 ER.bind
  cases gs σ <;> rfl
theorem a_flat {g : List D → ER D} : eFlat g σ = flat2 (g σ) := by
  unfold eFlat flat2 ER.bind
  cases g σ <;> rfl
theorem a_flatL {g : List D → ER D} : eFlatL g σ = flatL2 (g σ) := by
  unfold eFlatL flatL2 ER.bind
  cases g σ with
  | ok d σ1 => cases d <;> rfl
  | _ => rfl
theorem a_call1 {f : List D → Option D} {gs : List D → ER (List D)} : eCall1 f gs σ = c12 f (gs σ) := by
  unfold eCall1 c12 ER.bind
  cases gs σ <;> rfl
theorem a_call {F : List D → FR} {gs : List D → ER (List D)} : eCall F rs gs σ = call2 F rs (gs σ) := by
  unfold eCall call2 ER.bind FR.er
  cases gs σ <;> rfl
theorem a_tof {g : List D → ER D} : tOf g σ = tof2 (g σ) := by
  unfold tOf tof2 ER.bind
  cases g σ <;> rfl
theorem a_tru {g : List D → ER D} : tTru g σ = tru2 (g σ) := by
  unfold tTru tru2 ER.bind
  cases g σ <;> rfl
theorem a_tnot {g : List D → ER Bool} : tNotD g σ = tnot2 (g σ) := by
  unfold tNotD tnot2 ER.bind
  cases g σ <;> rfl
theorem a_tand {g h : List D → ER Bool} : tAndD g h σ = tand2 h (g σ) := by
  unfold tAndD tand2 ER.bind
  cases g σ <;> rfl
theorem a_tor {g h : List D → ER Bool} : tOrD g h σ = tor2 h (g σ) := by
  unfold tOrD tor2 ER.bind
  cases g σ <;> rfl
theorem a_and {g h : List D → ER D} : eAnd g h σ = and2 h (g σ) := by
  unfold eAnd and2 ER.bind
  cases g σ <;> rfl
theorem a_or {g h : List D → ER D} : eOr g h σ = or2 h (g σ) := by
  unfold eOr or2 ER.bind
  cases g σ <;> rfl
theorem a_eif {t : List D → ER Bool} {g h : List D → ER D} : eIf t g h σ = eif2 g h (t σ) := by
  unfold eIf eif2 ER.bind
  cases t σ <;> rfl
theorem a_isx {hit : Str → Option Bool} {g : List D → ER D} : eIsX hit g σ = isx2 hit (g σ) := by
  unfold eIsX isx2 ER.bind
  cases g σ <;> rfl
theorem a_meth {T : String} {f : D → List D → Option D} {g : List D → ER D} {gs : List D → ER (List D)} : eMeth T f g gs σ = meth2 T f gs (g σ) := by
  unfold eMeth meth2
  cases g σ with
  | ok x σ1 =>
    show (if isTy T x = true then (gs σ1).bind _ else _) = if isTy T x = true then meth3 f x (gs σ1) else _
    unfold meth3
    cases gs σ1 <;> rfl
  | _ => rfl
theorem a_grange {gs : List D → ER (List D)} : gRange gs σ = rng2 (gs σ) := by
  unfold gRange rng2 ER.bind
  cases gs σ <;> rfl
theorem a_glist {g : List D → ER D} : gList g σ = list2 (g σ) := by
  unfold gList list2 ER.bind
  cases g σ <;> rfl
theorem a_gtup {g : List D → ER D} : gTupl g σ = gtup2 (g σ) := by
  unfold gTupl gtup2 ER.bind
  cases g σ <;> rfl
theorem a_par {i j : Nat} {gs : List D → ER (List D)} : sPar i j gs σ = parK1 i j (gs σ) := by
  unfold sPar parK1
  cases gs σ with
  | ok ds σ1 => cases ds with
    | nil => rfl
    | cons x ds => cases ds with
      | nil => rfl
      | cons y ds => cases ds <;> rfl
  | _ => rfl
def mut1 (b : Bool) (r : Nat) (f : D → List D → Option (D × D)) (x : ER (List D)) : ER D := if b = true then mut2 r f x else .stuck
theorem mut1_t {r : Nat} {f : D → List D → Option (D × D)} {x : ER (List D)} : mut1 true r f x = mut2 r f x := (rfl)
theorem a_mut {T : String} {r : Nat} {f : D → List D → Option (D × D)} {gs : List D → ER (List D)} : eMut T r f gs σ = mut1 (isTy T (σ.getD r .non)) r f (gs σ) := by
  unfold eMut mut1 mut2
  cases gs σ <;> rfl
theorem isTy_ll {ds : List D} : isTy "list" (.lst ds) = true := (rfl)
def SO.hdl (r : SO) (hit : Str → Option Bool) (i : Nat) (Gs : List D → SO) : SO := match r with
  | .exc c p σ1 => (match hit c with
    | none => .stuck
    | some true => (Gs (σ1.set i (.exn c p))).noExc
    | some false => .exc c p σ1)
  | r => r
theorem a_try {G : List D → SO} {hit : Str → Option Bool} {i : Nat} {Gs : List D → SO} : sTry G hit i Gs σ = (G σ).hdl hit i Gs := by unfold sTry SO.hdl; cases G σ <;> rfl
theorem hdl_nxt {hit : Str → Option Bool} {i : Nat} {Gs : List D → SO} : (SO.nxt σ).hdl hit i Gs = .nxt σ := (rfl)
theorem hdl_ret {d : D} {hit : Str → Option Bool} {i : Nat} {Gs : List D → SO} : (SO.ret d σ).hdl hit i Gs = .ret d σ := (rfl)
theorem noExc_ret {d : D} : (SO.ret d σ).noExc = .ret d σ := (rfl)
theorem noExc_nxt : (SO.nxt σ).noExc = .nxt σ := (rfl)
-- operators
theorem add_ii {i j : Int} : dAdd (.int i) (.int j) = some (.int (i + j)) := (rfl)
theorem sub_ii {i j : Int} : dSub (.int i) (.int j) = some (.int (i - j)) := (rfl)
theorem mul_ii {i j : Int} (h : mulOk i j = true) : dMul (.int i) (.int j) = some (.int (i * j)) := if_pos h
theorem lt_ii {i j : Int} : dLt (.int i) (.int j) = some (.bl (decide (i < j))) := (rfl)
theorem le_ii {i j : Int} : dLe (.int i) (.int j) = some (.bl (decide (i ≤ j))) := (rfl)
theorem gt_ii {i j : Int} : dGt (.int i) (.int j) = some (.bl (decide (j < i))) := (rfl)
theorem ge_ii {i j : Int} : dGe (.int i) (.int j) = some (.bl (decide (j ≤ i))) := (rfl)
theorem eqv_int (a b : Int) : (D.int a).eqv (D.int b) = decide (a = b) := by
  simp [D.eqv, D.py, PyData.eqv]
  rcases Decidable.em (a = b) with h | h <;> simp [h]
theorem eq_ii {i j : Int} : dEq (.int i) (.int j) = some (.bl (decide (i = j))) := by unfold dEq; rw [if_pos ⟨rfl, rfl⟩, eqv_int]
theorem ne_ii {i j : Int} : dNe (.int i) (.int j) = some (.bl (decide (i ≠ j))) := by unfold dNe; rw [if_pos ⟨rfl, rfl⟩, eqv_int, decide_not]
theorem abs_i {i : Int} : fAbs [.int i] = some (.int (i.natAbs : Int)) := by
  show some (D.int (if i < 0 then -i else i)) = _
  congr 2
  split <;> omega
theorem int_i {i : Int} : fInt [.int i] = some (.int i) := (rfl)
theorem int_b {b : Bool} : fInt [.bl b] = some (.int (if b then 1 else 0)) := (rfl)
theorem len_t {ds : List D} : fLen [.tup ds] = some (.int ds.length) := (rfl)
theorem len_l {ds : List D} : fLen [.lst ds] = some (.int ds.length) := (rfl)
theorem len_f {ds : List D} : fLen [.fzl ds] = some (.int ds.length) := (rfl)
theorem max_ii {i j : Int} : fMax2 [.int i, .int j] = some (.int (max i j)) := by
  show some (D.int (if j > i then j else i)) = _
  congr 2
  omega
theorem min_ii {i j : Int} : fMin2 [.int i, .int j] = some (.int (min i j)) := by
  show some (D.int (if j < i then j else i)) = _
  congr 2
  omega
theorem not_b {b : Bool} : dNot (.bl b) = some (.bl (!b)) := (rfl)
theorem neg_i {i : Int} : dNeg (.int i) = some (.int (-i)) := (rfl)
theorem ix_t0 {a : D} {ds : List D} : dIx (.tup (a :: ds)) (.int 0) = some a := L2.atI_nat (j := 0) rfl
theorem ix_t1 {a b : D} {ds : List D} : dIx (.tup (a :: b :: ds)) (.int 1) = some b := by
  show L2.atI (a :: b :: ds) ((1 : Nat) : Int) = some b
  exact L2.atI_nat rfl
theorem ix_l0 {a : D} {ds : List D} : dIx (.lst (a :: ds)) (.int 0) = some a := L2.atI_nat (j := 0) rfl
theorem ix_lN {ds : List D} {n : Nat} {d : D} (h : ds[n]? = some d) : dIx (.lst ds) (.int n) = some d := L2.atI_nat h
theorem ix_tN {ds : List D} {n : Nat} {d : D} (h : ds[n]? = some d) : dIx (.tup ds) (.int n) = some d := L2.atI_nat h
theorem ix_fN {ds : List D} {n : Nat} {d : D} (h : ds[n]? = some d) : dIx (.fzl ds) (.int n) = some d := L2.atI_nat h
theorem setix_lN {ds : List D} {n : Nat} {d : D} (h : n < ds.length) : dSetIx (.lst ds) (.int n) d = some (.lst (ds.set n d)) := by
  have : ixN ds.length n = some n := by
    unfold ixN
    rw [if_pos (by omega)]
    simp; omega
  show (ixN ds.length (n : Int)).map _ = _
  rw [this]; rfl
end
theorem whileN_step {t : List D → ER Bool} {G : List D → SO} {σ σ1 σ2 : List D} {k : Nat} {r : SO} (h1 : t σ = .ok true σ1) (h2 : G σ1 = .nxt σ2) (h3 : whileN t G k σ2 = r) : whileN t G (k + 1) σ = r := by
  rw [whileN, h1]
  dsimp only
  rw [if_pos rfl, h2]
  exact h3
theorem whileN_end {t : List D → ER Bool} {G : List D → SO} {σ σ1 : List D} {k : Nat} (h1 : t σ = .ok false σ1) : whileN t G (k + 1) σ = .nxt σ1 := by
  rw [whileN, h1]
  rfl
theorem sWhile_of {t : List D → ER Bool} {G : List D → SO} {σ σ1 : List D} {k : Nat} (h : whileN t G k σ = .nxt σ1) : sWhile t G σ = .nxt σ1 := by
  rw [sWhile_eq (k := k) (by rw [h]; exact fun z => nomatch z), h]
/-- a for by an invariant: all turns go through -/
theorem forL_inv {T : Tg} {G : List D → SO} : ∀ (ds : List D) (I : Nat → List D → Prop) (σ : List D), I 0 σ →
    (∀ (i : Nat) d σ, ds[i]? = some d → I i σ → ∃ σ1 σ2, bindT T d σ = some σ1 ∧ (G σ1 = .nxt σ2 ∨ G σ1 = .cnt σ2) ∧ I (i + 1) σ2) → ∃ σ', forL T G ds σ = .nxt σ' ∧ I ds.length σ'
  | [], I, σ, h0, _ => ⟨σ, rfl, h0⟩
  | d :: ds, I, σ, h0, hs => by
    obtain ⟨σ1, σ2, e1, e2, h1⟩ := hs 0 d σ rfl h0
    obtain ⟨σ', e3, h3⟩ := forL_inv ds (fun i => I (i + 1)) σ2 h1 fun i d σ hd hI => hs (i + 1) d σ (by simpa using hd) hI
    refine ⟨σ', ?_, h3⟩
    rw [forL, e1]
    dsimp only
    rcases e2 with e2 | e2 <;> rw [e2] <;> exact e3
theorem rngD_len {lo : Int} {n : Nat} : (rngD lo n).length = n := by simp [rngD]
theorem rngD_at {lo : Int} {n i : Nat} {d : D} (h : (rngD lo n)[i]? = some d) : i < n ∧ d = .int (lo + i) := by
  have hl := (List.getElem?_eq_some_iff.mp h).1
  rw [rngD_len] at hl
  refine ⟨hl, ?_⟩
  unfold rngD at h
  rw [List.getElem?_map, List.getElem?_range hl] at h
  cases h
  rfl
theorem rngL1 {j : Int} (h : j < 2 ^ 62) (h0 : -(2 ^ 62) ≤ j) : gRng [.int j] = some (rngD 0 j.toNat) := if_pos ⟨h0, h⟩
theorem mulOk_l {i j : Int} (h : -(2 ^ 64) < i) (h2 : i < 2 ^ 64) : mulOk i j = true := by
  unfold mulOk
  rw [decide_eq_true (⟨h, h2⟩ : -(2 ^ 64) < i ∧ i < 2 ^ 64)]
  rfl
theorem mulOk_r {i j : Int} (h : -(2 ^ 64) < j) (h2 : j < 2 ^ 64) : mulOk i j = true := by
  unfold mulOk
  rw [decide_eq_true (⟨h, h2⟩ : -(2 ^ 64) < j ∧ j < 2 ^ 64), Bool.or_true]
  rfl
end Ow


namespace Ow
open PySem PySem.Spec PySem.SeqAt PyProof.Rows L2
/-- a fraction, as the program has it -/
def enc (r : Rat) : D := .tup [.int r.num, .int r.den]
theorem gcd_pos {a b : Int} (hb : b ≠ 0) : 0 < Int.gcd a b := Nat.pos_of_ne_zero fun h => hb (Int.gcd_eq_zero_iff.mp h).2
theorem divOk_lt {g : Int} (h0 : g ≠ 0) (h : g.natAbs < 2 ^ 9000) : divOk g = true := by
  unfold divOk
  rw [Bool.and_eq_true]
  refine ⟨decide_eq_true h0, decide_eq_true ?_⟩
  exact (Nat.log2_lt (by omega)).mpr h
theorem gcd_le {a b : Int} (hb : b ≠ 0) : ((Int.gcd a b : Nat) : Int).natAbs ≤ b.natAbs := by
  have : Int.gcd a b ≤ b.natAbs := Nat.gcd_le_right _ (by omega)
  omega
theorem num_den (a b : Int) (hb : 0 < b) : (Rat.divInt a b).num = a / (Int.gcd a b : Nat) ∧ ((Rat.divInt a b).den : Int) = b / (Int.gcd a b : Nat) := by
  obtain ⟨n, rfl⟩ : ∃ n : Nat, b = n := ⟨b.toNat, by omega⟩
  have hn : n ≠ 0 := by omega
  have e : Rat.divInt a n = mkRat a n := rfl
  rw [e, mkRat, dif_neg hn, Rat.normalize_eq]
  constructor
  · rfl
  · show ((n / a.natAbs.gcd n : Nat) : Int) = _
    rw [Int.natCast_ediv]
    rfl
/-- bits above and below -/
def sz (n : Nat) (r : Rat) : Prop := r.num.natAbs < 2 ^ n ∧ r.den < 2 ^ n
theorem sz.mono {n m : Nat} {r : Rat} (h : sz n r) (hm : n ≤ m) : sz m r := ⟨Nat.lt_of_lt_of_le h.1 (Nat.pow_le_pow_right (by omega) hm), Nat.lt_of_lt_of_le h.2 (Nat.pow_le_pow_right (by omega) hm)⟩
theorem pow_mul_lt {a b n m : Nat} (ha : a < 2 ^ n) (hb : b < 2 ^ m) : a * b < 2 ^ (n + m) := by
  rw [Nat.pow_add]
  exact Nat.mul_lt_mul'' ha hb
theorem den_le' (a b : Int) (hb : 0 < b) : (Rat.divInt a b).den ≤ b.natAbs ∧ (Rat.divInt a b).num.natAbs ≤ a.natAbs := by
  obtain ⟨h1, h2⟩ := num_den a b hb
  have hg : 0 < Int.gcd a b := gcd_pos (by omega)
  constructor
  · have : b / ((Int.gcd a b : Nat) : Int) ≤ b := Int.ediv_le_self _ (by omega)
    omega
  · rw [h1, Int.natAbs_ediv_of_dvd (Int.gcd_dvd_left ..)]
    exact Nat.div_le_self _ _
theorem sz_divInt {a b : Int} {n : Nat} (hb : 0 < b) (h1 : a.natAbs < 2 ^ n) (h2 : b.natAbs < 2 ^ n) : sz n (Rat.divInt a b) := by
  obtain ⟨q1, q2⟩ := den_le' a b hb
  exact ⟨Nat.lt_of_le_of_lt q2 h1, Nat.lt_of_le_of_lt q1 h2⟩
theorem den_pos' (r : Rat) : (0 : Int) < r.den := by have := r.den_pos; omega
theorem den_ne (r : Rat) : (r.den : Int) ≠ 0 := by have := r.den_pos; omega
theorem sub_eq (r q : Rat) : Rat.divInt (r.num * q.den - q.num * r.den) (r.den * q.den) = r - q := by
  rw [← Rat.divInt_sub_divInt _ _ (den_ne r) (den_ne q), Rat.num_divInt_den, Rat.num_divInt_den]
theorem cross_lt {r q : Rat} {a b : Nat} (hr : sz a r) (hq : sz b q) : (r.num * q.den).natAbs < 2 ^ (a + b) ∧ (r.num * q.num).natAbs < 2 ^ (a + b) ∧ ((r.den : Int) * q.den).natAbs < 2 ^ (a + b) ∧ ((r.den : Int) * q.num).natAbs < 2 ^ (a + b) := by
  refine ⟨?_, ?_, ?_, ?_⟩ <;> rw [Int.natAbs_mul]
  · exact pow_mul_lt hr.1 (by rw [Int.natAbs_natCast]; exact hq.2)
  · exact pow_mul_lt hr.1 hq.1
  · exact pow_mul_lt (by rw [Int.natAbs_natCast]; exact hr.2) (by rw [Int.natAbs_natCast]; exact hq.2)
  · exact pow_mul_lt (by rw [Int.natAbs_natCast]; exact hr.2) hq.1
theorem natAbs_sub_lt {x y : Int} {n : Nat} (hx : x.natAbs < 2 ^ n) (hy : y.natAbs < 2 ^ n) : (x - y).natAbs < 2 ^ (n + 1) := by
  have := Int.natAbs_sub_le x y
  rw [Nat.pow_succ]; omega
theorem sz_sub {r q : Rat} {a b : Nat} (hr : sz a r) (hq : sz b q) : sz (a + b + 1) (r - q) := by
  rw [← sub_eq]
  obtain ⟨h1, h2, h3, h4⟩ := cross_lt hr hq
  obtain ⟨g1, g2, g3, g4⟩ := cross_lt hq hr
  refine sz_divInt (Int.mul_pos (den_pos' r) (den_pos' q)) (natAbs_sub_lt h1 (by rw [Nat.add_comm a b]; exact g1)) (Nat.lt_of_lt_of_le h3 (Nat.pow_le_pow_right (by omega) (by omega)))
theorem eqv_enc (r q : Rat) : (enc r).eqv (enc q) = decide (r = q) := by
  have : r = q ↔ r.num = q.num ∧ (r.den : Int) = q.den := ⟨fun h => by rw [h]; exact ⟨rfl, rfl⟩, fun h => Rat.ext h.1 (by omega)⟩
  simp [enc, D.eqv, D.py, D.pys, PyData.eqv, PyData.eqvAll, this]
  rfl
theorem dat_enc (r : Rat) : (enc r).dat 64 = true := by simp [enc, D.dat]
theorem neE (r q : Rat) : dNe (enc r) (enc q) = some (.bl (decide (r ≠ q))) := by
  unfold dNe
  rw [if_pos ⟨dat_enc r, dat_enc q⟩, eqv_enc, decide_not]
theorem fl2E (r : Rat) (σ : List D) : flat2 (.ok (enc r) σ) = .ok (enc r) σ := (rfl)
theorem encI (i : Int) : D.tup [.int i, .int 1] = enc (i : Rat) := by
  unfold enc
  rw [Rat.num_intCast, Rat.den_intCast]; rfl
theorem isII (i : Int) : fIs .int (.int i) = some (.bl true) := (rfl)
theorem isIB (i : Int) : fIs .bool (.int i) = some (.bl false) := (rfl)
theorem mod_ii {i j : Int} (h : 0 < j) : dMod (.int i) (.int j) = some (.int (i % j)) := by
  unfold dMod
  dsimp only
  rw [if_pos (by omega), Int.fmod_eq_emod_of_nonneg _ (by omega)]
theorem div_ii {i j : Int} (h : 0 < j) (h2 : j.natAbs < 2 ^ 9000) : dDiv (.int i) (.int j) = some (.int (i / j)) := by
  unfold dDiv
  dsimp only
  rw [if_pos (divOk_lt (by omega) h2), Int.fdiv_eq_ediv_of_nonneg _ (by omega)]
theorem emod_lt' (a : Int) {b : Int} (h : 0 < b) : 0 ≤ a % b ∧ a % b < b := ⟨Int.emod_nonneg _ (by omega), Int.emod_lt_of_pos _ h⟩
theorem lt64_9000 {n : Nat} (h : n < 2 ^ 64) : n < 2 ^ 9000 := Nat.lt_of_lt_of_le h (Nat.pow_le_pow_right (by omega) (by omega))
theorem gcd_swap (a b : Nat) : Nat.gcd b (a % b) = Nat.gcd a b := by rw [Nat.gcd_comm a b, Nat.gcd_rec b a, Nat.gcd_comm (a % b) b]
theorem pow_18 : (10 : Int) ^ (18 : Int).toNat = 1000000000000000000 := by decide +kernel
theorem dPow_18 : dPow (.int 10) (.int 18) = some (.int 1000000000000000000) := by
  have h : powOk 10 18 = true := by decide +kernel
  unfold dPow
  dsimp only
  rw [if_pos h, pow_18]
theorem pow_3 {i : Int} (h : i.natAbs < 2 ^ 64) : dPow (.int i) (.int 3) = some (.int (i ^ 3)) := by
  have h : powOk i 3 = true := by
    unfold powOk
    simp
    omega
  unfold dPow
  dsimp only
  rw [if_pos h]
  rfl
/-- a bag: what is left of the cell, the seed, the steps (at most k) -/
def Bag (k : Int) (d : D) : Prop := ∃ B S T : Int, d = .lst [.int B, .int S, .int T] ∧ 0 ≤ B ∧ 0 ≤ S ∧ S < 2 ^ 32 ∧ 0 ≤ T ∧ T ≤ k
theorem Bag.mono {j k : Int} {d : D} (h : Bag j d) (hk : j ≤ k) : Bag k d := by
  obtain ⟨B, S, T, e, h1, h2, h3, h4, h5⟩ := h
  exact ⟨B, S, T, e, h1, h2, h3, h4, by omega⟩
abbrev primesD : List D := [.int 2147483647, .int 2147483629, .int 2147483587, .int 2147483579, .int 2147483563, .int 2147483549, .int 2147483543, .int 2147483497]
theorem prime_at (j : Int) (h0 : 0 ≤ j) (h8 : j < 8) : ∃ p : Int, dIx (.tup primesD) (.int j) = some (.int p) ∧ 0 < p ∧ p < 2 ^ 31 := by
  obtain ⟨k, rfl⟩ : ∃ k : Nat, j = k := ⟨j.toNat, by omega⟩
  have : k < 8 := by omega
  match k, this with
  | 0, _ => exact ⟨_, ix_tN rfl, by decide, by decide⟩
  | 1, _ => exact ⟨_, ix_tN rfl, by decide, by decide⟩
  | 2, _ => exact ⟨_, ix_tN rfl, by decide, by decide⟩
  | 3, _ => exact ⟨_, ix_tN rfl, by decide, by decide⟩
  | 4, _ => exact ⟨_, ix_tN rfl, by decide, by decide⟩
  | 5, _ => exact ⟨_, ix_tN rfl, by decide, by decide⟩
  | 6, _ => exact ⟨_, ix_tN rfl, by decide, by decide⟩
  | 7, _ => exact ⟨_, ix_tN rfl, by decide, by decide⟩
theorem ix3_0 {x y z : D} : dIx (.lst [x, y, z]) (.int 0) = some x := ix_l0
theorem ix3_1 {x y z : D} : dIx (.lst [x, y, z]) (.int 1) = some y := ix_lN (n := 1) rfl
theorem ix3_2 {x y z : D} : dIx (.lst [x, y, z]) (.int 2) = some z := ix_lN (n := 2) rfl
theorem six3_0 {x y z w : D} : dSetIx (.lst [x, y, z]) (.int 0) w = some (.lst [w, y, z]) := setix_lN (n := 0) (by simp)
theorem six3_2 {x y z w : D} : dSetIx (.lst [x, y, z]) (.int 2) w = some (.lst [x, y, w]) := setix_lN (n := 2) (by simp)
/-- what the bag begins with -/
theorem bag_fin (cell : Int) (at_ : Int) (b : Bool) (h0 : 0 ≤ at_) (hat : at_ ≤ 100) : Bag 0 (.lst [.int ((cell.natAbs : Int) * (if b = true then 1 else 0)), .int (cell % 2147483587 + 40009 * at_), .int 0]) := by
  have h1 : 0 ≤ cell % 2147483587 := Int.emod_nonneg _ (by omega)
  have h2 : cell % 2147483587 < 2147483587 := Int.emod_lt_of_pos _ (by omega)
  have h4 : (0 : Int) ≤ (if b = true then 1 else 0) := by cases b <;> simp
  exact ⟨_, _, _, rfl, Int.mul_nonneg (by omega) h4, by omega, by omega, by omega, by omega⟩
theorem cells_rng (k : Int) (ns : List Int) (hn : ns.length ≤ 63) (hk : 0 ≤ k) (hk2 : k ≤ 100) : ∃ q : Nat, q ≤ 100 ∧ gRng [.int (max 1 (min k (List.map D.int ns).length))] = some (rngD 0 q) := by
  rw [List.length_map]
  exact ⟨(max 1 (min k ns.length)).toNat, by omega, rngL1 (by omega) (by omega)⟩
end Ow


namespace Ow
open PySem PySem.Spec PySem.SeqAt PyProof.Rows L2
section
variable {σ : List D} {T : Tg} {vr : List Nat} {gt : List D → ER Bool} {ge : List D → ER D}
theorem a_tyes : tYesD σ = .ok true σ := (rfl)
def lcF (vr : List Nat) (σ1 : List D) (r : ER (List D)) : ER D := match r with
  | .ok acc σ2 => .ok (.lst acc) (restV vr σ1 σ2)
  | _ => .stuck
def lc2 (T : Tg) (vr : List Nat) (gt : List D → ER Bool) (ge : List D → ER D) (r : ER (List D)) : ER D := match r with
  | .ok ds σ1 => if ds.length ≤ sizeLine ∧ vr.all (fun i => (σ1.getD i .non).flat) = true then lcF vr σ1 (lcL T gt ge ds [] σ1) else .stuck
  | .stuck => .stuck
  | .exc c p σ1 => .exc c p σ1
theorem a_lc {gi : List D → ER (List D)} : eLc T vr gi gt ge σ = lc2 T vr gt ge (gi σ) := by
  unfold eLc lc2 lcF
  cases gi σ <;> rfl
theorem lc2_o {ds : List D} (h : ds.length ≤ sizeLine) (h2 : vr.all (fun i => (σ.getD i .non).flat) = true) : lc2 T vr gt ge (.ok ds σ) = lcF vr σ (lcL T gt ge ds [] σ) := if_pos ⟨h, h2⟩
theorem lc2_0 {ds : List D} (h : ds.length ≤ sizeLine) : lc2 T [] gt ge (.ok ds σ) = lcF [] σ (lcL T gt ge ds [] σ) := lc2_o h rfl
theorem lcF_0 {acc σ2 : List D} : lcF [] σ (.ok acc σ2) = .ok (.lst acc) σ2 := (rfl)
theorem lc_small {ds : List D} (h : ds.length ≤ 10000) : ds.length ≤ sizeLine := by rw [sizeLine_eq]; omega
def gf2 (f : List D → Option (List D)) (r : ER (List D)) : ER (List D) := match r with
  | .ok ds σ1 => ofO (f ds) σ1
  | .stuck => .stuck
  | .exc c p σ1 => .exc c p σ1
theorem a_gfun {f : List D → Option (List D)} {gs : List D → ER (List D)} : gFun f gs σ = gf2 f (gs σ) := by
  unfold gFun gf2
  cases gs σ <;> rfl
theorem gf2_o {f : List D → Option (List D)} {ds : List D} : gf2 f (.ok ds σ) = ofO (f ds) σ := (rfl)
theorem zip_ll {a b : List D} : fZip [.lst a, .lst b] = some (zipD a b) := (rfl)
theorem zip_tt {a b : List D} : fZip [.tup a, .tup b] = some (zipD a b) := (rfl)
theorem enum_l {a : List D} : fEnum [.lst a] = some (enumD a) := (rfl)
theorem rev_l {a : List D} : fRev [.lst a] = some a.reverse := (rfl)
theorem all_bls {α : Type} (p : α → Bool) (l : List α) : fAll [.lst (l.map fun d => .bl (p d))] = some (.bl (l.all p)) := by
  have h : (l.map fun d => D.bl (p d)).all isBl = true := by rw [List.all_map]; exact List.all_eq_true.mpr fun _ _ => rfl
  show (if _ then _ else _) = _
  rw [if_pos h, List.all_map]
  rfl
theorem all_true (l : List D) : fAll [.lst (l.map fun _ => .bl true)] = some (.bl true) := by
  rw [all_bls (fun _ => true) l]
  congr 2
  exact List.all_eq_true.mpr fun _ _ => rfl
theorem listOf_l {ds : List D} : fListOf [.lst ds] = some (.lst ds) := (rfl)
theorem listOf_t {ds : List D} : fListOf [.tup ds] = some (.lst ds) := (rfl)
theorem tupOf_l {ds : List D} : fTupOf [.lst ds] = some (.tup ds) := (rfl)
theorem tupOf_t {ds : List D} : fTupOf [.tup ds] = some (.tup ds) := (rfl)
theorem append_l {ds : List D} {x : D} (h : ds.length < sizeLine) : mAppend (.lst ds) [x] = some (.lst (ds ++ [x]), .non) := if_pos h
theorem clear_l {ds : List D} : mClear (.lst ds) [] = some (.lst [], .non) := (rfl)
theorem bl_eq {a b : Bool} : dEq (.bl a) (.bl b) = some (.bl (a == b)) := by cases a <;> cases b <;> rfl
theorem bl_ne {a b : Bool} : dNe (.bl a) (.bl b) = some (.bl (a != b)) := by cases a <;> cases b <;> rfl
theorem dEq_of {x y : D} (hx : x.dat 64 = true) (hy : y.dat 64 = true) : dEq x y = some (.bl (x.eqv y)) := if_pos ⟨hx, hy⟩
theorem dNe_of {x y : D} (hx : x.dat 64 = true) (hy : y.dat 64 = true) : dNe x y = some (.bl (!x.eqv y)) := if_pos ⟨hx, hy⟩
-- slices
def sl4 (f : D → Option Int → Option Int → Option D) (d : D) (lo : Option Int) (r : ER (Option Int)) : ER D := match r with
  | .ok hi σ1 => ofO (f d lo hi) σ1
  | .stuck => .stuck
  | .exc c p σ1 => .exc c p σ1
def sl3 (f : D → Option Int → Option Int → Option D) (d : D) (gh : List D → ER (Option Int)) (r : ER (Option Int)) : ER D := match r with
  | .ok lo σ1 => sl4 f d lo (gh σ1)
  | .stuck => .stuck
  | .exc c p σ1 => .exc c p σ1
def sl2 (f : D → Option Int → Option Int → Option D) (go gh : List D → ER (Option Int)) (r : ER D) : ER D := match r with
  | .ok d σ1 => sl3 f d gh (go σ1)
  | .stuck => .stuck
  | .exc c p σ1 => .exc c p σ1
theorem a_sl {f : D → Option Int → Option Int → Option D} {g : List D → ER D} {go gh : List D → ER (Option Int)} : eSl f g go gh σ = sl2 f go gh (g σ) := by
  unfold eSl sl2
  cases g σ with
  | ok d σ1 =>
    show (go σ1).bind _ = sl3 f d gh (go σ1)
    unfold sl3
    cases go σ1 with
    | ok lo σ2 =>
      show (gh σ2).bind _ = sl4 f d lo (gh σ2)
      unfold sl4
      cases gh σ2 <;> rfl
    | _ => rfl
  | _ => rfl
theorem sl2_o {f : D → Option Int → Option Int → Option D} {go gh : List D → ER (Option Int)} {d : D} : sl2 f go gh (.ok d σ) = sl3 f d gh (go σ) := (rfl)
theorem sl3_o {f : D → Option Int → Option Int → Option D} {gh : List D → ER (Option Int)} {d : D} {lo : Option Int} : sl3 f d gh (.ok lo σ) = sl4 f d lo (gh σ) := (rfl)
theorem sl4_o {f : D → Option Int → Option Int → Option D} {d : D} {lo hi : Option Int} : sl4 f d lo (.ok hi σ) = ofO (f d lo hi) σ := (rfl)
def os2 (r : ER D) : ER (Option Int) := match r with
  | .ok (.int i) σ1 => .ok (some i) σ1
  | .ok _ _ => .stuck
  | .stuck => .stuck
  | .exc c p σ1 => .exc c p σ1
theorem a_onone : oNone σ = .ok none σ := (rfl)
theorem a_osome {g : List D → ER D} : oSome g σ = os2 (g σ) := by
  unfold oSome os2
  cases g σ with
  | ok d σ1 => cases d <;> rfl
  | _ => rfl
theorem os2_o {i : Int} : os2 (.ok (.int i) σ) = .ok (some i) σ := (rfl)
theorem slL_l {xs : List D} {lo hi : Option Int} : dSlL (.lst xs) lo hi = some (.lst (cutD xs lo hi)) := (rfl)
theorem slT_t {xs : List D} {lo hi : Option Int} : dSlT (.tup xs) lo hi = some (.tup (cutD xs lo hi)) := (rfl)
theorem cut_to {xs : List D} {n : Nat} : cutD xs none (some n) = xs.take n := by
  have h : ¬ ((n : Int) < 0) := by omega
  unfold cutD HT.sIx
  simp [h]
theorem cut_from {xs : List D} {n : Nat} : cutD xs (some n) none = xs.drop n := by
  have h : ¬ ((n : Int) < 0) := by omega
  unfold cutD HT.sIx
  simp [h]
  by_cases z : n ≤ xs.length
  · rw [Nat.min_eq_left z]; exact List.take_of_length_le (by simp)
  · rw [Nat.min_eq_right (by omega)]
    simp
    omega
theorem rep_1 {x : D} {k : Int} (hx : x.flat = true) (h0 : 0 ≤ k) (h : k ≤ 10000) : dRep (.lst [x]) (.int k) = some (.lst (List.replicate k.toNat x)) := by
  have hz : 1 * k.toNat ≤ sizeLine := by rw [sizeLine_eq]; omega
  have e : (List.replicate k.toNat [x]).flatten = List.replicate k.toNat x := by
    induction k.toNat with
    | zero => rfl
    | succ n ih => rw [List.replicate_succ, List.flatten_cons, ih]; rfl
  show (if _ then _ else _) = _
  rw [if_pos ⟨by simp [D.flats, hx], by omega, by omega, hz⟩, e]
end
/-- data without dicts, of bounded depth and breadth -/
def plain : Nat → D → Prop
  | _, .non => True
  | _, .bl _ => True
  | _, .int _ => True
  | _, .str x => PyData.strOk x = true
  | n + 1, .tup ds => ds.length ≤ 10000 ∧ ∀ d ∈ ds, plain n d
  | n + 1, .lst ds => ds.length ≤ 10000 ∧ ∀ d ∈ ds, plain n d
  | _, _ => False
theorem plain.dat : ∀ {n : Nat} {d : D}, plain n d → ∀ m, n ≤ m → d.dat m = true
  | _, .non, _, m, _ => by cases m <;> rfl
  | _, .bl _, _, m, _ => by cases m <;> rfl
  | _, .int _, _, m, _ => by cases m <;> rfl
  | n, .str x, h, m, _ => by
    have h : PyData.strOk x = true := by cases n <;> exact h
    cases m <;> exact h
  | 0, .tup ds, h, m, hm => h.elim
  | 0, .lst ds, h, m, hm => h.elim
  | n + 1, .tup ds, h, m, hm => by
    obtain ⟨m, rfl⟩ : ∃ k, m = k + 1 := ⟨m - 1, by omega⟩
    exact List.all_eq_true.mpr fun d hd => plain.dat (h.2 d hd) m (by omega)
  | n + 1, .lst ds, h, m, hm => by
    obtain ⟨m, rfl⟩ : ∃ k, m = k + 1 := ⟨m - 1, by omega⟩
    exact List.all_eq_true.mpr fun d hd => plain.dat (h.2 d hd) m (by omega)
  | n, .dK _, h, _, _ => by cases n <;> exact False.elim h
  | n, .dT _, h, _, _ => by cases n <;> exact False.elim h
  | n, .ins _ _, h, _, _ => by cases n <;> exact False.elim h
  | n, .fzl _, h, _, _ => by cases n <;> exact False.elim h
  | n, .exn _ _, h, _, _ => by cases n <;> exact False.elim h
theorem plain.int {n : Nat} (i : Int) : plain n (.int i) := by cases n <;> trivial
theorem plain.enc (r : Rat) (n : Nat) : plain (n + 1) (enc r) := ⟨by simp, fun d hd => by
  simp only [List.mem_cons, List.not_mem_nil, or_false] at hd
  rcases hd with rfl | rfl <;> exact plain.int _⟩
theorem plain.mono : ∀ {n : Nat} {d : D}, plain n d → ∀ m, n ≤ m → plain m d
  | _, .non, _, m, _ => by cases m <;> trivial
  | _, .bl _, _, m, _ => by cases m <;> trivial
  | _, .int _, _, m, _ => by cases m <;> trivial
  | n, .str x, h, m, _ => by
    have h : PyData.strOk x = true := by cases n <;> exact h
    cases m <;> exact h
  | 0, .tup ds, h, m, hm => h.elim
  | 0, .lst ds, h, m, hm => h.elim
  | n + 1, .tup ds, h, m, hm => by
    obtain ⟨m, rfl⟩ : ∃ k, m = k + 1 := ⟨m - 1, by omega⟩
    exact ⟨h.1, fun d hd => plain.mono (h.2 d hd) m (by omega)⟩
  | n + 1, .lst ds, h, m, hm => by
    obtain ⟨m, rfl⟩ : ∃ k, m = k + 1 := ⟨m - 1, by omega⟩
    exact ⟨h.1, fun d hd => plain.mono (h.2 d hd) m (by omega)⟩
  | n, .dK _, h, _, _ => by cases n <;> exact False.elim h
  | n, .dT _, h, _, _ => by cases n <;> exact False.elim h
  | n, .ins _ _, h, _, _ => by cases n <;> exact False.elim h
  | n, .fzl _, h, _, _ => by cases n <;> exact False.elim h
  | n, .exn _ _, h, _, _ => by cases n <;> exact False.elim h
end Ow


namespace Ow
open PySem PySem.Spec PySem.SeqAt PyProof.Rows L2
section
variable {σ : List D} {T : Tg} {ge : List D → ER D} {α : Type}
theorem lcL_mapG (g h : α → D) (S : List D → Prop) (l : List α) (σ : List D) (h0 : S σ) (hs : ∀ a ∈ l, ∀ σ, S σ → ∃ σ1 σ2, bindT T (g a) σ = some σ1 ∧ ge σ1 = .ok (h a) σ2 ∧ S σ2) : ∃ σ', lcL T tYesD ge (l.map g) [] σ = .ok (l.map h) σ' ∧ S σ' := by
  have key : ∀ (l : List α) (acc σ : List D), S σ → (∀ a ∈ l, ∀ σ, S σ → ∃ σ1 σ2, bindT T (g a) σ = some σ1 ∧ ge σ1 = .ok (h a) σ2 ∧ S σ2) → ∃ σ', lcL T tYesD ge (l.map g) acc σ = .ok (acc ++ l.map h) σ' ∧ S σ' := by
    intro l
    induction l with
    | nil => intro acc σ h _; exact ⟨σ, by rw [List.map_nil, List.map_nil, List.append_nil]; rfl, h⟩
    | cons d ds ih =>
      intro acc σ hσ hs
      obtain ⟨σ1, σ2, e1, e2, h2⟩ := hs d List.mem_cons_self σ hσ
      obtain ⟨σ', e, h'⟩ := ih (acc ++ [h d]) σ2 h2 fun x hx => hs x (List.mem_cons_of_mem _ hx)
      refine ⟨σ', ?_, h'⟩
      rw [List.map_cons, lcL, e1]
      dsimp only
      rw [a_tyes]
      dsimp only
      rw [if_pos rfl, e2]
      dsimp only
      rw [e, List.map_cons, List.append_assoc]
      rfl
  obtain ⟨σ', e, h⟩ := key l [] σ h0 hs
  exact ⟨σ', e, h⟩
def encS (xs : List Rat) : D := .lst (xs.map enc)
def szS (n : Nat) (xs : List Rat) : Prop := ∀ x ∈ xs, sz n x
theorem szS.get {n : Nat} {xs : List Rat} (h : szS n xs) (hn : 0 < n) (i : Nat) : sz n (xs.getD i 0) := by
  rw [List.getD_eq_getElem?_getD]
  cases e : xs[i]? with
  | none => exact ⟨Nat.pow_pos (by omega), Nat.one_lt_two_pow (by omega)⟩
  | some x => exact h x (List.mem_of_getElem? e)
theorem plain.encS (xs : List Rat) (h : xs.length ≤ 10000) (n : Nat) : plain (n + 2) (encS xs) := ⟨by rw [List.length_map]; exact h, fun d hd => by
  obtain ⟨x, _, rfl⟩ := List.mem_map.mp hd
  exact plain.enc x n⟩
theorem plain.eqv {n : Nat} {d : D} (h : plain n d) (hn : n ≤ 64) : d.eqv d = true := PySem.SeqAt.eqv_refl _ (D.dat_lay 64 d (h.dat 64 hn)).1
/-- term n of a product, as it grows -/
def pT (xs ys : List Rat) (n : Nat) : Nat → Rat
  | 0 => 0
  | j + 1 => pT xs ys n j + xs.getD j 0 * ys.getD (n - j) 0
/-- a loop through a range -/
theorem forL_rng {T : Tg} {G : List D → SO} (n : Nat) (I : Nat → List D → Prop) (σ : List D) (h0 : I 0 σ) (hs : ∀ (i : Nat) σ, i < n → I i σ → ∃ σ1 σ2, bindT T (.int i) σ = some σ1 ∧ G σ1 = .nxt σ2 ∧ I (i + 1) σ2) : ∃ σ', forL T G (rngD 0 n) σ = .nxt σ' ∧ I n σ' := by
  obtain ⟨σ', e, h⟩ := forL_inv (rngD 0 n) I σ h0 fun i d σ hd hI => by
    obtain ⟨hi, rfl⟩ := rngD_at hd
    rw [Int.zero_add]
    obtain ⟨σ1, σ2, e1, e2, h2⟩ := hs i σ hi hI
    exact ⟨σ1, σ2, e1, .inl e2, h2⟩
  rw [rngD_len] at h
  exact ⟨σ', e, h⟩
theorem rngN (n : Nat) (h : n < 2 ^ 40) : gRng [.int (n : Int)] = some (rngD 0 n) := by
  rw [rngL1 (by omega) (by omega)]
  rfl
end
end Ow


namespace Ow
open PySem PySem.Spec PySem.SeqAt PyProof.Rows L2
def sumF (f : Nat → Rat) : Nat → Rat
  | 0 => 0
  | n + 1 => sumF f n + f n
theorem pT_sum (xs ys : List Rat) (n : Nat) : ∀ j, pT xs ys n j = sumF (fun i => xs.getD i 0 * ys.getD (n - i) 0) j
  | 0 => rfl
  | j + 1 => by
    show pT xs ys n j + _ = sumF _ j + _
    rw [pT_sum xs ys n j]
theorem cast_ne {k : Nat} (hk : k ≠ 0) : ((k : Int) : Rat) ≠ 0 := fun h => hk (by
  have : (k : Int) = 0 := Rat.intCast_inj.mp (by rw [h]; rfl)
  omega)
end Ow


namespace Ow
open PySem PySem.Spec PySem.SeqAt PyProof.Rows L2
/-- a whole number of at most M over d -/
def fb (d M : Nat) (r : Rat) : Prop := 0 < d ∧ ∃ z : Int, r * ((d : Int) : Rat) = (z : Rat) ∧ z.natAbs ≤ M
theorem cast_pos_ne {d : Nat} (h : 0 < d) : ((d : Int) : Rat) ≠ 0 := cast_ne (by omega)
theorem cast_mul (a b : Nat) : (((a * b : Nat) : Int) : Rat) = ((a : Int) : Rat) * ((b : Int) : Rat) := by rw [Int.natCast_mul, Rat.intCast_mul]
theorem fb.sz {d M n : Nat} {r : Rat} (h : fb d M r) (hd : d < 2 ^ n) (hM : M < 2 ^ n) : sz n r := by
  obtain ⟨h0, z, e, hz⟩ := h
  have : r = Rat.divInt z d := by
    rw [Rat.divInt_eq_div, ← e]
    have := cast_pos_ne h0
    grind
  rw [this]
  exact sz_divInt (by omega) (by omega) (by omega)
theorem fb.add {d M N : Nat} {r q : Rat} (h : fb d M r) (h2 : fb d N q) : fb d (M + N) (r + q) := by
  obtain ⟨h0, z, e, hz⟩ := h
  obtain ⟨_, w, e2, hw⟩ := h2
  refine ⟨h0, z + w, by rw [Rat.intCast_add, ← e, ← e2]; grind, ?_⟩
  have := Int.natAbs_add_le z w
  omega
theorem fb.mul {d e M N : Nat} {r q : Rat} (h : fb d M r) (h2 : fb e N q) : fb (d * e) (M * N) (r * q) := by
  obtain ⟨h0, z, e1, hz⟩ := h
  obtain ⟨h1, w, e2, hw⟩ := h2
  refine ⟨Nat.mul_pos h0 h1, z * w, by rw [Rat.intCast_mul, cast_mul, ← e1, ← e2]; grind, ?_⟩
  rw [Int.natAbs_mul]
  exact Nat.mul_le_mul hz hw
theorem fb.lift {d M : Nat} (e : Nat) {r : Rat} (h : fb d M r) (he : 0 < e) : fb (d * e) (M * e) r := by
  obtain ⟨h0, z, e1, hz⟩ := h
  refine ⟨Nat.mul_pos h0 he, z * e, by rw [Rat.intCast_mul, cast_mul, ← e1]; grind, ?_⟩
  rw [Int.natAbs_mul, Int.natAbs_natCast]
  exact Nat.mul_le_mul_right _ hz
theorem fb.mono {d M N : Nat} {r : Rat} (h : fb d M r) (hM : M ≤ N) : fb d N r := by
  obtain ⟨h0, z, e, hz⟩ := h
  exact ⟨h0, z, e, Nat.le_trans hz hM⟩
theorem fb.zero {d : Nat} (h : 0 < d) : fb d 0 0 := ⟨h, 0, by grind, by simp⟩
theorem fb.of_int (z : Int) {M : Nat} (h : z.natAbs ≤ M) : fb 1 M (z : Rat) := ⟨by omega, z, by rw [show (((1 : Nat) : Int) : Rat) = 1 from rfl]; grind, h⟩
theorem fb.divInt {a b d M : Nat} {z : Int} (hb : 0 < b) (hd : b * a = d) (hd0 : 0 < d) (h : z.natAbs * a ≤ M) : fb d M (Rat.divInt z b) := by
  refine ⟨hd0, z * a, ?_, by rw [Int.natAbs_mul, Int.natAbs_natCast]; exact h⟩
  rw [Rat.divInt_eq_div, ← hd, cast_mul, Rat.intCast_mul]
  have := cast_pos_ne hb
  grind
theorem fb.sum {d M : Nat} {f : Nat → Rat} (hd : 0 < d) : ∀ n, (∀ i, i < n → fb d M (f i)) → fb d (n * M) (sumF f n)
  | 0, _ => by rw [Nat.zero_mul]; exact fb.zero hd
  | n + 1, h => by
    rw [Nat.succ_mul]
    exact (fb.sum hd n fun i hi => h i (by omega)).add (h n (by omega))
def fbS (d M : Nat) (xs : List Rat) : Prop := ∀ x ∈ xs, fb d M x
theorem fbS.get {d M : Nat} {xs : List Rat} (h : fbS d M xs) (hd : 0 < d) (i : Nat) : fb d M (xs.getD i 0) := by
  rw [List.getD_eq_getElem?_getD]
  cases e : xs[i]? with
  | none => exact (fb.zero hd).mono (Nat.zero_le _)
  | some x => exact h x (List.mem_of_getElem? e)
theorem fbS.szS {d M n : Nat} {xs : List Rat} (h : fbS d M xs) (hd : d < 2 ^ n) (hM : M < 2 ^ n) : szS n xs := fun x hx => (h x hx).sz hd hM
def cf (xs : List Rat) (i : Nat) : Rat := xs.getD i 0
def cv (f g : Nat → Rat) (n : Nat) : Rat := sumF (fun i => f i * g (n - i)) (n + 1)
def pw (y : Nat → Rat) : Nat → Nat → Rat
  | 0, n => if n = 0 then 1 else 0
  | k + 1, n => cv (pw y k) y n
/-- a list of terms -/
def tl (f : Nat → Rat) (m : Nat) : List Rat := (List.range m).map f
theorem tl_get {f : Nat → Rat} {m i : Nat} (h : i < m) : (tl f m).getD i 0 = f i := by
  unfold tl
  rw [List.getD_eq_getElem?_getD, List.getElem?_map, List.getElem?_range h]
  rfl
end Ow


namespace Ow
open PySem PySem.Spec PySem.SeqAt PyProof.Rows L2
section
variable {σ : List D}
theorem a_dnew : eDNew σ = .ok (.dK []) σ := (rfl)
def setd4 (r : Nat) (σ1 : List D) (o : Option D) : SO := match o with
  | some c => .nxt (σ1.set r c)
  | none => .stuck
def setd3 (r : Nat) (v : D) (e0 : ER D) : SO := match e0 with
  | .stuck => .stuck
  | .ok i σ1 => setd4 r σ1 (dPutD (σ1.getD r .non) i v)
  | .exc c p σ1 => .exc c p σ1
def setd2 (r : Nat) (gi : List D → ER D) (e0 : ER D) : SO := match e0 with
  | .stuck => .stuck
  | .ok v σ1 => setd3 r v (gi σ1)
  | .exc c p σ1 => .exc c p σ1
theorem a_setd {r : Nat} {gv gi : List D → ER D} : sSetD r gv gi σ = setd2 r gi (gv σ) := by
  unfold sSetD sOf setd2
  cases gv σ with
  | ok v σ1 =>
    dsimp only
    unfold setd3
    cases gi σ1 with
    | ok i σ2 => dsimp only; unfold setd4; cases dPutD (σ2.getD r .non) i v <;> rfl
    | _ => rfl
  | _ => rfl
theorem setd2_o {r : Nat} {gi : List D → ER D} {v : D} : setd2 r gi (.ok v σ) = setd3 r v (gi σ) := (rfl)
theorem setd3_o {r : Nat} {i v : D} : setd3 r v (.ok i σ) = setd4 r σ (dPutD (σ.getD r .non) i v) := (rfl)
theorem setd4_s {r : Nat} {c : D} : setd4 r σ (some c) = .nxt (σ.set r c) := (rfl)
def unpl2 (is : List Nat) (e0 : ER D) : SO := match e0 with
  | .stuck => .stuck
  | .ok (.lst ds) σ1 => soO (setMany is ds σ1)
  | .ok _ _ => .stuck
  | .exc c p σ1 => .exc c p σ1
theorem a_unpl {is : List Nat} {g : List D → ER D} : sUnpL is g σ = unpl2 is (g σ) := by
  unfold sUnpL sOf unpl2
  cases g σ with
  | ok d σ1 => cases d <;> first | rfl | (dsimp only; unfold soO; cases setMany is _ σ1 <;> rfl)
  | _ => rfl
theorem unpl2_l {is : List Nat} {ds : List D} : unpl2 is (.ok (.lst ds) σ) = soO (setMany is ds σ) := (rfl)
theorem setMany_c {i : Nat} {is : List Nat} {d : D} {ds : List D} : setMany (i :: is) (d :: ds) σ = setMany is ds (σ.set i d) := (rfl)
theorem setMany_n : setMany [] [] σ = some σ := (rfl)
def chn4 (f' : D → D → Option D) (y : D) (gc : List D → ER D) (σ : List D) (o : Option D) : ER D := match o with
  | some (.bl true) => bin3 f' y (gc σ)
  | some (.bl false) => .ok (.bl false) σ
  | _ => .stuck
def chn3 (f f' : D → D → Option D) (x : D) (gc : List D → ER D) (e0 : ER D) : ER D := match e0 with
  | .stuck => .stuck
  | .ok y σ1 => chn4 f' y gc σ1 (f x y)
  | .exc c p σ1 => .exc c p σ1
def chn2 (f f' : D → D → Option D) (gb gc : List D → ER D) (e0 : ER D) : ER D := match e0 with
  | .stuck => .stuck
  | .ok x σ1 => chn3 f f' x gc (gb σ1)
  | .exc c p σ1 => .exc c p σ1
theorem a_chain {f f' : D → D → Option D} {ga gb gc : List D → ER D} : eChain f f' ga gb gc σ = chn2 f f' gb gc (ga σ) := by
  unfold eChain chn2 ER.bind
  cases ga σ with
  | ok x σ1 =>
    dsimp only
    unfold chn3
    cases gb σ1 with
    | ok y σ2 =>
      dsimp only
      unfold chn4
      generalize f x y = o
      cases o with
      | none => rfl
      | some d =>
        cases d with
        | bl b =>
          cases b with
          | true =>
            dsimp only
            unfold bin3
            cases gc σ2 <;> rfl
          | false => rfl
        | _ => rfl
    | _ => rfl
  | _ => rfl
theorem chn2_o {f f' : D → D → Option D} {x : D} {gb gc : List D → ER D} : chn2 f f' gb gc (.ok x σ) = chn3 f f' x gc (gb σ) := (rfl)
theorem chn3_o {f f' : D → D → Option D} {x y : D} {gc : List D → ER D} : chn3 f f' x gc (.ok y σ) = chn4 f' y gc σ (f x y) := (rfl)
theorem chn4_t {f' : D → D → Option D} {y : D} {gc : List D → ER D} : chn4 f' y gc σ (some (.bl true)) = bin3 f' y (gc σ) := (rfl)
theorem chn4_f {f' : D → D → Option D} {y : D} {gc : List D → ER D} : chn4 f' y gc σ (some (.bl false)) = .ok (.bl false) σ := (rfl)
end
theorem eqv_str (a b : Str) : (D.str a).eqv (.str b) = decide (a = b) := by
  simp [D.eqv, D.py, PyData.eqv]
  rfl
theorem eq_ss {a b : Str} (ha : PyData.strOk a = true) (hb : PyData.strOk b = true) : dEq (.str a) (.str b) = some (.bl (decide (a = b))) := by
  unfold dEq
  rw [if_pos ⟨ha, hb⟩, eqv_str]
theorem ne_ss {a b : Str} (ha : PyData.strOk a = true) (hb : PyData.strOk b = true) : dNe (.str a) (.str b) = some (.bl (!decide (a = b))) := by
  unfold dNe
  rw [if_pos ⟨ha, hb⟩, eqv_str]
inductive MRow where
  | source (s : Rat)
  | gear (s r : Rat) (k : Nat)
  | adder (s : Rat) (a b : Nat)
  | disc (s : Rat) (w k : Nat)
def MRow.name : MRow → Str
  | .source _ => "source"
  | .gear _ _ _ => "gear"
  | .adder _ _ _ => "adder"
  | .disc _ _ _ => "disc"
def encR : MRow → D
  | .source s => .tup [.str "source", enc s]
  | .gear s r k => .tup [.str "gear", enc s, enc r, .int k]
  | .adder s a b => .tup [.str "adder", enc s, .int a, .int b]
  | .disc s w k => .tup [.str "disc", enc s, .int w, .int k]
def MRow.drv : MRow → List Nat
  | .source _ => []
  | .gear _ _ k => [k]
  | .adder _ a b => [a, b]
  | .disc _ _ k => [k]
def MRow.nums : MRow → List Rat
  | .source s => [s]
  | .gear s r _ => [s, r]
  | .adder s _ _ => [s]
  | .disc s _ _ => [s]
def MRow.isSrc : MRow → Bool
  | .source _ => true
  | _ => false
def MRow.isDisc : MRow → Bool
  | .disc _ _ _ => true
  | _ => false
/-- the last shaft that a row names -/
def MRow.last : MRow → Nat
  | .source _ => 0
  | .gear _ _ k => k
  | .adder _ _ b => b
  | .disc _ _ k => k
instance : Inhabited MRow := ⟨.source 0⟩
theorem name_ok (r : MRow) : PyData.strOk r.name = true := by
  have h1 : PyData.strOk "source" = true := by decide +kernel
  have h2 : PyData.strOk "gear" = true := by decide +kernel
  have h3 : PyData.strOk "adder" = true := by decide +kernel
  have h4 : PyData.strOk "disc" = true := by decide +kernel
  cases r
  · exact h1
  · exact h2
  · exact h3
  · exact h4
/-- what a told machine is like -/
structure Mach (m : List MRow) : Prop where
  pos : 0 < m.length
  src : ∃ (s : Nat) (t : Rat), m[s]? = some (MRow.source t) ∧ ∀ (i : Nat) (r : MRow), m[i]? = some r → r.isSrc = true → i = s
  rk : ∃ rk : Nat → Nat, ∀ (i : Nat) (r : MRow), m[i]? = some r → ∀ d ∈ r.drv, d < m.length ∧ rk d < rk i
  whl : ∀ (i : Nat) (s : Rat) (w k : Nat), m[i]? = some (MRow.disc s w k) → w < m.length
theorem Mach.at {m : List MRow} (h : Mach m) {i : Nat} (hi : i < m.length) : m[i]? = some (m.getD i default) := by
  rw [List.getD_eq_getElem?_getD, List.getElem?_eq_getElem hi]; rfl
def drvs (m : List MRow) (i : Nat) : List Nat := (m.getD i default).drv
def rdy (m : List MRow) (st : List Nat) : List Nat := (List.range m.length).filter fun i => !decide (i ∈ st) && (drvs m i).all fun d => decide (d ∈ st)
def ordN (m : List MRow) : Nat → List Nat
  | 0 => []
  | k + 1 => ordN m k ++ (rdy m (ordN m k)).take 1
theorem mem_rdy {m : List MRow} {st : List Nat} {i : Nat} : i ∈ rdy m st ↔ i < m.length ∧ i ∉ st ∧ ∀ d ∈ drvs m i, d ∈ st := by
  unfold rdy
  simp [List.mem_filter, List.all_eq_true]
/-- among fewer than all: one is missing -/
theorem missing : ∀ (n : Nat) (l : List Nat), l.Nodup → (∀ i ∈ l, i < n) → (∀ i, i < n → i ∈ l) → l.length = n := by
  intro n l nd h1 h2
  have p : l.Perm (List.range n) := (List.perm_ext_iff_of_nodup nd List.nodup_range).mpr fun a => ⟨fun h => List.mem_range.mpr (h1 a h), fun h => h2 a (List.mem_range.mp h)⟩
  rw [p.length_eq, List.length_range]
theorem rdy_all {m : List MRow} (hm : Mach m) {st : List Nat} (e : rdy m st = []) : ∀ i, i < m.length → i ∈ st := by
  obtain ⟨rk, hrk⟩ := hm.rk
  -- each shaft that does not stand asks for one of lesser rank that does not
  have step : ∀ i, i < m.length → i ∉ st → ∃ d, d < m.length ∧ d ∉ st ∧ rk d < rk i := by
    intro i hi hn
    have : i ∉ rdy m st := by rw [e]; simp
    rw [mem_rdy] at this
    have : ∃ d ∈ drvs m i, d ∉ st := by
      apply Classical.byContradiction
      intro h
      refine this ⟨hi, hn, fun d hd => Classical.byContradiction fun q => h ⟨d, hd, q⟩⟩
    obtain ⟨d, hd, hq⟩ := this
    obtain ⟨a, b⟩ := hrk i _ (hm.at hi) d hd
    exact ⟨d, a, hq, b⟩
  have all : ∀ (k i : Nat), rk i ≤ k → i < m.length → i ∈ st := by
    intro k
    induction k with
    | zero =>
      intro i hk hi
      apply Classical.byContradiction
      intro hn
      obtain ⟨d, _, _, h⟩ := step i hi hn
      omega
    | succ k ih =>
      intro i hk hi
      apply Classical.byContradiction
      intro hn
      obtain ⟨d, h1, h2, h⟩ := step i hi hn
      exact h2 (ih d (by omega) h1)
  exact fun i hi => all _ i (Nat.le_refl _) hi
theorem rdy_some {m : List MRow} (hm : Mach m) {st : List Nat} (nd : st.Nodup) (hs : ∀ i ∈ st, i < m.length) (hl : st.length < m.length) : rdy m st ≠ [] := by
  intro e
  have := missing m.length st nd hs (rdy_all hm e)
  omega
theorem ordN_ok {m : List MRow} (hm : Mach m) : ∀ k, k ≤ m.length → (ordN m k).length = k ∧ (ordN m k).Nodup ∧ ∀ i ∈ ordN m k, i < m.length
  | 0, _ => ⟨rfl, List.nodup_nil, fun i h => by cases h⟩
  | k + 1, h => by
    obtain ⟨h1, h2, h3⟩ := ordN_ok hm k (by omega)
    have ne := rdy_some hm h2 h3 (by omega)
    obtain ⟨a, l, e⟩ := List.exists_cons_of_ne_nil ne
    have ha : a ∈ rdy m (ordN m k) := by rw [e]; simp
    rw [mem_rdy] at ha
    unfold ordN
    rw [e]
    refine ⟨by simp [h1], ?_, fun i hi => ?_⟩
    · rw [List.nodup_append]
      exact ⟨h2, by simp, fun x hx y hy => by
        simp at hy
        subst hy
        exact fun q => ha.2.1 (q ▸ hx)⟩
    · rcases List.mem_append.mp hi with h | h
      · exact h3 i h
      · simp at h
        exact h ▸ ha.1
theorem rdy_end {m : List MRow} (hm : Mach m) : rdy m (ordN m m.length) = [] := by
  obtain ⟨h1, h2, h3⟩ := ordN_ok hm m.length (Nat.le_refl _)
  rw [List.eq_nil_iff_forall_not_mem]
  intro a ha
  rw [mem_rdy] at ha
  have : (ordN m m.length ++ [a]).length = m.length + 1 := by simp [h1]
  have nd : (ordN m m.length ++ [a]).Nodup := by
    rw [List.nodup_append]
    exact ⟨h2, by simp, fun x hx y hy => by
      simp at hy
      subst hy
      exact fun q => ha.2.1 (q ▸ hx)⟩
  have key : ∀ (n : Nat) (l : List Nat), l.Nodup → (∀ i ∈ l, i < n) → l.length ≤ n := by
    intro n
    induction n with
    | zero =>
      intro l _ h
      cases l with
      | nil => exact Nat.le_refl _
      | cons x l => exact absurd (h x (by simp)) (by omega)
    | succ n ih =>
      intro l nd h
      have := ih (l.erase n) (nd.erase n) fun i hi => by
        have h1 := h i (List.mem_of_mem_erase hi)
        have h2 := (nd.mem_erase_iff.mp hi).1
        omega
      have le := List.length_erase_le (a := n) (l := l)
      by_cases hn : n ∈ l
      · rw [List.length_erase_of_mem hn] at this
        omega
      · rw [List.erase_of_not_mem hn] at this
        omega
  have := key m.length _ nd fun i hi => by
    rcases List.mem_append.mp hi with h | h
    · exact h3 i h
    · simp at h
      exact h ▸ ha.1
  omega
def discs (m : List MRow) : List Nat := (List.range m.length).filter fun i => (m.getD i default).isDisc
def MRow.st : MRow → Rat
  | .source s => s
  | .gear s _ _ => s
  | .adder s _ _ => s
  | .disc s _ _ => s
/-- the shaft in a row's third place -/
def MRow.mid : MRow → Nat
  | .adder _ a _ => a
  | .disc _ w _ => w
  | _ => 0
theorem plain.row (r : MRow) (n : Nat) : plain (n + 2) (encR r) := by
  have ok : PyData.strOk r.name = true := name_ok r
  cases r with
  | source s => exact ⟨by simp, fun d hd => by
      simp only [List.mem_cons, List.not_mem_nil, or_false] at hd
      rcases hd with rfl | rfl
      · exact ok
      · exact plain.enc _ n⟩
  | gear s q k => exact ⟨by simp, fun d hd => by
      simp only [List.mem_cons, List.not_mem_nil, or_false] at hd
      rcases hd with rfl | rfl | rfl | rfl
      · exact ok
      · exact plain.enc _ n
      · exact plain.enc _ n
      · exact plain.int _⟩
  | adder s q k => exact ⟨by simp, fun d hd => by
      simp only [List.mem_cons, List.not_mem_nil, or_false] at hd
      rcases hd with rfl | rfl | rfl | rfl
      · exact ok
      · exact plain.enc _ n
      · exact plain.int _
      · exact plain.int _⟩
  | disc s q k => exact ⟨by simp, fun d hd => by
      simp only [List.mem_cons, List.not_mem_nil, or_false] at hd
      rcases hd with rfl | rfl | rfl | rfl
      · exact ok
      · exact plain.enc _ n
      · exact plain.int _
      · exact plain.int _⟩
theorem isB_bl {a b : Bool} : dIsB (.bl a) (.bl b) = some (.bl (decide (a = b))) := (rfl)
theorem isNB_bl {a b : Bool} : dIsNotB (.bl a) (.bl b) = some (.bl (!decide (a = b))) := (rfl)
/-- just one item is such -/
theorem one_such {α : Type} (p : α → Bool) : ∀ (l : List α) (s : Nat), (∃ x, l[s]? = some x ∧ p x = true) → (∀ (i : Nat) x, l[i]? = some x → p x = true → i = s) → (l.filter p).length = 1
  | [], s, h, _ => by
    obtain ⟨x, h, _⟩ := h
    simp at h
  | y :: l, 0, h, u => by
    obtain ⟨x, hx, hp⟩ := h
    simp at hx
    subst hx
    have : l.filter p = [] := List.filter_eq_nil_iff.mpr fun z hz hpz => by
      obtain ⟨i, hi⟩ := List.getElem?_of_mem hz
      have := u (i + 1) z (by simpa using hi) hpz
      omega
    rw [List.filter_cons_of_pos hp, this]
    rfl
  | y :: l, s + 1, h, u => by
    obtain ⟨x, hx, hp⟩ := h
    have hy : ¬ p y = true := fun hy => by
      have := u 0 y rfl hy
      omega
    rw [List.filter_cons_of_neg hy]
    exact one_such p l s ⟨x, by simpa using hx, hp⟩ fun i z hz hpz => by
      have := u (i + 1) z (by simpa using hz) hpz
      omega
def MRow.behind (n sh : Nat) : MRow → MRow
  | .source s => .gear s 1 sh
  | .gear s q k => .gear s q (k + n)
  | .adder s a b => .adder s (a + n) (b + n)
  | .disc s w k => .disc s (w + n) (k + n)
def joinM (m : List MRow) (sh : Nat) (m2 : List MRow) : List MRow := m ++ m2.map (MRow.behind m.length sh)
theorem joinM_len (m : List MRow) (sh : Nat) (m2 : List MRow) : (joinM m sh m2).length = m.length + m2.length := by
  unfold joinM
  rw [List.length_append, List.length_map]
theorem Mach.join {m m2 : List MRow} (h : Mach m) (h2 : Mach m2) {sh : Nat} (hs : sh < m.length) : Mach (joinM m sh m2) := by
  have lo : ∀ {i : Nat} {r : MRow}, i < m.length → (joinM m sh m2)[i]? = some r → m[i]? = some r := fun {i r} hi e => by
    unfold joinM at e
    rwa [List.getElem?_append_left hi] at e
  have hi_ : ∀ {i : Nat} {r : MRow}, ¬ i < m.length → (joinM m sh m2)[i]? = some r → ∃ q, m2[i - m.length]? = some q ∧ r = q.behind m.length sh := fun {i r} hi e => by
    unfold joinM at e
    rw [List.getElem?_append_right (by omega), List.getElem?_map] at e
    rw [Option.map_eq_some_iff] at e
    obtain ⟨q, a, b⟩ := e
    exact ⟨q, a, b.symm⟩
  have len := joinM_len m sh m2
  refine ⟨by rw [len]; have := h.pos; omega, ?_, ?_, ?_⟩
  · obtain ⟨s, t, e, u⟩ := h.src
    have hsl := (List.getElem?_eq_some_iff.mp e).1
    refine ⟨s, t, by unfold joinM; rw [List.getElem?_append_left hsl]; exact e, fun i r hr hsr => ?_⟩
    by_cases hi : i < m.length
    · exact u i r (lo hi hr) hsr
    · obtain ⟨q, _, rfl⟩ := hi_ hi hr
      cases q <;> cases hsr
  · obtain ⟨rk, hrk⟩ := h.rk
    obtain ⟨rk2, hrk2⟩ := h2.rk
    refine ⟨fun i => if i < m.length then rk i else rk sh + 1 + rk2 (i - m.length), fun i r hr d hd => ?_⟩
    by_cases hi : i < m.length
    · obtain ⟨a, b⟩ := hrk i r (lo hi hr) d hd
      refine ⟨by omega, ?_⟩
      show (if d < m.length then rk d else _) < (if i < m.length then rk i else _)
      rw [if_pos a, if_pos hi]; exact b
    · obtain ⟨q, hq, rfl⟩ := hi_ hi hr
      have old : ∀ k, k ∈ q.drv → k + m.length < (joinM m sh m2).length ∧ (if k + m.length < m.length then rk (k + m.length) else rk sh + 1 + rk2 (k + m.length - m.length)) < (if i < m.length then rk i else rk sh + 1 + rk2 (i - m.length)) := fun k hk => by
        obtain ⟨a, b⟩ := hrk2 _ q hq k hk
        refine ⟨by omega, ?_⟩
        rw [if_neg (by omega), if_neg hi, show k + m.length - m.length = k by omega]
        omega
      cases q with
      | source s =>
        have : d = sh := by simpa [MRow.behind, MRow.drv] using hd
        subst this
        refine ⟨by omega, ?_⟩
        show (if d < m.length then rk d else _) < (if i < m.length then rk i else _)
        rw [if_pos hs, if_neg hi]
        omega
      | gear s q k =>
        have : d = k + m.length := by simpa [MRow.behind, MRow.drv] using hd
        subst this
        exact old k (by simp [MRow.drv])
      | adder s a b =>
        have : d = a + m.length ∨ d = b + m.length := by simpa [MRow.behind, MRow.drv] using hd
        rcases this with rfl | rfl
        · exact old a (by simp [MRow.drv])
        · exact old b (by simp [MRow.drv])
      | disc s w k =>
        have : d = k + m.length := by simpa [MRow.behind, MRow.drv] using hd
        subst this
        exact old k (by simp [MRow.drv])
  · intro i s w k hr
    by_cases hi : i < m.length
    · have := h.whl i s w k (lo hi hr)
      omega
    · obtain ⟨q, hq, e⟩ := hi_ hi hr
      cases q with
      | disc s' w' k' =>
        have := h2.whl _ s' w' k' hq
        have : w = w' + m.length := by cases e; rfl
        omega
      | _ => cases e
end Ow


namespace Ow
open PySem PySem.Spec PySem.SeqAt PyProof.Rows L2
/-- one along another, term k times k, the first j parts -/
def af (f g : Nat → Rat) (k j : Nat) : Rat := sumF (fun i => (((k - i : Nat) : Int) : Rat) * (f i * g (k - i))) j
/-- what a row asks of term k -/
def rowF (r : MRow) (T : Nat → Nat → Rat) (k : Nat) : Rat := match r with
  | .source _ => if k = 1 then 1 else 0
  | .gear _ q d => q * T d k
  | .adder _ a b => T a k + T b k
  | .disc _ w d => af (T w) (T d) k k / ((k : Int) : Rat)
/-- the series of a machine's shafts -/
structure Turn (m : List MRow) (T : Nat → Nat → Rat) : Prop where
  zero : ∀ i, i < m.length → T i 0 = (m.getD i default).st
  step : ∀ i k, i < m.length → 0 < k → T i k = rowF (m.getD i default) T k
def QQ : Nat := 360360
def GG : Nat := 30720
/-- a row's part of the bottom -/
def fr (m : List MRow) (i : Nat) : Nat := match m.getD i default with
  | .source _ => 1
  | .gear _ q _ => q.den
  | .adder _ _ _ => 1
  | .disc _ w _ => QQ * ((m.getD w default).st).den
def pF (m : List MRow) : List Nat → Nat
  | [] => 1
  | i :: is => fr m i * pF m is
theorem fr_pos (m : List MRow) (i : Nat) : 0 < fr m i := by
  unfold fr
  cases m.getD i default with
  | source s => exact Nat.one_pos
  | gear s q d => exact q.den_pos
  | adder s a b => exact Nat.one_pos
  | disc s w d => exact Nat.mul_pos (by decide) (Rat.den_pos _)
theorem pF_pos (m : List MRow) : ∀ l, 0 < pF m l
  | [] => Nat.one_pos
  | i :: l => Nat.mul_pos (fr_pos m i) (pF_pos m l)
theorem pF_app (m : List MRow) (i : Nat) : ∀ l, pF m (l ++ [i]) = pF m l * fr m i
  | [] => by show fr m i * 1 = 1 * fr m i; omega
  | j :: l => by
    show fr m j * pF m (l ++ [i]) = fr m j * pF m l * fr m i
    rw [pF_app m i l, Nat.mul_assoc]
/-- the bound of term k of a shaft among P -/
def BD (m : List MRow) (F : Nat) (P : List Nat) (k : Nat) (x : Rat) : Prop := fb (pF m P * F ^ (k - 1)) (pF m P * F ^ (k - 1) * GG ^ (P.length + m.length * (k - 1))) x
theorem fb.up {d M e N : Nat} {r : Rat} (h : fb d M r) (he : 0 < e) (hM : M * e ≤ N) {d' : Nat} (hd : d' = d * e) : fb d' N r := by
  subst hd
  exact (h.lift e he).mono hM
theorem BD.more {m : List MRow} {F k : Nat} {P : List Nat} {x : Rat} (h : BD m F P k x) (i : Nat) : BD m F (P ++ [i]) k x := by
  unfold BD at h ⊢
  refine h.up (e := fr m i) (fr_pos m i) ?_ (by rw [pF_app]; grind)
  rw [pF_app, List.length_append, show P.length + [i].length + m.length * (k - 1) = (P.length + m.length * (k - 1)) + 1 by simp; omega, Nat.pow_succ]
  calc pF m P * F ^ (k - 1) * GG ^ (P.length + m.length * (k - 1)) * fr m i = pF m P * fr m i * F ^ (k - 1) * GG ^ (P.length + m.length * (k - 1)) * 1 := by grind
    _ ≤ pF m P * fr m i * F ^ (k - 1) * GG ^ (P.length + m.length * (k - 1)) * GG := Nat.mul_le_mul_left _ (by decide)
    _ = _ := by grind
theorem fb.self (r : Rat) : fb r.den r.num.natAbs r := by
  have := fb.divInt (z := r.num) (b := r.den) (a := 1) (d := r.den) (M := r.num.natAbs) r.den_pos (by omega) r.den_pos (by omega)
  rwa [Rat.num_divInt_den] at this
theorem fb.div {d M k : Nat} {r : Rat} (h : fb d M r) (hk : 0 < k) : fb (d * k) M (r / ((k : Int) : Rat)) := by
  obtain ⟨h1, z, e, hz⟩ := h
  refine ⟨Nat.mul_pos h1 hk, z, ?_, hz⟩
  have hk' := cast_pos_ne hk
  rw [cast_mul, ← e]
  grind
theorem QQ_dvd {k : Nat} (h : 0 < k) (h2 : k ≤ 15) : ∃ c, QQ = k * c ∧ 0 < c := by
  have : k = 1 ∨ k = 2 ∨ k = 3 ∨ k = 4 ∨ k = 5 ∨ k = 6 ∨ k = 7 ∨ k = 8 ∨ k = 9 ∨ k = 10 ∨ k = 11 ∨ k = 12 ∨ k = 13 ∨ k = 14 ∨ k = 15 := by omega
  rcases this with rfl | rfl | rfl | rfl | rfl | rfl | rfl | rfl | rfl | rfl | rfl | rfl | rfl | rfl | rfl
  all_goals first
    | exact ⟨360360, rfl, by decide⟩ | exact ⟨180180, rfl, by decide⟩ | exact ⟨120120, rfl, by decide⟩ | exact ⟨90090, rfl, by decide⟩ | exact ⟨72072, rfl, by decide⟩ | exact ⟨60060, rfl, by decide⟩ | exact ⟨51480, rfl, by decide⟩
    | exact ⟨45045, rfl, by decide⟩ | exact ⟨40040, rfl, by decide⟩ | exact ⟨36036, rfl, by decide⟩ | exact ⟨32760, rfl, by decide⟩ | exact ⟨30030, rfl, by decide⟩ | exact ⟨27720, rfl, by decide⟩ | exact ⟨25740, rfl, by decide⟩ | exact ⟨24024, rfl, by decide⟩
theorem fb.cast {d d' M M' : Nat} {r : Rat} (h : fb d M r) (e : d = d') (e2 : M = M') : fb d' M' r := by
  subst e; subst e2; exact h
/-- one part of a disc's term -/
theorem BD.term {m : List MRow} {T : Nat → Nat → Rat} {F k w d D E den : Nat} {P : List Nat} (hk : 0 < k) (h15 : k ≤ 15) (hst : fb den 2047 (T w 0)) (hdk : fb D (D * E) (T d k)) (hd : ∀ j, 0 < j → j ≤ k → BD m F P j (T d j))
    (hc : ∀ t, 0 < t → t < k → fb (F ^ t) (F ^ t * GG ^ (m.length * t)) (T w t)) (hD : pF m P * F ^ (k - 1) = D) (hE : GG ^ (P.length + m.length * (k - 1)) = E) (hden0 : 0 < den) :
    ∀ t, t < k → fb (D * den) (15 * 2047 * (D * E) * den) ((((k - t : Nat) : Int) : Rat) * (T w t * T d (k - t))) := by
  intro t ht
  have hi15 : fb 1 15 (((k - t : Nat) : Int) : Rat) := fb.of_int _ (by omega)
  by_cases h0 : t = 0
  · subst h0
    have p := hi15.mul (hst.mul hdk)
    refine fb.mono (p.cast (by grind) rfl) ?_
    calc 15 * (2047 * (D * E)) = 15 * 2047 * (D * E) * 1 := by grind
      _ ≤ 15 * 2047 * (D * E) * den := Nat.mul_le_mul_left _ hden0
  · have a := hc t (by omega) ht
    have b := hd (k - t) (by omega) (by omega)
    have p := hi15.mul (a.mul b)
    have z : F ^ t * (pF m P * F ^ (k - t - 1)) = D := by
      rw [← hD, show k - 1 = t + (k - t - 1) by omega, Nat.pow_add]
      grind
    have z2 : GG ^ (m.length * t) * GG ^ (P.length + m.length * (k - t - 1)) = E := by
      rw [← hE, ← Nat.pow_add]
      congr 1
      rw [show k - 1 = t + (k - t - 1) by omega, Nat.mul_add]
      omega
    have p := p.cast (d' := D) (M' := 15 * (D * E)) (by rw [z]; omega) (by rw [← z, ← z2]; grind)
    refine (p.up (e := den) hden0 ?_ rfl)
    calc 15 * (D * E) * den = 15 * 1 * (D * E) * den := by grind
      _ ≤ 15 * 2047 * (D * E) * den := Nat.mul_le_mul_right _ (Nat.mul_le_mul_right _ (by decide))
/-- the bound of the next shaft's term -/
theorem BD.step {m : List MRow} {T : Nat → Nat → Rat} {F k i : Nat} {P : List Nat} (hF : 0 < F) (hk : 0 < k) (h15 : k ≤ 15) (hw : ∀ w, w < m.length → T w 0 = (m.getD w default).st) (hn : ∀ r ∈ m, ∀ q ∈ r.nums, q.num.natAbs ≤ 2047)
    (hi : m[i]? = some (m.getD i default)) (hwl : ∀ s w d, m.getD i default = .disc s w d → w < m.length) (hd : ∀ d ∈ (m.getD i default).drv, ∀ j, 0 < j → j ≤ k → BD m F P j (T d j))
    (hc : ∀ w, w < m.length → ∀ t, 0 < t → t < k → fb (F ^ t) (F ^ t * GG ^ (m.length * t)) (T w t)) (e : T i k = rowF (m.getD i default) T k) : BD m F (P ++ [i]) k (T i k) := by
  have hmem := List.mem_of_getElem? hi
  have hP := pF_pos m P
  have hFk : 0 < F ^ (k - 1) := Nat.pow_pos hF
  obtain ⟨D, hD⟩ : ∃ D, pF m P * F ^ (k - 1) = D := ⟨_, rfl⟩
  have hD0 : 0 < D := hD ▸ Nat.mul_pos hP hFk
  obtain ⟨E, hE⟩ : ∃ E, GG ^ (P.length + m.length * (k - 1)) = E := ⟨_, rfl⟩
  have hE0 : 0 < E := hE ▸ Nat.pow_pos (by decide)
  have hB : pF m (P ++ [i]) * F ^ (k - 1) = D * fr m i := by rw [pF_app, ← hD]; grind
  have hM : GG ^ ((P ++ [i]).length + m.length * (k - 1)) = E * GG := by
    rw [List.length_append, show P.length + [i].length + m.length * (k - 1) = (P.length + m.length * (k - 1)) + 1 by simp; omega, Nat.pow_succ, hE]
  unfold BD at hd ⊢
  rw [hB, hM, e]
  have hfr : fr m i = match m.getD i default with
    | .source _ => 1
    | .gear _ q _ => q.den
    | .adder _ _ _ => 1
    | .disc _ w _ => QQ * ((m.getD w default).st).den := rfl
  have hdk : ∀ d ∈ (m.getD i default).drv, fb D (D * E) (T d k) := fun d h => by
    have := hd d h k hk (Nat.le_refl _)
    rwa [hD, hE] at this
  revert hd hdk hfr hmem hwl
  cases m.getD i default with
  | source s =>
    intro hwl hd hmem hfr hdk
    have one : fb 1 1 (if k = 1 then (1 : Rat) else 0) := by
      split
      · exact fb.of_int 1 (by decide)
      · exact (fb.zero (by decide)).mono (by omega)
    refine one.up (e := D * fr m i) (Nat.mul_pos hD0 (fr_pos m i)) ?_ (by omega)
    rw [Nat.one_mul]
    exact Nat.le_mul_of_pos_right _ (Nat.mul_pos hE0 (by decide))
  | gear s q d =>
    intro hwl hd hmem hfr hdk
    have hfr : fr m i = q.den := hfr
    have hq := hn _ hmem q (by simp [MRow.nums])
    have := (fb.self q).mul (hdk d (by simp [MRow.drv]))
    rw [hfr]
    refine this.up (e := 1) (by decide) ?_ (by grind)
    calc q.num.natAbs * (D * E) * 1 ≤ (q.den * 2047) * (D * E) * 1 := Nat.mul_le_mul_right _ (Nat.mul_le_mul_right _ (Nat.le_trans hq (Nat.le_mul_of_pos_left _ q.den_pos)))
      _ = D * q.den * (E * 2047) := by grind
      _ ≤ D * q.den * (E * GG) := Nat.mul_le_mul_left _ (Nat.mul_le_mul_left _ (by decide))
  | adder s a b =>
    intro hwl hd hmem hfr hdk
    have hfr : fr m i = 1 := hfr
    have := (hdk a (by simp [MRow.drv])).add (hdk b (by simp [MRow.drv]))
    rw [hfr]
    refine this.up (e := 1) (by decide) ?_ rfl
    calc (D * E + D * E) * 1 = D * 1 * (E * 2) := by grind
      _ ≤ D * 1 * (E * GG) := Nat.mul_le_mul_left _ (Nat.mul_le_mul_left _ (by decide))
  | disc s w d =>
    intro hwl hd hmem hfr hdk
    have hwm := hwl s w d rfl
    obtain ⟨den, hden⟩ : ∃ x, ((m.getD w default).st).den = x := ⟨_, rfl⟩
    have hfr : fr m i = QQ * ((m.getD w default).st).den := hfr
    rw [hden] at hfr
    have hden0 : 0 < den := hden ▸ Rat.den_pos _
    have hst : fb den 2047 (T w 0) := by
      rw [hw w hwm]
      have := fb.self (m.getD w default).st
      rw [hden] at this
      refine this.mono (hn (m.getD w default) ?_ _ ?_)
      · rw [List.getD_eq_getElem?_getD, List.getElem?_eq_getElem hwm]
        exact List.getElem_mem hwm
      · cases m.getD w default <;> simp [MRow.nums, MRow.st]
    have term := BD.term hk h15 hst (hdk d (by simp [MRow.drv])) (hd d (by simp [MRow.drv])) (hc w hwm) hD hE hden0
    have hs := (fb.sum (Nat.mul_pos hD0 hden0) k term).div hk
    obtain ⟨c, hc1, hc2⟩ := QQ_dvd hk h15
    rw [hfr]
    refine hs.up (e := c) hc2 ?_ (by rw [hc1]; grind)
    calc k * (15 * 2047 * (D * E) * den) * c = D * (QQ * den) * (E * (15 * 2047)) := by rw [hc1]; grind
      _ ≤ D * (QQ * den) * (E * GG) := Nat.mul_le_mul_left _ (Nat.mul_le_mul_left _ (by decide))
theorem bounds {m : List MRow} (hm : Mach m) {T : Nat → Nat → Rat} (hT : Turn m T) (hn : ∀ r ∈ m, ∀ q ∈ r.nums, q.num.natAbs ≤ 2047) : ∀ k, 0 < k → k ≤ 15 → ∀ j, j ≤ m.length → ∀ d ∈ ordN m j, BD m (pF m (ordN m m.length)) (ordN m j) k (T d k) := by
  intro k
  induction k using Nat.strongRecOn with
  | ind k ih =>
    intro hk h15 j
    induction j with
    | zero => intro _ d hd; cases hd
    | succ j jh =>
      intro hj d hd
      obtain ⟨o1, o2, o3⟩ := ordN_ok hm j (by omega)
      obtain ⟨a, l, hc⟩ := List.exists_cons_of_ne_nil (rdy_some hm o2 o3 (by omega))
      have ho : ordN m (j + 1) = ordN m j ++ [a] := by
        show ordN m j ++ _ = _
        rw [hc]; rfl
      have ha : a ∈ rdy m (ordN m j) := by rw [hc]; simp
      rw [mem_rdy] at ha
      rw [ho] at hd ⊢
      rcases List.mem_append.mp hd with h | h
      · exact (jh (by omega) d h).more a
      · have : d = a := by simpa using h
        subst this
        refine BD.step (pF_pos m _) hk h15 hT.zero hn (hm.at ha.1) (fun s w q e => ?_) (fun e he i hi hik => ?_) (fun w hw t ht htk => ?_) (hT.step d k ha.1 hk)
        · exact hm.whl d s w q (by rw [hm.at ha.1, e])
        · by_cases z : i = k
          · subst z
            exact jh (by omega) e (ha.2.2 e he)
          · exact ih i (by omega) hi (by omega) j (by omega) e (ha.2.2 e he)
        · have all := rdy_all hm (rdy_end hm) w hw
          have := ih t htk ht (by omega) m.length (Nat.le_refl _) w all
          unfold BD at this
          obtain ⟨p1, _, _⟩ := ordN_ok hm m.length (Nat.le_refl _)
          rw [p1] at this
          obtain ⟨t', rfl⟩ : ∃ q, t = q + 1 := ⟨t - 1, by omega⟩
          rw [Nat.add_sub_cancel] at this
          refine this.cast (by rw [Nat.pow_succ]; grind) ?_
          rw [Nat.mul_succ, Nat.add_comm (m.length * t'), Nat.pow_succ]
          grind
end Ow


namespace Ow
open PySem PySem.Spec PySem.SeqAt PyProof.Rows L2
/-- two discs and an adder more: the product of both shafts -/
def greatM (m : List MRow) (a b : Nat) (s1 s2 : Rat) : List MRow := m ++ [.disc s1 a b, .disc s2 b a, .adder ((m.getD a default).st * (m.getD b default).st) m.length (m.length + 1)]
theorem greatM_len (m : List MRow) (a b : Nat) (s1 s2 : Rat) : (greatM m a b s1 s2).length = m.length + 3 := by
  unfold greatM
  rw [List.length_append]
  rfl
theorem greatM_at {m : List MRow} {a b : Nat} {s1 s2 : Rat} {i : Nat} {r : MRow} (h : (greatM m a b s1 s2)[i]? = some r) : (i < m.length ∧ m[i]? = some r) ∨ (i = m.length ∧ r = .disc s1 a b) ∨ (i = m.length + 1 ∧ r = .disc s2 b a) ∨ (i = m.length + 2 ∧ r = .adder ((m.getD a default).st * (m.getD b default).st) m.length (m.length + 1)) := by
  have hl := (List.getElem?_eq_some_iff.mp h).1
  rw [greatM_len] at hl
  unfold greatM at h
  by_cases hi : i < m.length
  · rw [List.getElem?_append_left hi] at h
    exact .inl ⟨hi, h⟩
  · rw [List.getElem?_append_right (by omega)] at h
    have : i = m.length ∨ i = m.length + 1 ∨ i = m.length + 2 := by omega
    rcases this with rfl | rfl | rfl
    · rw [Nat.sub_self] at h
      exact .inr (.inl ⟨rfl, (Option.some.inj h).symm⟩)
    · rw [show m.length + 1 - m.length = 1 by omega] at h
      exact .inr (.inr (.inl ⟨rfl, (Option.some.inj h).symm⟩))
    · rw [show m.length + 2 - m.length = 2 by omega] at h
      exact .inr (.inr (.inr ⟨rfl, (Option.some.inj h).symm⟩))
theorem Mach.great {m : List MRow} (h : Mach m) {a b : Nat} (ha : a < m.length) (hb : b < m.length) (s1 s2 : Rat) : Mach (greatM m a b s1 s2) := by
  have len := greatM_len m a b s1 s2
  refine ⟨by omega, ?_, ?_, ?_⟩
  · obtain ⟨s, t, e, u⟩ := h.src
    have hsl := (List.getElem?_eq_some_iff.mp e).1
    refine ⟨s, t, by unfold greatM; rw [List.getElem?_append_left hsl]; exact e, fun i r hr hs => ?_⟩
    rcases greatM_at hr with ⟨_, q⟩ | ⟨_, rfl⟩ | ⟨_, rfl⟩ | ⟨_, rfl⟩
    · exact u i r q hs
    · cases hs
    · cases hs
    · cases hs
  · obtain ⟨rk, hrk⟩ := h.rk
    refine ⟨fun i => if i < m.length then rk i else if i = m.length + 2 then rk a + rk b + 2 else rk a + rk b + 1, fun i r hr d hd => ?_⟩
    rcases greatM_at hr with ⟨hi, q⟩ | ⟨hi, rfl⟩ | ⟨hi, rfl⟩ | ⟨hi, rfl⟩
    · obtain ⟨x, y⟩ := hrk i r q d hd
      refine ⟨by omega, ?_⟩
      simp only
      rw [if_pos x, if_pos hi]
      exact y
    · have : d = b := by simpa [MRow.drv] using hd
      subst this
      refine ⟨by omega, ?_⟩
      simp only
      rw [if_pos hb, if_neg (by omega), if_neg (by omega)]
      omega
    · have : d = a := by simpa [MRow.drv] using hd
      subst this
      refine ⟨by omega, ?_⟩
      simp only
      rw [if_pos ha, if_neg (by omega), if_neg (by omega)]
      omega
    · have : d = m.length ∨ d = m.length + 1 := by simpa [MRow.drv] using hd
      refine ⟨by omega, ?_⟩
      simp only
      rw [if_neg (by omega), if_neg (by omega), if_neg (by omega), if_pos hi]
      omega
  · intro i s w k hr
    rcases greatM_at hr with ⟨_, q⟩ | ⟨_, e⟩ | ⟨_, e⟩ | ⟨_, e⟩
    · have := h.whl i s w k q
      omega
    · cases e; omega
    · cases e; omega
    · cases e
end Ow


namespace Ow
open PySem PySem.Spec PySem.SeqAt PyProof.Rows L2
end Ow


namespace Ow
open PySem PySem.Spec PySem.SeqAt PyProof.Rows L2
def bF (n L : Nat) (f : Nat → Rat) : Prop := ∃ d M, 0 < d ∧ d ≤ 2 ^ n ∧ M ≤ 2 ^ n ∧ ∀ i, i < L → fb d M (f i)
theorem bF.sz {n L : Nat} {f : Nat → Rat} (h : bF n L f) {i : Nat} (hi : i < L) : sz (n + 1) (f i) := by
  obtain ⟨d, M, h0, hd, hM, hf⟩ := h
  exact (hf i hi).sz (Nat.lt_of_le_of_lt hd (Nat.pow_lt_pow_right (by omega) (by omega))) (Nat.lt_of_le_of_lt hM (Nat.pow_lt_pow_right (by omega) (by omega)))
theorem bF.szS {n L : Nat} {f : Nat → Rat} (h : bF n L f) : szS (n + 1) (tl f L) := fun x hx => by
  unfold tl at hx
  obtain ⟨i, hi, rfl⟩ := List.mem_map.mp hx
  exact h.sz (List.mem_range.mp hi)
theorem bF.less {n L L' : Nat} {f : Nat → Rat} (h : bF n L f) (hl : L' ≤ L) : bF n L' f := by
  obtain ⟨d, M, h0, hd, hM, hf⟩ := h
  exact ⟨d, M, h0, hd, hM, fun i hi => hf i (by omega)⟩
theorem bF.mono {n n' L : Nat} {f : Nat → Rat} (h : bF n L f) (hn : n ≤ n') : bF n' L f := by
  obtain ⟨d, M, h0, hd, hM, hf⟩ := h
  have := Nat.pow_le_pow_right (show 0 < 2 by omega) hn
  exact ⟨d, M, h0, Nat.le_trans hd this, Nat.le_trans hM this, hf⟩
theorem bF.congr {n L : Nat} {f g : Nat → Rat} (h : bF n L f) (e : ∀ i, i < L → f i = g i) : bF n L g := by
  obtain ⟨d, M, h0, hd, hM, hf⟩ := h
  exact ⟨d, M, h0, hd, hM, fun i hi => by rw [← e i hi]; exact hf i hi⟩
theorem p2mul {a b n m : Nat} (ha : a ≤ 2 ^ n) (hb : b ≤ 2 ^ m) : a * b ≤ 2 ^ (n + m) := by
  rw [Nat.pow_add]
  exact Nat.mul_le_mul ha hb
theorem bF.add {n n' L : Nat} {f g : Nat → Rat} (h : bF n L f) (h2 : bF n' L g) : bF (n + n' + 1) L fun i => f i + g i := by
  obtain ⟨d, M, h0, hd, hM, hf⟩ := h
  obtain ⟨d', M', h0', hd', hM', hf'⟩ := h2
  refine ⟨d * d', M * d' + M' * d, Nat.mul_pos h0 h0', Nat.le_trans (p2mul hd hd') (Nat.pow_le_pow_right (by omega) (by omega)), ?_, fun i hi => ((hf i hi).lift d' h0').add (((hf' i hi).lift d h0).cast (Nat.mul_comm _ _) rfl)⟩
  have a := p2mul hM hd'
  have b := p2mul hM' hd
  rw [Nat.add_comm n' n] at b
  rw [Nat.pow_succ]
  omega
theorem bF.cv {n n' L : Nat} {f g : Nat → Rat} (h : bF n L f) (h2 : bF n' L g) (hL : L ≤ 16) : bF (n + n' + 4) L (Ow.cv f g) ∧ ∀ k j, k < L → j ≤ k + 1 → Ow.sz (n + n' + 5) (sumF (fun i => f i * g (k - i)) j) := by
  obtain ⟨d, M, h0, hd, hM, hf⟩ := h
  obtain ⟨d', M', h0', hd', hM', hf'⟩ := h2
  have key : ∀ k j, k < L → j ≤ k + 1 → fb (d * d') (16 * (M * M')) (sumF (fun i => f i * g (k - i)) j) := fun k j hk hj => (fb.sum (Nat.mul_pos h0 h0') j fun i hi => (hf i (by omega)).mul (hf' (k - i) (by omega))).mono (Nat.mul_le_mul_right _ (by omega))
  have a := p2mul hd hd'
  have b := p2mul (show 16 ≤ 2 ^ 4 by decide) (p2mul hM hM')
  have e1 : 2 ^ (4 + (n + n')) = 2 ^ (n + n' + 4) := by rw [Nat.add_comm]
  refine ⟨⟨d * d', 16 * (M * M'), Nat.mul_pos h0 h0', Nat.le_trans a (Nat.pow_le_pow_right (by omega) (by omega)), by rw [← e1]; exact b, fun k hk => key k (k + 1) hk (Nat.le_refl _)⟩, fun k j hk hj => (key k j hk hj).sz (Nat.lt_of_le_of_lt a (Nat.pow_lt_pow_right (by omega) (by omega))) (Nat.lt_of_le_of_lt b (Nat.pow_lt_pow_right (by omega) (by omega)))⟩
end Ow


namespace Ow
open PySem PySem.Spec PySem.SeqAt PyProof.Rows L2
end Ow


namespace Ow
open PySem PySem.Spec PySem.SeqAt PyProof.Rows L2
section
variable {σ : List D} {r : Nat}
theorem a_dnewT : eDNewT σ = .ok (.dT []) σ := (rfl)
def gt4 (r : Nat) (y : D) (x : ER D) : ER D := match x with
  | .ok z σ2 => ofO (dGetT (σ2.getD r .non) y z) σ2
  | .exc c p s => .exc c p s
  | .stuck => .stuck
def gt3 (r : Nat) (gf : List D → ER D) (x : ER D) : ER D := match x with
  | .ok y σ1 => gt4 r y (gf σ1)
  | .exc c p s => .exc c p s
  | .stuck => .stuck
def gt2 (r : Nat) (ge gf : List D → ER D) (σ : List D) (d : D) : ER D := if isDT d = true then gt3 r gf (ge σ) else .stuck
theorem a_getT {ge gf : List D → ER D} : eGetT r ge gf σ = gt2 r ge gf σ (σ.getD r .non) := by
  unfold eGetT gt2
  split
  · unfold gt3
    cases ge σ with
    | ok y σ1 =>
      show ER.bind (gf σ1) _ = _
      dsimp only
      unfold gt4
      cases gf σ1 <;> rfl
    | _ => rfl
  · rfl
theorem gt2_d {ge gf : List D → ER D} {kds : List (List Int × D)} : gt2 r ge gf σ (.dT kds) = gt3 r gf (ge σ) := (rfl)
theorem gt3_o {gf : List D → ER D} {y : D} : gt3 r gf (.ok y σ) = gt4 r y (gf σ) := (rfl)
theorem gt4_o {y z : D} : gt4 r y (.ok z σ) = ofO (dGetT (σ.getD r .non) y z) σ := (rfl)
def it3 (r : Nat) (x : ER D) : ER D := match x with
  | .ok y σ1 => ofO (dIxT (σ1.getD r .non) y) σ1
  | .exc c p s => .exc c p s
  | .stuck => .stuck
def it2 (r : Nat) (gi : List D → ER D) (σ : List D) (d : D) : ER D := if isDT d = true then it3 r (gi σ) else .stuck
theorem a_ixT {gi : List D → ER D} : eIxT r gi σ = it2 r gi σ (σ.getD r .non) := by
  unfold eIxT it2
  split
  · unfold it3
    cases gi σ <;> rfl
  · rfl
theorem it2_d {gi : List D → ER D} {kds : List (List Int × D)} : it2 r gi σ (.dT kds) = it3 r (gi σ) := (rfl)
theorem it3_o {y : D} : it3 r (.ok y σ) = ofO (dIxT (σ.getD r .non) y) σ := (rfl)
def st3 (r : Nat) (v : D) (x : ER D) : SO := match x with
  | .stuck => .stuck
  | .ok i σ1 => setd4 r σ1 (dPutT (σ1.getD r .non) i v)
  | .exc c p σ1 => .exc c p σ1
def st2 (r : Nat) (gi : List D → ER D) (x : ER D) : SO := match x with
  | .stuck => .stuck
  | .ok v σ1 => st3 r v (gi σ1)
  | .exc c p σ1 => .exc c p σ1
theorem a_setT {gv gi : List D → ER D} : sSetT r gv gi σ = st2 r gi (gv σ) := by
  unfold sSetT sOf st2
  cases gv σ with
  | ok v σ1 =>
    dsimp only
    unfold st3
    cases gi σ1 with
    | ok i σ2 => dsimp only; unfold setd4; cases dPutT (σ2.getD r .non) i v <;> rfl
    | _ => rfl
  | _ => rfl
theorem st2_o {gi : List D → ER D} {v : D} : st2 r gi (.ok v σ) = st3 r v (gi σ) := (rfl)
theorem st3_o {i v : D} : st3 r v (.ok i σ) = setd4 r σ (dPutT (σ.getD r .non) i v) := (rfl)
def ky2 (σ : List D) (d : D) : ER (List D) := match d with
  | .dT kds => .ok (kds.map fun kv => .tup (kv.1.map D.int)) σ
  | _ => .stuck
theorem a_keysT : gKeysT r σ = ky2 σ (σ.getD r .non) := (rfl)
theorem ky2_d {kds : List (List Int × D)} : ky2 σ (.dT kds) = .ok (kds.map fun kv => .tup (kv.1.map D.int)) σ := (rfl)
theorem take_at {α : Type} {l : List α} {i : Nat} {a : α} (h : l[i]? = some a) : l.take (i + 1) = l.take i ++ [a] := by
  rw [List.take_succ, h]; rfl
end
abbrev FRow := List Int × Rat
def pwD (p : List Int) : D := .tup (p.map D.int)
def frD (x : FRow) : D := .tup [pwD x.1, enc x.2]
def foD (F : List FRow) : D := .lst (F.map frD)
theorem intsOf_ints : ∀ p : List Int, intsOf (p.map D.int) = some p
  | [] => rfl
  | a :: p => by
    show (intsOf (p.map D.int)).map (a :: ·) = _
    rw [intsOf_ints p]; rfl
theorem flat_ints : ∀ p : List Int, D.flats (p.map D.int) = true
  | [] => rfl
  | a :: p => by
    show (D.flat (.int a) && D.flats (p.map D.int)) = true
    rw [flat_ints p]; rfl
theorem flat_pw (p : List Int) : (pwD p).flat = true := flat_ints p
def putF (L : List FRow) (x : FRow) : List FRow := if (L.any fun y => decide (y.1 = x.1)) = true then L.map (fun y => if y.1 = x.1 then (y.1, x.2) else y) else L ++ [x]
def keysF (L : List FRow) : List (List Int) := L.map (·.1)
def wS (φ : List Int → Rat) : List FRow → Rat
  | [] => 0
  | x :: F => x.2 * φ x.1 + wS φ F
theorem wS_append (φ : List Int → Rat) : ∀ F G : List FRow, wS φ (F ++ G) = wS φ F + wS φ G
  | [], G => by show wS φ G = 0 + wS φ G; grind
  | x :: F, G => by
    show x.2 * φ x.1 + wS φ (F ++ G) = x.2 * φ x.1 + wS φ F + wS φ G
    rw [wS_append φ F G]; grind
def fbF (d M : Nat) (F : List FRow) : Prop := ∀ x ∈ F, fb d M x.2
def keyP (P : List Int → Prop) (F : List FRow) : Prop := ∀ x ∈ F, P x.1
def kyF (x : FRow) : List Int := x.1 ++ [x.2.num, x.2.den]
def leF (x y : FRow) : Bool := !HT.lexLt (kyF y) (kyF x)
noncomputable def sortF (F : List FRow) : List FRow := F.mergeSort leF
theorem sortF_perm (F : List FRow) : (sortF F).Perm F := List.mergeSort_perm _ _
theorem rowK_fr {n : Nat} (x : FRow) (h : x.1.length = n) : rowK [.tup n, .tup 2] (frD x) = some (kyF x) := by
  show (intsOf (x.1.map D.int)).bind _ = _
  rw [intsOf_ints]
  show (if x.1.length = n then _ else _) = _
  rw [if_pos h]
  rfl
theorem sortedF_eq {n : Nat} {F : List FRow} (h : keyP (fun p => p.length = n) F) : fSortedR [foD F] = some (foD (sortF F)) := by
  cases F with
  | nil => 
    show some (D.lst []) = some (.lst ((sortF []).map frD))
    rw [sortF, List.mergeSort_nil]; rfl
  | cons x F =>
    have hx : x.1.length = n := h x List.mem_cons_self
    have es : shpF [pwD x.1, enc x.2] = some [.tup n, .tup 2] := by
      show some [Fk.tup (x.1.map D.int).length, .tup 2] = _
      rw [List.length_map, hx]
    have e : sortD [.tup n, .tup 2] ((x :: F).map frD) = some ((sortF (x :: F)).map frD) := by
      unfold sortD
      have ha : ((x :: F).map frD).all (fun d => (rowK [.tup n, .tup 2] d).isSome) = true := by
        rw [List.all_map]
        refine List.all_eq_true.mpr fun y hy => ?_
        show (rowK [.tup n, .tup 2] (frD y)).isSome = true
        rw [rowK_fr y (h y hy)]; rfl
      rw [if_pos ha, sortF]
      refine congrArg some (List.map_mergeSort fun a hma b hmb => ?_).symm
      unfold leF leD kyD
      rw [rowK_fr a (h a hma), rowK_fr b (h b hmb)]
      rfl
    show (match shpF [pwD x.1, enc x.2] with
      | some (f :: P) => (sortD (f :: P) (.tup [pwD x.1, enc x.2] :: F.map frD)).map D.lst
      | _ => none) = _
    rw [es]
    show (sortD [.tup n, .tup 2] ((x :: F).map frD)).map D.lst = _
    rw [e]; rfl
def addP (p q : List Int) : List Int := List.zipWith (· + ·) p q
theorem addP_len {p q : List Int} {n : Nat} (h : p.length = n) (h2 : q.length = n) : (addP p q).length = n := by
  unfold addP; rw [List.length_zipWith, h, h2, Nat.min_self]
/-- a form's letters, degree -/
def Pw (n g : Nat) (p : List Int) : Prop := p.length = n ∧ (∀ a ∈ p, 0 ≤ a) ∧ p.sum ≤ g
theorem Pw.len {n g : Nat} {F : List FRow} (h : keyP (Pw n g) F) : keyP (fun p => p.length = n) F := fun x hx => (h x hx).1
theorem addP_sum : ∀ p q : List Int, p.length = q.length → (addP p q).sum = p.sum + q.sum
  | [], [], _ => rfl
  | a :: p, b :: q, h => by
    show (a + b) + (addP p q).sum = (a + p.sum) + (b + q.sum)
    rw [addP_sum p q (by simpa using h)]; omega
  | [], _ :: _, h => by cases h
  | _ :: _, [], h => by cases h
theorem Pw.add {n g k : Nat} {p q : List Int} (h : Pw n g p) (h2 : Pw n k q) : Pw n (g + k) (addP p q) := by
  refine ⟨addP_len h.1 h2.1, ?_, ?_⟩
  · intro a ha
    unfold addP at ha
    rw [List.mem_iff_getElem?] at ha
    obtain ⟨i, e⟩ := ha
    rw [List.getElem?_zipWith] at e
    cases e1 : p[i]? with
    | none => rw [e1] at e; cases e
    | some x => cases e2 : q[i]? with
      | none => rw [e1, e2] at e; cases e
      | some y =>
        rw [e1, e2] at e
        have e : x + y = a := by simpa using e
        have := h.2.1 x (List.mem_of_getElem? e1)
        have := h2.2.1 y (List.mem_of_getElem? e2)
        omega
  · rw [addP_sum _ _ (h.1.trans h2.1.symm)]
    have := h.2.2
    have := h2.2.2
    omega
theorem sum_nonneg : ∀ {p : List Int}, (∀ a ∈ p, 0 ≤ a) → 0 ≤ p.sum
  | [], _ => Int.le_refl 0
  | a :: p, h => by
    have := sum_nonneg fun b hb => h b (List.mem_cons_of_mem a hb)
    have := h a List.mem_cons_self
    show 0 ≤ a + p.sum
    omega
theorem sum_take : ∀ {p : List Int} {i : Nat} {a : Int}, (∀ a ∈ p, 0 ≤ a) → p[i]? = some a → (p.take i).sum + a ≤ p.sum
  | b :: p, 0, a, h, e => by
    cases e
    have := sum_nonneg fun c hc => h c (List.mem_cons_of_mem b hc)
    show 0 + b ≤ b + p.sum
    omega
  | b :: p, i + 1, a, h, e => by
    have := sum_take (i := i) (fun b hb => h b (List.mem_cons_of_mem _ hb)) (by simpa using e)
    show b + (p.take i).sum + a ≤ b + p.sum
    omega
  | [], _, _, _, e => by simp at e
/-- numbers over one bottom -/
theorem common {s : Nat} : ∀ (F : List FRow), (∀ x ∈ F, sz s x.2) → ∃ d, 0 < d ∧ d ≤ 2 ^ (s * F.length) ∧ fbF d (2 ^ (s * F.length)) F
  | [], _ => ⟨1, by omega, Nat.one_le_two_pow, fun _ h => by cases h⟩
  | x :: F, h => by
    obtain ⟨d, h0, h1, h2⟩ := common F fun y hy => h y (List.mem_cons_of_mem _ hy)
    obtain ⟨n1, n2⟩ := h x List.mem_cons_self
    have e : 2 ^ (s * (x :: F).length) = 2 ^ s * 2 ^ (s * F.length) := by rw [List.length_cons, Nat.mul_succ, Nat.pow_add, Nat.mul_comm]
    refine ⟨x.2.den * d, Nat.mul_pos x.2.den_pos h0, by rw [e]; exact Nat.mul_le_mul (by omega) h1, ?_⟩
    intro y hy
    rcases List.mem_cons.mp hy with rfl | hy
    · have q : fb y.2.den y.2.num.natAbs y.2 := by
        have := fb.divInt (a := 1) (b := y.2.den) (d := y.2.den) (z := y.2.num) (M := y.2.num.natAbs) y.2.den_pos (Nat.mul_one _) y.2.den_pos (by rw [Nat.mul_one]; exact Nat.le_refl _)
        rwa [Rat.num_divInt_den] at this
      exact (q.lift d h0).mono (by rw [e]; exact Nat.mul_le_mul (by omega) h1)
    · have q := (h2 y hy).lift x.2.den x.2.den_pos
      rw [Nat.mul_comm d] at q
      exact q.mono (by rw [e, Nat.mul_comm]; exact Nat.mul_le_mul (by omega) (Nat.le_refl _))
theorem eqvAll_ints : ∀ p q : List Int, PyData.eqvAll (D.pys (p.map D.int)) (D.pys (q.map D.int)) = decide (p = q)
  | [], [] => rfl
  | [], _ :: _ => rfl
  | _ :: _, [] => rfl
  | a :: p, b :: q => by
    have e : PyData.eqvAll (D.pys ((a :: p).map D.int)) (D.pys ((b :: q).map D.int)) = ((D.int a).eqv (.int b) && PyData.eqvAll (D.pys (p.map D.int)) (D.pys (q.map D.int))) := rfl
    rw [e, eqvAll_ints p q, Ow.eqv_int, Bool.eq_iff_iff]
    simp
theorem eqv_pw (p q : List Int) : (pwD p).eqv (pwD q) = decide (p = q) := eqvAll_ints p q
theorem dat_pw (p : List Int) (n : Nat) : (pwD p).dat (n + 1) = true := List.all_eq_true.mpr fun d hd => by
  obtain ⟨x, _, rfl⟩ := List.mem_map.mp hd
  cases n <;> rfl
theorem dat_pws (L : List (List Int)) (n : Nat) : (D.lst (L.map pwD)).dat (n + 2) = true := List.all_eq_true.mpr fun d hd => by
  obtain ⟨x, _, rfl⟩ := List.mem_map.mp hd
  exact dat_pw x n
theorem pw_in (p : List Int) (L : List (List Int)) : dIn (pwD p) (.lst (L.map pwD)) = some (.bl (decide (p ∈ L))) := by
  show (if _ then _ else _) = _
  rw [if_pos ⟨dat_pw p 63, dat_pws L 62⟩, List.any_map]
  congr 2
  rw [Bool.eq_iff_iff, List.any_eq_true, decide_eq_true_eq]
  constructor
  · rintro ⟨y, hy, e⟩
    have e : (pwD y).eqv (pwD p) = true := e
    rw [eqv_pw, decide_eq_true_eq] at e
    exact e ▸ hy
  · intro h
    exact ⟨p, h, by show (pwD p).eqv (pwD p) = true; rw [eqv_pw]; exact decide_eq_true rfl⟩
theorem pw_notin (p : List Int) (L : List (List Int)) : dNotIn (pwD p) (.lst (L.map pwD)) = some (.bl (!decide (p ∈ L))) := by
  unfold dNotIn
  rw [pw_in]
  rfl
theorem dat_fo (F : List FRow) (n : Nat) : (foD F).dat (n + 4) = true := List.all_eq_true.mpr fun d hd => by
  obtain ⟨x, _, rfl⟩ := List.mem_map.mp hd
  refine List.all_eq_true.mpr fun d hd => ?_
  simp only [List.mem_cons, List.not_mem_nil, or_false] at hd
  rcases hd with rfl | rfl
  · exact dat_pw x.1 (n + 1)
  · refine List.all_eq_true.mpr fun d hd => ?_
    simp only [List.mem_cons, List.not_mem_nil, or_false] at hd
    rcases hd with rfl | rfl <;> rfl
/-- one more at a place -/
theorem sum_set : ∀ {p : List Int} {j : Nat} {a : Int}, p[j]? = some a → (p.set j (a + 1)).sum = p.sum + 1
  | b :: p, 0, a, h => by
    cases h
    show (b + 1) + p.sum = b + p.sum + 1
    omega
  | b :: p, j + 1, a, h => by
    show b + (p.set j (a + 1)).sum = b + p.sum + 1
    rw [sum_set (by simpa using h)]; omega
  | [], _, _, h => by simp at h
theorem Pw.set {n k j : Nat} {p : List Int} {a : Int} (h : Pw n k p) (e : p[j]? = some a) : Pw n (k + 1) (p.set j (a + 1)) := by
  refine ⟨by rw [List.length_set]; exact h.1, fun b hb => ?_, ?_⟩
  · rcases List.mem_or_eq_of_mem_set hb with hb | rfl
    · exact h.2.1 b hb
    · have := h.2.1 a (List.mem_of_getElem? e); omega
  · rw [sum_set e]; have := h.2.2; omega
theorem Pw.mono {n k l : Nat} {p : List Int} (h : Pw n k p) (hl : k ≤ l) : Pw n l p := ⟨h.1, h.2.1, by have := h.2.2; omega⟩
theorem Pw.zero (n : Nat) : Pw n 0 (List.replicate n 0) := by
  refine ⟨List.length_replicate, fun a ha => by rw [(List.mem_replicate.mp ha).2]; exact Int.le_refl 0, ?_⟩
  have : ∀ n : Nat, (List.replicate n (0 : Int)).sum = 0 := fun n => by
    induction n with
    | zero => rfl
    | succ n ih => rw [List.replicate_succ, List.sum_cons, ih]; rfl
  rw [this]; omega
def nkP (kind : Int) (r : Rat) : Prop := sz 11 r ∧ (kind = 0 → sz 3 r ∧ r.den = 1) ∧ (kind = 1 → sz 4 r) ∧ (kind = 3 → (r = -1 ∨ r = 0 ∨ r = 1))
/-- a form as it is drawn -/
structure FDr (n rows deg : Nat) (kind : Int) (F : List FRow) : Prop where
  pw : keyP (Pw n deg) F
  nz : ∀ x ∈ F, x.2 ≠ 0
  nk : ∀ x ∈ F, nkP kind x.2
  nd : (keysF F).Nodup
  len : F.length ≤ rows
theorem FDr.perm {n rows deg : Nat} {kind : Int} {F G : List FRow} (h : FDr n rows deg kind F) (p : G.Perm F) : FDr n rows deg kind G :=
  ⟨fun x hx => h.pw x (p.mem_iff.mp hx), fun x hx => h.nz x (p.mem_iff.mp hx), fun x hx => h.nk x (p.mem_iff.mp hx), (List.Perm.nodup_iff (List.Perm.map (fun x : FRow => x.1) p)).mpr h.nd, by rw [p.length_eq]; exact h.len⟩
theorem fl2P (p : List Int) (σ : List D) : flat2 (.ok (pwD p) σ) = .ok (pwD p) σ := flat2_o (flat_pw p)
theorem plain.pw {p : List Int} (h : p.length ≤ 10000) (n : Nat) : plain (n + 1) (pwD p) := ⟨by rw [List.length_map]; exact h, fun d hd => by
  obtain ⟨x, _, rfl⟩ := List.mem_map.mp hd
  exact plain.int x⟩
theorem fb_1 : fb 1 1 (1 : Rat) := ⟨by omega, 1, by decide +kernel, by decide⟩
theorem dCat_ll {a b : List D} (h : a.length + b.length ≤ 10000) : dCat (.lst a) (.lst b) = some (.lst (a ++ b)) := if_pos (by rw [sizeLine_eq]; omega)
theorem repT_0 {n : Nat} (h : 0 < n) (h2 : n ≤ 1000) : dRepT (.tup [.int 0]) (.int n) = some (pwD (List.replicate n 0)) := by
  have e : (List.replicate n [D.int 0]).flatten = (List.replicate n (0 : Int)).map D.int := by
    rw [List.map_replicate]
    clear h h2
    induction n with
    | zero => rfl
    | succ n ih => rw [List.replicate_succ, List.flatten_cons, ih]; rfl
  show (if _ then _ else _) = _
  rw [if_pos ⟨rfl, by simp, by omega, by omega, by simp⟩, Int.toNat_natCast, e]
  rfl
theorem leF_tr (a b c : FRow) (h1 : leF a b = true) (h2 : leF b c = true) : leF a c = true := by
  unfold leF at *
  simp only [Bool.not_eq_true'] at *
  exact lex_tr _ _ _ h1 h2
theorem leF_tot (a b : FRow) : (leF a b || leF b a) = true := by
  unfold leF
  cases h : HT.lexLt (kyF b) (kyF a) with
  | false => rfl
  | true => rw [lex_asym _ _ h]; rfl
theorem sortF_pw (F : List FRow) : (sortF F).Pairwise fun x y => leF x y = true := List.pairwise_mergeSort leF_tr leF_tot F
end Ow


namespace Ow
open PySem PySem.Spec PySem.SeqAt PyProof.Rows L2
end Ow


namespace Ow
open PySem PySem.Spec PySem.SeqAt PyProof.Rows L2
end Ow


namespace Ow
open PySem PySem.Spec PySem.SeqAt PyProof.Rows L2
def mS (x : Nat → Rat) : Nat → (Nat → Rat) → Nat → Rat
  | 0, acc => acc
  | k + 1, acc => cv (mS x k acc) x
def mSer : List Int → List (Nat → Rat) → (Nat → Rat) → Nat → Rat
  | a :: p, x :: xs, acc => mSer p xs (mS x a.toNat acc)
  | _, _, acc => acc
def one0 (n : Nat) : Rat := if n = 0 then 1 else 0
/-- a form of series -/
def foS (F : List FRow) (xs : List (Nat → Rat)) (n : Nat) : Rat := wS (fun p => mSer p xs one0 n) F
/-- the series of a system -/
def Sys (Fs : List (List FRow)) (st : List Rat) (X : Nat → Nat → Rat) : Prop := (∀ i, i < Fs.length → X i 0 = st.getD i 0) ∧ ∀ i k, i < Fs.length → X i (k + 1) = foS (Fs.getD i []) ((List.range Fs.length).map X) k / (((k + 1 : Nat) : Int) : Rat)
theorem mS_gr {P E R S : Nat} {n0 : Nat} {x : Nat → Rat} (hn : n0 ≤ 16) (hx : ∀ n, n < n0 → fb (P ^ n * E) (R ^ n * S) (x n)) (hP : 0 < P) (hE : 0 < E) : ∀ (k t : Nat) (f : Nat → Rat), (∀ n, n < n0 → fb (P ^ n * E ^ t) (R ^ n * (16 * S) ^ t) (f n)) → ∀ n, n < n0 → fb (P ^ n * E ^ (t + k)) (R ^ n * (16 * S) ^ (t + k)) (mS x k f n)
  | 0, t, f, hf, n, h => hf n h
  | k + 1, t, f, hf, n, h => by
    have ih := mS_gr hn hx hP hE k t f hf
    show fb _ _ (sumF (fun i => mS x k f i * x (n - i)) (n + 1))
    have e : ∀ i, i < n + 1 → fb (P ^ n * E ^ (t + (k + 1))) (R ^ n * (16 * S) ^ (t + k) * S) (mS x k f i * x (n - i)) := fun i hi => by
      have := (ih i (by omega)).mul (hx (n - i) (by omega))
      have e1 : P ^ n = P ^ i * P ^ (n - i) := by rw [← Nat.pow_add, show i + (n - i) = n by omega]
      have e2 : R ^ n = R ^ i * R ^ (n - i) := by rw [← Nat.pow_add, show i + (n - i) = n by omega]
      have d : P ^ n * E ^ (t + (k + 1)) = P ^ i * E ^ (t + k) * (P ^ (n - i) * E) := by rw [e1, ← Nat.add_assoc, Nat.pow_succ]; grind
      have m : R ^ n * (16 * S) ^ (t + k) * S = R ^ i * (16 * S) ^ (t + k) * (R ^ (n - i) * S) := by rw [e2]; grind
      rw [d, m]
      exact this
    refine (fb.sum (Nat.mul_pos (Nat.pow_pos hP) (Nat.pow_pos hE)) (n + 1) e).mono ?_
    have : (n + 1) * (R ^ n * (16 * S) ^ (t + k) * S) ≤ 16 * (R ^ n * (16 * S) ^ (t + k) * S) := Nat.mul_le_mul (by omega) (Nat.le_refl _)
    refine Nat.le_trans this (Nat.le_of_eq ?_)
    rw [← Nat.add_assoc, Nat.pow_succ]
    grind
theorem mSer_gr {P E R S g n0 : Nat} (hn : n0 ≤ 16) (hP : 0 < P) (hE : 0 < E) (hES : E ≤ S) : ∀ {p : List Int} {xs : List (Nat → Rat)} {t : Nat} {f : Nat → Rat}, (∀ x ∈ xs, ∀ n, n < n0 → fb (P ^ n * E) (R ^ n * S) (x n)) → (∀ n, n < n0 → fb (P ^ n * E ^ t) (R ^ n * (16 * S) ^ t) (f n)) → (∀ a ∈ p, 0 ≤ a) → p.sum + t ≤ g → ∀ n, n < n0 → fb (P ^ n * E ^ g) (R ^ n * (16 * S) ^ g) (mSer p xs f n) := by
  have base : ∀ {t : Nat} {f : Nat → Rat}, (∀ n, n < n0 → fb (P ^ n * E ^ t) (R ^ n * (16 * S) ^ t) (f n)) → t ≤ g → ∀ n, n < n0 → fb (P ^ n * E ^ g) (R ^ n * (16 * S) ^ g) (f n) := fun {t f} hf ht n h => by
    refine (hf n h).up (e := E ^ (g - t)) (Nat.pow_pos hE) ?_ ?_
    · have : E ^ (g - t) ≤ (16 * S) ^ (g - t) := Nat.pow_le_pow_left (by omega) _
      refine Nat.le_trans (Nat.mul_le_mul (Nat.le_refl _) this) (Nat.le_of_eq ?_)
      rw [Nat.mul_assoc, ← Nat.pow_add, show t + (g - t) = g by omega]
    · rw [Nat.mul_assoc, ← Nat.pow_add, show t + (g - t) = g by omega]
  intro p
  induction p with
  | nil =>
      intro xs t f hx hf _ hs n h
      have hs : (0 : Int) + t ≤ g := hs
      show fb _ _ (f n)
      exact base hf (by omega) n h
  | cons a p ih =>
      intro xs t f hx hf hp hs n h
      have a0 := hp a List.mem_cons_self
      have p0 := sum_nonneg fun b hb => hp b (List.mem_cons_of_mem a hb)
      have hs : a + p.sum + t ≤ g := hs
      cases xs with
      | nil => exact base hf (by omega) n h
      | cons x xs => exact ih (fun y hy => hx y (List.mem_cons_of_mem _ hy)) (mS_gr hn (hx x List.mem_cons_self) hP hE a.toNat t f hf) (fun b hb => hp b (List.mem_cons_of_mem a hb)) (by omega) n h
theorem one0_gr {P E R S n0 : Nat} (hP : 0 < P) : ∀ n, n < n0 → fb (P ^ n * E ^ 0) (R ^ n * (16 * S) ^ 0) (one0 n) := fun n _ => by
  unfold one0
  split
  · rename_i h
    subst h
    exact fb_1.cast (by simp) (by simp)
  · exact (fb.zero (Nat.mul_pos (Nat.pow_pos hP) (by simp))).mono (Nat.zero_le _)
theorem wS_take {F : List FRow} {i : Nat} {x : FRow} {φ : List Int → Rat} (h : F[i]? = some x) : wS φ (F.take (i + 1)) = wS φ (F.take i) + x.2 * φ x.1 := by
  rw [take_at h, wS_append]
  show _ + (x.2 * φ x.1 + 0) = _
  grind
theorem fb_wS {d e M N : Nat} {F : List FRow} {φ : List Int → Rat} (hd : 0 < d) (he : 0 < e) (hf : fbF d M F) (h : ∀ x ∈ F, fb e N (φ x.1)) : ∀ i, i ≤ F.length → fb (d * e) (i * (M * N)) (wS φ (F.take i)) := by
  intro i
  induction i with
  | zero =>
    intro _
    rw [Nat.zero_mul]
    exact fb.zero (Nat.mul_pos hd he)
  | succ i ih =>
    intro hi
    have e : F[i]? = some F[i] := List.getElem?_eq_getElem (by omega)
    have hm := List.mem_of_getElem? e
    rw [wS_take e, Nat.succ_mul]
    exact (ih (by omega)).add ((hf _ hm).mul (h _ hm))
theorem fb_div {d N k c : Nat} {r : Rat} (h : fb d N r) (hk : 0 < k) (hc : 0 < c) : fb (d * (k * c)) (N * c) (r / ((k : Int) : Rat)) := by
  obtain ⟨d0, z, e, hz⟩ := h
  refine ⟨Nat.mul_pos d0 (Nat.mul_pos hk hc), z * c, ?_, ?_⟩
  · have k0 : ((k : Int) : Rat) ≠ 0 := cast_pos_ne hk
    rw [cast_mul, cast_mul, Rat.intCast_mul, ← e]
    have q : r / ((k : Int) : Rat) * ((k : Int) : Rat) = r := Rat.div_mul_cancel k0
    grind
  · rw [Int.natAbs_mul, Int.natAbs_natCast]
    exact Nat.mul_le_mul hz (Nat.le_refl _)
/-- a system's numbers: letters n, degree g, rows l, over D and E -/
structure SysB (g l D M E S : Nat) (Fs : List (List FRow)) (st : List Rat) : Prop where
  g0 : 0 < g
  D0 : 0 < D
  E0 : 0 < E
  S0 : E ≤ S
  pw : ∀ F ∈ Fs, keyP (Pw Fs.length g) F
  len : ∀ F ∈ Fs, F.length ≤ l
  cf : ∀ F ∈ Fs, fbF D M F
  bg : ∀ i, i < Fs.length → Ow.fb E S (st.getD i 0)
def sysP (g D E : Nat) : Nat := QQ * D * E ^ (g - 1)
def sysR (g l M S : Nat) : Nat := QQ * l * M * (16 * S) ^ g
theorem SysB.gr {g l D M E S : Nat} {Fs : List (List FRow)} {st : List Rat} (h : SysB g l D M E S Fs st) {X : Nat → Nat → Rat} (hX : Sys Fs st X) : ∀ n0, n0 ≤ 16 → ∀ n, n < n0 → ∀ i, i < Fs.length → fb (sysP g D E ^ n * E) (sysR g l M S ^ n * S) (X i n) := by
  have P0 : 0 < sysP g D E := Nat.mul_pos (Nat.mul_pos (by decide) h.D0) (Nat.pow_pos h.E0)
  intro n0
  induction n0 with
  | zero => intro _ n hn; omega
  | succ n0 ih =>
    intro h16 n hn i hi
    by_cases e : n < n0
    · exact ih (by omega) n e i hi
    have e : n = n0 := by omega
    subst e
    cases n with
    | zero =>
      rw [hX.1 i hi]
      exact (h.bg i hi).cast (by simp) (by simp)
    | succ n =>
      rw [hX.2 i n hi]
      have hF : Fs.getD i [] ∈ Fs := by
        rw [List.getD_eq_getElem?_getD, List.getElem?_eq_getElem hi]
        exact List.getElem_mem hi
      have hxs : ∀ x ∈ (List.range Fs.length).map X, ∀ k, k < n + 1 → fb (sysP g D E ^ k * E) (sysR g l M S ^ k * S) (x k) := fun x hx k hk => by
        obtain ⟨j, hj, rfl⟩ := List.mem_map.mp hx
        exact ih (by omega) k hk j (List.mem_range.mp hj)
      have a := fb_wS (φ := fun p => mSer p ((List.range Fs.length).map X) one0 n) h.D0 (Nat.mul_pos (Nat.pow_pos P0) (Nat.pow_pos h.E0)) (h.cf _ hF) (fun x hx => mSer_gr (g := g) (t := 0) (f := one0) (n0 := n + 1) (by omega) P0 h.E0 h.S0 hxs (one0_gr P0) (h.pw _ hF x hx).2.1 (by have := (h.pw _ hF x hx).2.2; omega) n (by omega)) _ (Nat.le_refl _)
      rw [List.take_length] at a
      obtain ⟨c, hc, c0⟩ := QQ_dvd (k := n + 1) (by omega) (by omega)
      have b := fb_div a (show 0 < n + 1 by omega) c0
      rw [← hc] at b
      refine (b.cast (d' := sysP g D E ^ (n + 1) * E) ?_ rfl).mono ?_
      · have eg : E ^ g = E ^ (g - 1) * E := by rw [← Nat.pow_succ]; congr 1; have := h.g0; omega
        rw [Nat.pow_succ, eg]
        show D * (sysP g D E ^ n * (E ^ (g - 1) * E)) * QQ = sysP g D E ^ n * (QQ * D * E ^ (g - 1)) * E
        grind
      · have cq : c ≤ QQ := by rw [hc]; exact Nat.le_mul_of_pos_left c (by omega)
        have s1 : 1 ≤ S := Nat.le_trans h.E0 h.S0
        have r1 : (Fs.getD i []).length * (M * (sysR g l M S ^ n * (16 * S) ^ g)) * c ≤ l * (M * (sysR g l M S ^ n * (16 * S) ^ g)) * QQ := Nat.mul_le_mul (Nat.mul_le_mul (h.len _ hF) (Nat.le_refl _)) cq
        refine Nat.le_trans r1 ?_
        have r2 : l * (M * (sysR g l M S ^ n * (16 * S) ^ g)) * QQ = sysR g l M S ^ (n + 1) := by
          rw [Nat.pow_succ]
          show _ = sysR g l M S ^ n * (QQ * l * M * (16 * S) ^ g)
          grind
        rw [r2]
        exact Nat.le_mul_of_pos_right _ s1
structure FaB (g l D M E S P R s many : Nat) (F : List FRow) (xs : List (Nat → Rat)) : Prop where
  m0 : 0 < many
  m16 : many ≤ 16
  P0 : 0 < P
  D0 : 0 < D
  E0 : 0 < E
  M0 : 0 < M
  S0 : E ≤ S
  pw : keyP (Pw xs.length g) F
  len : F.length ≤ l
  cf : fbF D M F
  gx : ∀ x ∈ xs, ∀ n, n < many → fb (P ^ n * E) (R ^ n * S) (x n)
  g1 : g ≤ 100
  n1 : xs.length ≤ 500
  l1 : l ≤ 500
  s0 : 0 < s
  s1 : s ≤ 2900
  b1 : ∀ n, n < many → D * (P ^ n * E ^ (g + 1)) < 2 ^ s
  b2 : ∀ n, n < many → (l + 1) * (M * (16 * (R ^ n * (16 * S) ^ (g + 1)))) < 2 ^ s
section
variable {g l D M E S P R s many : Nat} {F : List FRow} {xs : List (Nat → Rat)}
theorem FaB.lo (z : FaB g l D M E S P R s many F xs) {n : Nat} (h : n < many) : D * (P ^ n * E ^ g) < 2 ^ s ∧ P ^ n * E ^ g < 2 ^ s ∧ P ^ n * E ^ g * E < 2 ^ s := by
  have a := z.b1 n h
  rw [Nat.pow_succ, ← Nat.mul_assoc (P ^ n)] at a
  have e1 := z.E0
  have d1 := z.D0
  have h1 : P ^ n * E ^ g ≤ P ^ n * E ^ g * E := Nat.le_mul_of_pos_right _ e1
  have h2 : P ^ n * E ^ g * E ≤ D * (P ^ n * E ^ g * E) := Nat.le_mul_of_pos_left _ d1
  have h3 : D * (P ^ n * E ^ g) ≤ D * (P ^ n * E ^ g * E) := Nat.mul_le_mul (Nat.le_refl _) h1
  omega
theorem FaB.hi (z : FaB g l D M E S P R s many F xs) {n : Nat} (h : n < many) : l * (M * (R ^ n * (16 * S) ^ g)) < 2 ^ s ∧ M * (R ^ n * (16 * S) ^ g) < 2 ^ s ∧ R ^ n * (16 * S) ^ g < 2 ^ s ∧ 16 * (R ^ n * (16 * S) ^ g * S) < 2 ^ s := by
  have a := z.b2 n h
  have s1 : 1 ≤ S := Nat.le_trans z.E0 z.S0
  have m1 := z.M0
  have h0 : R ^ n * (16 * S) ^ g * S ≤ R ^ n * (16 * S) ^ (g + 1) := by
    rw [Nat.pow_succ, ← Nat.mul_assoc]
    exact Nat.mul_le_mul (Nat.le_refl _) (by omega)
  have h1 : R ^ n * (16 * S) ^ g ≤ R ^ n * (16 * S) ^ g * S := Nat.le_mul_of_pos_right _ s1
  obtain ⟨Y, hY⟩ : ∃ Y, R ^ n * (16 * S) ^ (g + 1) = Y := ⟨_, rfl⟩
  obtain ⟨Z, hZ⟩ : ∃ Z, R ^ n * (16 * S) ^ g = Z := ⟨_, rfl⟩
  rw [hY] at a h0
  rw [hZ] at h0 h1 ⊢
  have k1 : 16 * Y ≤ M * (16 * Y) := Nat.le_mul_of_pos_left _ m1
  have k2 : M * (16 * Y) ≤ (l + 1) * (M * (16 * Y)) := Nat.le_mul_of_pos_left _ (Nat.succ_pos l)
  have k3 : M * Z ≤ M * (16 * Y) := Nat.mul_le_mul (Nat.le_refl _) (by omega)
  have k4 : l * (M * Z) ≤ (l + 1) * (M * (16 * Y)) := Nat.mul_le_mul (by omega) k3
  refine ⟨by omega, by omega, by omega, ?_⟩
  have : 16 * (Z * S) ≤ 16 * Y := Nat.mul_le_mul (Nat.le_refl _) h0
  omega
theorem FaB.xacc (z : FaB g l D M E S P R s many F xs) {q : List Int} (q0 : ∀ a ∈ q, 0 ≤ a) (q1 : q.sum ≤ g) : ∀ n, n < many → fb (P ^ n * E ^ g) (R ^ n * (16 * S) ^ g) (mSer q xs one0 n) :=
  mSer_gr (g := g) (t := 0) (f := one0) z.m16 z.P0 z.E0 z.S0 z.gx (one0_gr z.P0) q0 (by omega)
theorem FaB.acc (z : FaB g l D M E S P R s many F xs) {x : FRow} (hx : x ∈ F) {i : Nat} {a : Int} (ha : x.1[i]? = some a) {k : Nat} (hk : (k : Int) ≤ a) : ∀ n, n < many → fb (P ^ n * E ^ g) (R ^ n * (16 * S) ^ g) (mSer (x.1.take i ++ [(k : Int)]) xs one0 n) := by
  obtain ⟨p1, p2, p3⟩ := z.pw x hx
  refine z.xacc (fun b hb => ?_) ?_
  · rcases List.mem_append.mp hb with hb | hb
    · exact p2 b (List.mem_of_mem_take hb)
    · rw [List.mem_singleton.mp hb]; omega
  · have := sum_take p2 ha
    rw [List.sum_append]
    simp only [List.sum_cons, List.sum_nil]
    omega
theorem FaB.part (z : FaB g l D M E S P R s many F xs) {f y : Nat → Rat} (hf : ∀ n, n < many → fb (P ^ n * E ^ g) (R ^ n * (16 * S) ^ g) (f n)) (hy : y ∈ xs) {n j : Nat} (hn : n < many) (hj : j ≤ n) : sz s (pT (tl f many) (tl y many) n j) := by
  rw [pT_sum]
  have m16 := z.m16
  have e : ∀ i, i < j → fb (P ^ n * E ^ g * E) (R ^ n * (16 * S) ^ g * S) ((tl f many).getD i 0 * (tl y many).getD (n - i) 0) := fun i hi => by
    rw [tl_get (by omega), tl_get (by omega)]
    have := (hf i (by omega)).mul (z.gx y hy (n - i) (by omega))
    have e1 : P ^ n = P ^ i * P ^ (n - i) := by rw [← Nat.pow_add, show i + (n - i) = n by omega]
    have e2 : R ^ n = R ^ i * R ^ (n - i) := by rw [← Nat.pow_add, show i + (n - i) = n by omega]
    refine this.cast ?_ ?_
    · rw [e1]; grind
    · rw [e2]; grind
  have d0 : 0 < P ^ n * E ^ g * E := Nat.mul_pos (Nat.mul_pos (Nat.pow_pos z.P0) (Nat.pow_pos z.E0)) z.E0
  refine (fb.sum d0 j e).sz (z.lo hn).2.2 ?_
  have := (z.hi hn).2.2.2
  have : j * (R ^ n * (16 * S) ^ g * S) ≤ 16 * (R ^ n * (16 * S) ^ g * S) := Nat.mul_le_mul (by omega) (Nat.le_refl _)
  omega
theorem FaB.row (z : FaB g l D M E S P R s many F xs) {x : FRow} (hx : x ∈ F) {n : Nat} (h : n < many) : sz s x.2 ∧ sz s (mSer x.1 xs one0 n) ∧ sz s (x.2 * mSer x.1 xs one0 n) := by
  obtain ⟨p1, p2, p3⟩ := z.pw x hx
  have a := z.xacc p2 p3 n h
  obtain ⟨l1, l2, _⟩ := z.lo h
  obtain ⟨h1, h2, h3, _⟩ := z.hi h
  have pe : 0 < P ^ n * E ^ g := Nat.mul_pos (Nat.pow_pos z.P0) (Nat.pow_pos z.E0)
  refine ⟨?_, a.sz l2 h3, ((z.cf x hx).mul a).sz l1 h2⟩
  obtain ⟨l1', _, _⟩ := z.lo z.m0
  obtain ⟨_, h2', _, _⟩ := z.hi z.m0
  have e0 : 0 < P ^ 0 * E ^ g := Nat.mul_pos (Nat.pow_pos z.P0) (Nat.pow_pos z.E0)
  have r0 : 0 < R ^ 0 * (16 * S) ^ g := Nat.mul_pos (by simp) (Nat.pow_pos (by have := Nat.le_trans z.E0 z.S0; omega))
  refine (z.cf x hx).sz ?_ ?_
  · exact Nat.lt_of_le_of_lt (Nat.le_mul_of_pos_right _ e0) l1'
  · exact Nat.lt_of_le_of_lt (Nat.le_mul_of_pos_right _ r0) h2'
theorem FaB.sums (z : FaB g l D M E S P R s many F xs) {i n : Nat} (hi : i ≤ F.length) (h : n < many) : sz s (foS (F.take i) xs n) := by
  have pe : 0 < P ^ n * E ^ g := Nat.mul_pos (Nat.pow_pos z.P0) (Nat.pow_pos z.E0)
  have := fb_wS (φ := fun p => mSer p xs one0 n) z.D0 pe z.cf (fun x hx => z.xacc (z.pw x hx).2.1 (z.pw x hx).2.2 n h) i hi
  have ll := z.len
  exact this.sz (z.lo h).1 (Nat.lt_of_le_of_lt (Nat.mul_le_mul (by omega) (Nat.le_refl _)) (z.hi h).1)
end
/-- all that a system's series ask -/
structure SysZ (g l C M E S s many : Nat) (Fs : List (List FRow)) (st : List Rat) : Prop where
  B : SysB g l C M E S Fs st
  m16 : many ≤ 16
  M0 : 0 < M
  g1 : g ≤ 100
  n1 : Fs.length ≤ 500
  l1 : l ≤ 500
  s0 : 0 < s
  s1 : s ≤ 2900
  b1 : ∀ n, n < many → C * (sysP g C E ^ n * E ^ (g + 1)) < 2 ^ s
  b2 : ∀ n, n < many → (l + 1) * (M * (16 * (sysR g l M S ^ n * (16 * S) ^ (g + 1)))) < 2 ^ s
theorem SysZ.fa {g l C M E S s many : Nat} {Fs : List (List FRow)} {st : List Rat} (z : SysZ g l C M E S s many Fs st) {X : Nat → Nat → Rat} (hX : Sys Fs st X) {k : Nat} (k0 : 0 < k) (hk : k ≤ many) {F : List FRow} (hF : F ∈ Fs) : FaB g l C M E S (sysP g C E) (sysR g l M S) s k F ((List.range Fs.length).map X) where
  m0 := k0
  m16 := Nat.le_trans hk z.m16
  P0 := Nat.mul_pos (Nat.mul_pos (by decide) z.B.D0) (Nat.pow_pos z.B.E0)
  D0 := z.B.D0
  E0 := z.B.E0
  M0 := z.M0
  S0 := z.B.S0
  pw := by rw [List.length_map, List.length_range]; exact z.B.pw F hF
  len := z.B.len F hF
  cf := z.B.cf F hF
  gx := fun x hx n hn => by
    obtain ⟨i, hi, rfl⟩ := List.mem_map.mp hx
    exact z.B.gr hX many z.m16 n (by omega) i (List.mem_range.mp hi)
  g1 := z.g1
  n1 := by rw [List.length_map, List.length_range]; exact z.n1
  l1 := z.l1
  s0 := z.s0
  s1 := z.s1
  b1 := fun n hn => z.b1 n (by omega)
  b2 := fun n hn => z.b2 n (by omega)
section
variable {g l C M E S P R s many : Nat} {F : List FRow} {xs : List (Nat → Rat)}
end
end Ow


namespace Ow
open PySem PySem.Spec PySem.SeqAt PyProof.Rows L2
/-- powers less one at a place -/
def onceP (p : List Int) (k : Nat) (a : Int) : List Int := p.take k ++ [a - 1] ++ p.drop (k + 1)
theorem onceP_set {p : List Int} {k : Nat} (h : k < p.length) (a : Int) : onceP p k a = p.set k (a - 1) := by
  unfold onceP
  apply List.ext_getElem
  · simp only [List.length_append, List.length_take, List.length_drop, List.length_set, List.length_cons, List.length_nil]; omega
  · intro i h1 h2
    rw [List.getElem_set]
    by_cases e : k = i
    · subst e
      rw [if_pos rfl, List.getElem_append_left (by simp; omega), List.getElem_append_right (by simp; omega)]
      simp [Nat.min_eq_left (Nat.le_of_lt h)]
    · rw [if_neg e]
      by_cases lt : i < k
      · rw [List.getElem_append_left (by simp; omega), List.getElem_append_left (by simp; omega), List.getElem_take]
      · rw [List.getElem_append_right (by simp; omega), List.getElem_drop]
        simp only [List.length_append, List.length_take, List.length_cons, List.length_nil]
        congr 1
        omega
theorem onceP_len {p : List Int} {k : Nat} (h : k < p.length) (a : Int) : (onceP p k a).length = p.length := by rw [onceP_set h, List.length_set]
theorem sum_put : ∀ {p : List Int} {k : Nat} (x : Int), k < p.length → (p.set k x).sum = p.sum - p.getD k 0 + x
  | [], _, _, h => absurd h (by simp)
  | a :: p, 0, x, _ => by simp; omega
  | a :: p, k + 1, x, h => by
    have := sum_put (p := p) (k := k) x (by simpa using h)
    simp only [List.set_cons_succ, List.sum_cons, this, List.getD_cons_succ]
    omega
theorem Pw.once {n g k : Nat} {p : List Int} {a : Int} (h : Pw n (g + 1) p) (hk : p[k]? = some a) (ha : 0 < a) : Pw n g (onceP p k a) := by
  have hl := (List.getElem?_eq_some_iff.mp hk).1
  have ea : p.getD k 0 = a := by rw [List.getD_eq_getElem?_getD, hk]; rfl
  refine ⟨by rw [onceP_len hl]; exact h.1, ?_, ?_⟩
  · rw [onceP_set hl]
    intro b hb
    rcases List.mem_or_eq_of_mem_set hb with hb | hb
    · exact h.2.1 b hb
    · omega
  · rw [onceP_set hl, sum_put _ hl, ea]
    have := h.2.2
    omega
theorem fbF.app {d M : Nat} {F G : List FRow} (h : fbF d M F) (h2 : fbF d M G) : fbF d M (F ++ G) := fun x hx => (List.mem_append.mp hx).elim (h x) (h2 x)
theorem fbF.mono {d M N : Nat} {F : List FRow} (h : fbF d M F) (hM : M ≤ N) : fbF d N F := fun x hx => (h x hx).mono hM
theorem fbF.lift {d M : Nat} (e : Nat) {F : List FRow} (h : fbF d M F) (he : 0 < e) : fbF (d * e) (M * e) F := fun x hx => (h x hx).lift e he
end Ow


namespace Ow
open PySem PySem.Spec PySem.SeqAt PyProof.Rows L2
end Ow


namespace Ow
open PySem PySem.Spec PySem.SeqAt PyProof.Rows L2
section
variable {n h : Nat} {xs : List (Nat → Rat)} {S : Nat → List FRow}
end
end Ow


namespace Ow
open PySem PySem.Spec PySem.SeqAt PyProof.Rows L2
end Ow


namespace Ow
open PySem PySem.Spec PySem.SeqAt PyProof.Rows L2
/-- a fault: of a start, of a gear's ratio, of a disc that slips -/
inductive Fl where
  | start (i : Nat) (q : Rat)
  | gear (i : Nat) (q : Rat)
  | slip (i : Nat) (q : Rat)
def Fl.word : Fl → Str
  | .start _ _ => "start"
  | .gear _ _ => "gear"
  | .slip _ _ => "slip"
def Fl.at : Fl → Nat
  | .start i _ => i
  | .gear i _ => i
  | .slip i _ => i
def Fl.num : Fl → Rat
  | .start _ q => q
  | .gear _ q => q
  | .slip _ q => q
def MRow.putS (q : Rat) : MRow → MRow
  | .source _ => .source q
  | .gear _ r k => .gear q r k
  | .adder _ a b => .adder q a b
  | .disc _ w k => .disc q w k
def MRow.putG (q : Rat) : MRow → MRow
  | .gear s _ k => .gear s q k
  | r => r
def flM (m : List MRow) : Fl → List MRow
  | .start i q => m.set i ((m.getD i default).putS q)
  | .gear i q => m.set i ((m.getD i default).putG q)
  | .slip i q => m.set i (.gear (m.getD i default).st q m.length) ++ [.disc 0 (m.getD i default).mid (m.getD i default).last]
/-- a row exchanged that is driven alike -/
theorem Mach.put {m : List MRow} (h : Mach m) {i : Nat} (hi : i < m.length) {r : MRow} (hd : r.drv = (m.getD i default).drv) (hs : r.isSrc = (m.getD i default).isSrc) (ht : ∀ t, (m.getD i default) = .source t → ∃ t', r = .source t') (hw : ∀ s w k, r = .disc s w k → ∃ s', m.getD i default = .disc s' w k) : Mach (m.set i r) := by
  have at' : ∀ (j : Nat) (x : MRow), (m.set i r)[j]? = some x → (j = i ∧ x = r) ∨ (j ≠ i ∧ m[j]? = some x) := fun j x e => by
    rw [List.getElem?_set] at e
    split at e
    · rename_i ej
      subst ej
      first
        | (cases e; exact .inl ⟨rfl, rfl⟩)
        | (rw [if_pos hi] at e; cases e; exact .inl ⟨rfl, rfl⟩)
    · rename_i ej
      exact .inr ⟨fun z => ej z.symm, e⟩
  have hm := h.at hi
  refine ⟨by rw [List.length_set]; exact h.pos, ?_, ?_, ?_⟩
  · obtain ⟨s, t, e1, e2⟩ := h.src
    by_cases e : s = i
    · subst e
      rw [hm] at e1
      obtain ⟨t', rfl⟩ := ht t (Option.some.inj e1)
      refine ⟨s, t', List.getElem?_set_self hi, fun j x hj hx => ?_⟩
      rcases at' j x hj with ⟨rfl, rfl⟩ | ⟨ne, hj⟩
      · rfl
      · exact e2 j x hj hx
    · refine ⟨s, t, by rw [List.getElem?_set_ne (fun z => e z.symm)]; exact e1, fun j x hj hx => ?_⟩
      rcases at' j x hj with ⟨rfl, rfl⟩ | ⟨ne, hj⟩
      · exact e2 j _ hm (by rw [← hs]; exact hx)
      · exact e2 j x hj hx
  · obtain ⟨rk, hrk⟩ := h.rk
    refine ⟨rk, fun j x hj d hd' => ?_⟩
    rw [List.length_set]
    rcases at' j x hj with ⟨rfl, rfl⟩ | ⟨ne, hj⟩
    · exact hrk j _ hm d (by rw [← hd]; exact hd')
    · exact hrk j x hj d hd'
  · intro j s w k hj
    rw [List.length_set]
    rcases at' j _ hj with ⟨rfl, e⟩ | ⟨ne, hj⟩
    · obtain ⟨s', e'⟩ := hw s w k e.symm
      exact h.whl j s' w k (by rw [hm, e'])
    · exact h.whl j s w k hj
/-- what the law's own walk comes to: a machine's turning, the shaft at sl but a share -/
structure Walk (m : List MRow) (sl : Int) (q : Rat) (T : Nat → Nat → Rat) : Prop where
  zero : ∀ i, i < m.length → T i 0 = (m.getD i default).st
  step : ∀ (i k : Nat), i < m.length → 0 < k → T i k = if (i : Int) = sl then q * rowF (m.getD i default) T k else rowF (m.getD i default) T k
theorem Turn.walk {m : List MRow} {T : Nat → Nat → Rat} (h : Turn m T) (q : Rat) : Walk m (-1) q T := ⟨h.zero, fun i k hi hk => by rw [if_neg (by omega)]; exact h.step i k hi hk⟩
theorem Turn.slip {m : List MRow} (hm : Mach m) {i : Nat} (hi : i < m.length) {s q : Rat} {w k : Nat} (e : m.getD i default = .disc s w k) {T : Nat → Nat → Rat} (h : Turn (flM m (.slip i q)) T) : Walk m i q T ∧ ∀ t, 0 < t → T m.length t = rowF (m.getD i default) T t := by
  have ll : (flM m (.slip i q)).length = m.length + 1 := by simp [flM]
  have ed : flM m (.slip i q) = m.set i (.gear s q m.length) ++ [.disc 0 w k] := by
    show m.set i (.gear (m.getD i default).st q m.length) ++ [.disc 0 (m.getD i default).mid (m.getD i default).last] = _
    rw [e]; rfl
  have gi : (flM m (.slip i q)).getD i default = .gear s q m.length := by
    rw [ed, List.getD_eq_getElem?_getD, List.getElem?_append_left (by rw [List.length_set]; exact hi), List.getElem?_set_self hi]; rfl
  have gn : (flM m (.slip i q)).getD m.length default = .disc 0 w k := by
    rw [ed, List.getD_eq_getElem?_getD, List.getElem?_append_right (by rw [List.length_set]; omega), List.length_set, Nat.sub_self]; rfl
  have go : ∀ j, j < m.length → j ≠ i → (flM m (.slip i q)).getD j default = m.getD j default := fun j hj ne => by
    rw [ed, List.getD_eq_getElem?_getD, List.getElem?_append_left (by rw [List.length_set]; exact hj), List.getElem?_set_ne ne.symm, List.getD_eq_getElem?_getD]
  have hn : ∀ t, 0 < t → T m.length t = rowF (m.getD i default) T t := fun t ht => by
    rw [h.step m.length t (by rw [ll]; omega) ht, gn, e]
    rfl
  refine ⟨⟨fun j hj => ?_, fun j t hj ht => ?_⟩, hn⟩
  · rw [h.zero j (by rw [ll]; omega)]
    by_cases ne : j = i
    · subst ne; rw [gi, e]; rfl
    · rw [go j hj ne]
  · rw [h.step j t (by rw [ll]; omega) ht]
    by_cases ne : j = i
    · subst ne
      rw [gi, if_pos rfl]
      show q * T m.length t = _
      rw [hn t ht]
    · rw [go j hj ne, if_neg (by omega)]
end Ow


namespace Ow
open PySem PySem.Spec PySem.SeqAt PyProof.Rows L2
def nP (N : Nat) (r : Rat) : Prop := r.num.natAbs ≤ N ∧ r.den ≤ N
theorem nP.mono {N M : Nat} {r : Rat} (h : nP N r) (hm : N ≤ M) : nP M r := ⟨Nat.le_trans h.1 hm, Nat.le_trans h.2 hm⟩
theorem nP.sz {N n : Nat} {r : Rat} (h : nP N r) (hn : N < 2 ^ n) : Ow.sz n r := ⟨Nat.lt_of_le_of_lt h.1 hn, Nat.lt_of_le_of_lt h.2 hn⟩
end Ow


namespace Ow
open PySem PySem.Spec PySem.SeqAt PyProof.Rows L2
end Ow


namespace Ow
open PySem PySem.Spec PySem.SeqAt PyProof.Rows L2
end Ow


namespace Ow
open PySem PySem.Spec PySem.SeqAt PyProof.Rows L2
section
variable {σ : List D}
end
end Ow


namespace Ow
open PySem PySem.Spec PySem.SeqAt PyProof.Rows L2
structure Wd (m : List MRow) : Prop where
  pos : 0 < m.length
  src : ∃ (s : Nat) (t : Rat), m[s]? = some (MRow.source t) ∧ ∀ (i : Nat) (r : MRow), m[i]? = some r → r.isSrc = true → i = s
  rng : ∀ (i : Nat) (r : MRow), m[i]? = some r → ∀ d ∈ r.drv, d < m.length
  whl : ∀ (i : Nat) (s : Rat) (w k : Nat), m[i]? = some (MRow.disc s w k) → w < m.length
theorem Wd.at {m : List MRow} (h : Wd m) {i : Nat} (hi : i < m.length) : m[i]? = some (m.getD i default) := by
  rw [List.getD_eq_getElem?_getD, List.getElem?_eq_getElem hi]; rfl
inductive Der (m : List MRow) : Nat → Prop
  | mk (i : Nat) (hi : i < m.length) (h : ∀ d ∈ drvs m i, Der m d) : Der m i
theorem Der.lt {m : List MRow} {i : Nat} (h : Der m i) : i < m.length := by cases h with | mk _ hi _ => exact hi
theorem Der.drv {m : List MRow} {i : Nat} (h : Der m i) : ∀ d ∈ drvs m i, Der m d := by cases h with | mk _ _ q => exact q
end Ow


namespace Ow
open PySem PySem.Spec PySem.SeqAt PyProof.Rows L2
section
variable {σ : List D}
end
structure Core where
  rows : List MRow
  stood : Nat → Rat
  sums : Nat → Rat
  outs : Nat → Bool
  lims : Nat → Option Rat × Option Rat
section
variable (c : Core) (p : List D)
end
def longB (r : Rat) : Bool := decide (10 ^ 60 ≤ r.num.natAbs) || decide (10 ^ 60 ≤ r.den)
def aboveB (a b : Rat) : Bool := decide (b.num * (a.den : Int) < a.num * (b.den : Int))
def beyondB (l : Option Rat × Option Rat) (x : Rat) : Bool := (match l.1 with
  | none => false
  | some a => aboveB a x) || (match l.2 with
  | none => false
  | some b => aboveB x b)
def Core.clicked (c : Core) (μ : Nat → Rat) : Core := { c with stood := fun i => c.stood i + μ i, sums := fun i => c.sums i + μ i }
end Ow


namespace Ow
open PySem PySem.Spec PySem.SeqAt PyProof.Rows L2
section
variable {σ : List D}
end
end Ow


namespace Ow
open PySem PySem.Spec PySem.SeqAt PyProof.Rows L2
section
variable {m : List MRow} {p : List Nat} {n : Nat}
theorem Wd.put (h : Wd m) {i : Nat} (hi : i < m.length) {r : MRow} (hs : r.isSrc = false) (hs0 : (m.getD i default).isSrc = false) (hd : ∀ d ∈ r.drv, d < m.length) (hw : ∀ s w k, r = .disc s w k → w < m.length) : Wd (m.set i r) := by
  have at_ : ∀ {j : Nat} {q : MRow}, (m.set i r)[j]? = some q → (j = i ∧ q = r) ∨ (j ≠ i ∧ m[j]? = some q) := fun {j q} e => by
    by_cases z : i = j
    · subst z
      rw [List.getElem?_set_self hi] at e
      exact .inl ⟨rfl, (Option.some.inj e).symm⟩
    · rw [List.getElem?_set_ne z] at e
      exact .inr ⟨Ne.symm z, e⟩
  refine ⟨by rw [List.length_set]; exact h.pos, ?_, fun j q e d hdq => ?_, fun j s w k e => ?_⟩
  · obtain ⟨s, t, e, u⟩ := h.src
    have ne : i ≠ s := fun z => by
      subst z
      have : m.getD i default = .source t := by rw [List.getD_eq_getElem?_getD, e]; rfl
      rw [this] at hs0; cases hs0
    refine ⟨s, t, by rw [List.getElem?_set_ne ne]; exact e, fun j q e2 hq => ?_⟩
    rcases at_ e2 with ⟨_, rfl⟩ | ⟨_, e3⟩
    · rw [hs] at hq; cases hq
    · exact u j q e3 hq
  · rw [List.length_set]
    rcases at_ e with ⟨_, rfl⟩ | ⟨_, e3⟩
    · exact hd d hdq
    · exact h.rng j q e3 d hdq
  · rw [List.length_set]
    rcases at_ e with ⟨_, e3⟩ | ⟨_, e3⟩
    · exact hw s w k e3.symm
    · exact h.whl j s w k e3
end
end Ow


namespace Ow
open PySem PySem.Spec PySem.SeqAt PyProof.Rows L2
theorem Wd.one {m : List MRow} (h : Wd m) : (m.filter MRow.isSrc).length = 1 := by
  obtain ⟨s, t, hs, hu⟩ := h.src
  exact one_such MRow.isSrc m s ⟨_, hs, rfl⟩ hu
end Ow


namespace Ow
open PySem PySem.Spec PySem.SeqAt PyProof.Rows L2
/-- bits above, bits below -/
def zd (n d : Nat) (r : Rat) : Prop := r.num.natAbs < 2 ^ n ∧ r.den < 2 ^ d
theorem sz.zd {n : Nat} {r : Rat} (h : sz n r) : zd n n r := h
theorem zd.mono {n d n' d' : Nat} {r : Rat} (h : zd n d r) (h1 : n ≤ n') (h2 : d ≤ d') : zd n' d' r := ⟨Nat.lt_of_lt_of_le h.1 (Nat.pow_le_pow_right (by omega) h1), Nat.lt_of_lt_of_le h.2 (Nat.pow_le_pow_right (by omega) h2)⟩
theorem fb.le {d M : Nat} {r : Rat} (h : fb d M r) : r.den ≤ d ∧ r.num.natAbs ≤ M := by
  obtain ⟨h1, z, e, hz⟩ := h
  have hd : ((d : Int) : Rat) ≠ 0 := fun q => by
    have : (d : Int) = 0 := Rat.intCast_inj.mp (by rw [q]; rfl)
    omega
  have er : r = Rat.divInt z d := by
    rw [Rat.divInt_eq_div, ← e]
    grind
  obtain ⟨a, b⟩ := den_le' z d (by omega)
  rw [er]
  exact ⟨by rw [Int.natAbs_natCast] at a; exact a, Nat.le_trans b hz⟩
/-- what a bench keeps is small; B: how far off the sums are from where all stand -/
structure BOK (B : Nat) (c : Core) : Prop where
  mach : Mach c.rows
  len : c.rows.length ≤ 12
  nums : ∀ r ∈ c.rows, ∀ x ∈ r.nums, sz 200 x
  std : ∀ i, i < c.rows.length → sz 200 (c.stood i)
  lim : ∀ i, i < c.rows.length → ∀ a, (c.lims i).1 = some a ∨ (c.lims i).2 = some a → sz 200 a
  off : ∃ o : Nat → Rat, (∀ i, i < c.rows.length → sz B (o i)) ∧ ∀ i, i < c.rows.length → c.sums i = c.stood i - o i
theorem BOK.sum {B : Nat} {c : Core} (h : BOK B c) {i : Nat} (hi : i < c.rows.length) : sz (200 + B + 1) (c.sums i) := by
  obtain ⟨o, h1, h2⟩ := h.off
  rw [h2 i hi]
  exact sz_sub (h.std i hi) (h1 i hi)
theorem not_long {x : Rat} (h : longB x = false) : sz 200 x := by
  unfold longB at h
  rw [Bool.or_eq_false_iff, decide_eq_false_iff_not, decide_eq_false_iff_not] at h
  have : (10 : Nat) ^ 60 ≤ 2 ^ 200 := by decide
  exact ⟨by omega, by omega⟩
theorem BOK.clicked {B : Nat} {c : Core} (h : BOK B c) {μ : Nat → Rat} (hl : ∀ i, i < c.rows.length → longB (c.stood i + μ i) = false) : BOK B (c.clicked μ) := by
  obtain ⟨o, h1, h2⟩ := h.off
  refine ⟨h.mach, h.len, h.nums, fun i hi => not_long (hl i hi), h.lim, o, h1, fun i hi => ?_⟩
  show c.sums i + μ i = c.stood i + μ i - o i
  rw [h2 i hi]
  grind
end Ow


namespace Ow
open PySem PySem.Spec PySem.SeqAt PyProof.Rows L2
section
variable {σ : List D}
end
def Core.setOut (c : Core) (i : Nat) (b : Bool) : Core := { c with outs := fun x => if x = i then b else c.outs x }
def Core.setStood (c : Core) (i : Nat) (q : Rat) : Core := { c with stood := fun x => if x = i then q else c.stood x }
def Core.setLim (c : Core) (i : Nat) (l : Option Rat × Option Rat) : Core := { c with lims := fun x => if x = i then l else c.lims x }
def Core.setRow (c : Core) (i : Nat) (r : MRow) : Core := { c with rows := c.rows.set i r }
section
variable (c : Core) (p : List D)
end
inductive Dd where
  | click (q : Rat) | out (i : Nat) | into (i : Nat) | put (i : Nat) (q : Rat) | gear (i : Nat) (q : Rat) | ends (i : Nat) (l : Option Rat × Option Rat)
/-- the first shaft that would stand beyond its ends -/
def stopAt (c : Core) (μ : Nat → Rat) : Option Nat := (List.range c.rows.length).find? fun i => beyondB (c.lims i) (c.stood i + μ i)
def tooFar (c : Core) (μ : Nat → Rat) : Bool := (List.range c.rows.length).any fun i => longB (c.stood i + μ i)
def stopR (i : Nat) : D := .tup [.str "Stopped", .int i]
def refR (x : Str) : D := .tup [.str x]
def toldR (d : D) : D := .tup [.str "told", d]
/-- what a deed brings: what is told, and the bench behind it where it was done -/
def run (c : Core) (μ : Nat → Rat) : Dd → D × Option Core
  | .click _ => match stopAt c μ with
    | some i => (stopR i, none)
    | none => if tooFar c μ = true then (refR "TooFar", none) else (toldR (encS (tl μ c.rows.length)), some (c.clicked μ))
  | .out i => if c.outs i = true then (refR "Held", none) else (toldR .non, some (c.setOut i true))
  | .into i => if c.outs i = true then (toldR .non, some (c.setOut i false)) else (refR "Held", none)
  | .put i q => if c.outs i = true then (if beyondB (c.lims i) q = true then (stopR i, none) else (toldR .non, some (c.setStood i q))) else (refR "Held", none)
  | .gear i q => match c.rows.getD i default with
    | .gear s _ d => (toldR .non, some (c.setRow i (.gear s q d)))
    | _ => (refR "NoGear", none)
  | .ends i l => if beyondB l (c.stood i) = true then (stopR i, none) else (toldR .non, some (c.setLim i l))
/-- a deed that can be said -/
def Dd.ok (c : Core) : Dd → Prop
  | .click q => sz 250 q
  | .out i => i < c.rows.length
  | .into i => i < c.rows.length
  | .put i q => i < c.rows.length ∧ sz 25 q
  | .gear i q => i < c.rows.length ∧ sz 200 q
  | .ends i l => i < c.rows.length ∧ ∀ a, l.1 = some a ∨ l.2 = some a → sz 200 a
end Ow


namespace Ow
open PySem PySem.Spec PySem.SeqAt PyProof.Rows L2
end Ow


namespace Ow
open PySem PySem.Spec PySem.SeqAt PyProof.Rows L2
/-- what drives a row, rising, each once -/
def sdr (r : MRow) : List Nat := match r.drv with
  | [a, b] => if a < b then [a, b] else if b < a then [b, a] else [a]
  | l => l
theorem sdr_mem (r : MRow) (x : Nat) : x ∈ sdr r ↔ x ∈ r.drv := by
  cases r with
  | adder s a b =>
    show x ∈ (if a < b then [a, b] else if b < a then [b, a] else [a]) ↔ x ∈ [a, b]
    split
    · exact Iff.rfl
    · split
      · simp [or_comm]
      · have : a = b := by omega
        subst this; simp
  | _ => exact Iff.rfl
/-- how many of a row's drives don't stand -/
def wtK (m : List MRow) (st : List Nat) (k : Nat) : Nat := ((sdr (m.getD k default)).filter fun d => !decide (d ∈ st)).length
/-- what a shaft drives -/
def bhK (m : List MRow) (d : Nat) : List Nat := (List.range m.length).filter fun k => decide (d ∈ drvs m k)
theorem mem_bhK {m : List MRow} {d k : Nat} : k ∈ bhK m d ↔ k < m.length ∧ d ∈ drvs m k := by
  unfold bhK
  rw [List.mem_filter, List.mem_range, decide_eq_true_eq]
theorem bhK_nd (m : List MRow) (d : Nat) : (bhK m d).Nodup := List.nodup_range.sublist List.filter_sublist
theorem wtK_0 {m : List MRow} {st : List Nat} {k : Nat} : wtK m st k = 0 ↔ ∀ d ∈ drvs m k, d ∈ st := by
  unfold wtK drvs
  rw [List.length_eq_zero_iff, List.filter_eq_nil_iff]
  constructor
  · intro h d hd
    have := h d ((sdr_mem _ d).mpr hd)
    simpa using this
  · intro h d hd
    simpa using h d ((sdr_mem _ d).mp hd)
/-- what may stand next -/
def RdyL (m : List MRow) (st R : List Nat) : Prop := R.Nodup ∧ ∀ x, x ∈ R ↔ x ∈ rdy m st
theorem RdyL.next {m : List MRow} {st R : List Nat} {s : Nat} (h : RdyL m st R) (hs : s ∈ rdy m st) (cl : ∀ i ∈ st, ∀ d ∈ drvs m i, d ∈ st) : RdyL m (st ++ [s]) (R.erase s ++ (bhK m s).filter fun k => decide (wtK m (st ++ [s]) k = 0)) := by
  obtain ⟨nd, mem⟩ := h
  obtain ⟨s1, s2, s3⟩ := mem_rdy.mp hs
  have mE : ∀ x, x ∈ R.erase s ↔ x ≠ s ∧ x ∈ R := fun x => nd.mem_erase_iff
  have mB : ∀ x, x ∈ ((bhK m s).filter fun k => decide (wtK m (st ++ [s]) k = 0)) ↔ x < m.length ∧ s ∈ drvs m x ∧ ∀ d ∈ drvs m x, d ∈ st ++ [s] := fun x => by
    rw [List.mem_filter, mem_bhK, decide_eq_true_eq, wtK_0]
    exact ⟨fun ⟨⟨a, b⟩, c⟩ => ⟨a, b, c⟩, fun ⟨a, b, c⟩ => ⟨⟨a, b⟩, c⟩⟩
  refine ⟨List.nodup_append.mpr ⟨nd.erase s, (bhK_nd m s).sublist List.filter_sublist, fun a ha b hb e => ?_⟩, fun x => ?_⟩
  · subst e
    have h1 := (mem a).mp ((mE a).mp ha).2
    have h2 := (mB a).mp hb
    exact s2 ((mem_rdy.mp h1).2.2 s h2.2.1)
  · rw [List.mem_append, mE, mB, mem_rdy]
    constructor
    · rintro (⟨a, b⟩ | ⟨a, b, c⟩)
      · obtain ⟨b1, b2, b3⟩ := mem_rdy.mp ((mem x).mp b)
        exact ⟨b1, by simp [b2, a], fun d hd => List.mem_append_left _ (b3 d hd)⟩
      · refine ⟨a, ?_, c⟩
        intro z
        rcases List.mem_append.mp z with z | z
        · exact s2 (cl x z s b)
        · rw [List.mem_singleton.mp z] at b
          exact s2 (s3 s b)
    · rintro ⟨a, b, c⟩
      by_cases z : s ∈ drvs m x
      · exact .inr ⟨a, z, c⟩
      · refine .inl ⟨fun e => b (by rw [e]; simp), (mem x).mpr (mem_rdy.mpr ⟨a, fun q => b (List.mem_append_left _ q), fun d hd => ?_⟩)⟩
        rcases List.mem_append.mp (c d hd) with q | q
        · exact q
        · rw [List.mem_singleton.mp q] at hd; exact absurd hd z
end Ow


namespace Ow
open PySem PySem.Spec PySem.SeqAt PyProof.Rows L2
end Ow


namespace Ow
open PySem PySem.Spec PySem.SeqAt PyProof.Rows L2
/-- the text of these signs -/
def tx (a : List Nat) : D := .str (SX.S a)
/-- signs that Python knows -/
def okT (a : List Nat) : Prop := ∀ c ∈ a, c < 1114112
theorem lcN {n : Nat} (h : n ≤ 10000) : n ≤ sizeLine := by rw [sizeLine_eq]; omega
theorem okT.ok {a : List Nat} (h : okT a) : PyData.strOk (SX.S a) = true := by
  show (SX.S a).cps.all (· < 0x110000) = true
  rw [← Array.all_toList]
  exact List.all_eq_true.mpr fun c hc => decide_eq_true (h c hc)
theorem okT.sub {a b : List Nat} (h : okT b) (s : ∀ c ∈ a, c ∈ b) : okT a := fun c hc => h c (s c hc)
theorem tx_cat {a b : List Nat} (h : a.length + b.length ≤ 10000) : dCatS (tx a) (tx b) = some (tx (a ++ b)) := by
  show (if (SX.S a).length + (SX.S b).length ≤ sizeLine then some (D.str (SX.S a ++ SX.S b)) else none) = _
  rw [SX.S_len, SX.S_len, if_pos (lcN h), SX.S_cat]
  rfl
/-- what stands ahead of a sign, the sign, what stands behind -/
def prt (c : Nat) (a : List Nat) : List Nat × List Nat × List Nat := match a with
  | [] => ([], [], [])
  | x :: l => if x = c then ([], [c], l) else (x :: (prt c l).1, (prt c l).2)
/-- a whole number's figures -/
def intL : Int → List Nat
  | .ofNat n => TL.numL n
  | .negSucc n => 45 :: TL.numL (n + 1)
theorem str_int (i : Int) : (Str.ofString (toString i)) = SX.S (intL i) := by
  cases i with
  | ofNat n => exact SX.num_S n
  | negSucc n =>
    refine TL.ext_tl ?_
    rw [TL.tl_ofString]
    have e := TL.tl_num (n + 1)
    rw [TL.tl_ofString] at e
    show (toString (Int.negSucc n)).toList.map Char.toNat = 45 :: TL.numL (n + 1)
    rw [← e]
    show ("-" ++ toString ((n + 1 : Nat) : Int)).toList.map Char.toNat = _
    rw [String.toList_append, List.map_append]
    rfl
theorem tx_int {i : Int} (h : i.natAbs.log2 < 1920) : fStrI [.int i] = some (tx (intL i)) := by
  show (if i.natAbs.log2 < 1920 then some (D.str (Str.ofString (toString i))) else none) = _
  rw [if_pos h, str_int]
  rfl
theorem intL_ok (i : Int) : ∀ c ∈ intL i, c = 45 ∨ 48 ≤ c ∧ c ≤ 57 := by
  cases i with
  | ofNat n => exact fun c hc => .inr (TL.numL_digits n c hc)
  | negSucc n => exact fun c hc => (List.mem_cons.mp hc).imp id fun h => TL.numL_digits (n + 1) c h
section
variable {σ : List D}
end
def dg (c : Nat) : Bool := decide (48 ≤ c ∧ c ≤ 57)
def figs (l : List Nat) : Bool := decide (1 ≤ l.length ∧ l.length ≤ 60) && l.all dg && (decide (l = [48]) || !decide (l.head? = some 48))
def figV (l : List Nat) : Int := ((PySem.NumText.digitsVal l : Nat) : Int)
def isNeg (top : List Nat) : Bool := decide (top.take 1 = [45])
def bare (top : List Nat) : List Nat := if isNeg top = true then top.drop 1 else top
/-- a number as a text -/
def showL (r : Rat) : List Nat := intL r.num ++ if r.den = 1 then [] else 47 :: TL.numL r.den
theorem intL_len {i : Int} (h : i.natAbs < 10 ^ 60) : (intL i).length ≤ 61 := by
  cases i with
  | ofNat n =>
    have := TL.numL_len (n := n) (k := 60) (by decide) h
    exact Nat.le_succ_of_le this
  | negSucc n =>
    have := TL.numL_len (n := n + 1) (k := 60) (by decide) h
    exact Nat.succ_le_succ this
theorem log_60 {n : Nat} (h : n < 10 ^ 60) : n.log2 < 1920 := by
  by_cases h0 : n = 0
  · subst h0; decide
  · exact (Nat.log2_lt h0).mpr (Nat.lt_of_lt_of_le h (by decide +kernel))
/-- what stands behind the top -/
def tailL (r : Rat) : List Nat := if r.den = 1 then [] else 47 :: TL.numL r.den
structure Shown (r : Rat) : Prop where
  f1 : fStrI [.int r.num] = some (tx (intL r.num))
  f2 : fStrI [.int (r.den : Int)] = some (tx (TL.numL r.den))
  c1 : dCatS (tx [47]) (tx (TL.numL r.den)) = some (tx (47 :: TL.numL r.den))
  pk : dIx (.lst [tx (47 :: TL.numL r.den), tx []]) (.int (if decide ((r.den : Int) = 1) = true then 1 else 0)) = some (tx (tailL r))
  c2 : dCatS (tx (intL r.num)) (tx (tailL r)) = some (tx (showL r))
theorem shown {r : Rat} (h1 : r.num.natAbs < 10 ^ 60) (h2 : r.den < 10 ^ 60) : Shown r := by
  have l1 := intL_len h1
  have l2 := TL.numL_len (n := r.den) (k := 60) (by decide) h2
  refine ⟨tx_int (log_60 h1), tx_int (i := (r.den : Int)) (log_60 h2), tx_cat (by simp; omega), ?_, ?_⟩
  · unfold tailL
    by_cases hd : r.den = 1
    · have hd2 : (r.den : Int) = 1 := by omega
      rw [if_pos (decide_eq_true hd2), if_pos hd]
      exact ix_lN (n := 1) rfl
    · have hd2 : ¬ (r.den : Int) = 1 := by omega
      rw [if_neg (by rw [decide_eq_false hd2]; decide), if_neg hd]
      exact ix_l0
  · refine tx_cat ?_
    unfold tailL
    split
    · simp; omega
    · simp; omega
end Ow


namespace Ow
open PySem PySem.Spec PySem.SeqAt PyProof.Rows L2
def ltr (w : List Nat) : List Nat × List Nat × List Nat := prt 94 (w.drop 1)
def kLtr (w : List Nat) : Int := figV (ltr w).1
def pwr (w : List Nat) : Int := if (ltr w).2.1 = [] then 1 else figV (ltr w).2.2
def okW (n : Nat) (last : Int) (w : List Nat) : Bool := decide (w.take 1 = [120]) && figs (ltr w).1 && (decide ((ltr w).2.1 = []) || figs (ltr w).2.2) && decide (last < kLtr w) && decide (kLtr w < n) && (decide ((ltr w).2.1 = []) || decide (2 ≤ pwr w))
def putW (w : List Nat) (st : Int × List Int) : Int × List Int := (kLtr w, st.2.set (kLtr w).toNat (pwr w))
structure LInv (n : Nat) (st : Int × List Int) : Prop where
  len : st.2.length = n
  lo : -1 ≤ st.1
  hi : st.1 < n
  zero : ∀ i : Nat, st.1 < i → st.2.getD i 0 = 0
  at_ : ∀ i : Nat, st.1 = i → st.2.getD i 0 ≠ 0
  nn : ∀ a ∈ st.2, 0 ≤ a
theorem figV_nn (l : List Nat) : 0 ≤ figV l := Int.natCast_nonneg _
theorem okW_parts {n : Nat} {last : Int} {w : List Nat} (h : okW n last w = true) : w.take 1 = [120] ∧ figs (ltr w).1 = true ∧ ((ltr w).2.1 = [] ∨ figs (ltr w).2.2 = true) ∧ last < kLtr w ∧ kLtr w < n ∧ ((ltr w).2.1 = [] ∨ 2 ≤ pwr w) := by
  unfold okW at h
  simp only [Bool.and_eq_true, Bool.or_eq_true, decide_eq_true_eq] at h
  exact ⟨h.1.1.1.1.1, h.1.1.1.1.2, h.1.1.1.2, h.1.1.2, h.1.2, h.2⟩
theorem pwr_pos {n : Nat} {last : Int} {w : List Nat} (h : okW n last w = true) : 1 ≤ pwr w := by
  obtain ⟨_, _, _, _, _, h6⟩ := okW_parts h
  rcases h6 with e | e
  · unfold pwr
    rw [if_pos e]
    decide
  · omega
theorem LInv.put {n : Nat} {st : Int × List Int} {w : List Nat} (v : LInv n st) (h : okW n st.1 w = true) : LInv n (putW w st) := by
  obtain ⟨_, _, _, h4, h5, _⟩ := okW_parts h
  have hp := pwr_pos h
  have k0 : 0 ≤ kLtr w := figV_nn _
  obtain ⟨k, hk⟩ : ∃ k : Nat, kLtr w = k := ⟨(kLtr w).toNat, by omega⟩
  have hl := v.len
  refine ⟨by unfold putW; rw [List.length_set]; exact hl, by show -1 ≤ kLtr w; omega, h5, fun i hi => ?_, fun i hi => ?_, fun a ha => ?_⟩
  · have hi : kLtr w < i := hi
    unfold putW
    dsimp only
    rw [hk, Int.toNat_natCast]
    have ne : k ≠ i := by omega
    rw [List.getD_eq_getElem?_getD, List.getElem?_set_ne ne, ← List.getD_eq_getElem?_getD]
    exact v.zero i (by omega)
  · have hi : kLtr w = i := hi
    unfold putW
    dsimp only
    rw [hi, Int.toNat_natCast, List.getD_eq_getElem?_getD, List.getElem?_set_self (by omega)]
    show pwr w ≠ 0
    omega
  · rcases List.mem_or_eq_of_mem_set ha with z | z
    · exact v.nn a z
    · omega
theorem LInv.start {n : Nat} (h : 0 < n) : LInv n (-1, List.replicate n 0) := by
  refine ⟨List.length_replicate, by show (-1 : Int) ≤ -1; omega, by show (-1 : Int) < n; omega, fun i _ => ?_, fun i hi => by have : (-1 : Int) = i := hi; omega, fun a ha => by rw [List.eq_of_mem_replicate ha]; decide⟩
  rw [List.getD_eq_getElem?_getD, List.getElem?_replicate]
  split <;> rfl
/-- all zero from a place on, just where the last one stands ahead -/
theorem LInv.any {n : Nat} {st : Int × List Int} (v : LInv n st) {k : Nat} (hk : k < n) : (st.2.drop k).any (fun a => a != 0) = !decide (st.1 < k) := by
  by_cases h : st.1 < k
  · rw [decide_eq_true h]
    show _ = false
    rw [List.any_eq_false]
    intro a ha
    obtain ⟨i, hi⟩ := List.getElem?_of_mem ha
    rw [List.getElem?_drop] at hi
    have := v.zero (k + i) (by omega)
    rw [List.getD_eq_getElem?_getD, hi] at this
    have : a = 0 := this
    rw [this]
    decide
  · rw [decide_eq_false h]
    show _ = true
    obtain ⟨m, hm⟩ : ∃ m : Nat, st.1 = m := ⟨st.1.toNat, by omega⟩
    have ne := v.at_ m hm
    have hlt : m < st.2.length := by have := v.hi; have := v.len; omega
    have e : st.2[m]? = some st.2[m] := List.getElem?_eq_getElem hlt
    rw [List.getD_eq_getElem?_getD, e] at ne
    have ne : st.2[m] ≠ 0 := ne
    refine List.any_eq_true.mpr ⟨st.2[m], ?_, by simpa using ne⟩
    refine List.mem_of_getElem? (i := m - k) ?_
    rw [List.getElem?_drop, show k + (m - k) = m by omega]
    exact e
/-- powers of up to sixty -/
def le60 (P : List Int) : Bool := P.all fun a => decide (a ≤ 60)
theorem forL_n {T : Tg} {G : List D → SO} {d : D} {ds σ σ1 σ2 : List D} (h : bindT T d σ = some σ1) (e : G σ1 = .nxt σ2) : forL T G (d :: ds) σ = forL T G ds σ2 := by
  rw [forL, h]
  dsimp only
  rw [e]
theorem forL_r {T : Tg} {G : List D → SO} {d v : D} {ds σ σ1 σ2 : List D} (h : bindT T d σ = some σ1) (e : G σ1 = .ret v σ2) : forL T G (d :: ds) σ = .ret v σ2 := by
  rw [forL, h]
  dsimp only
  rw [e]
end Ow


namespace Ow
open PySem PySem.Spec PySem.SeqAt PyProof.Rows L2
mutual
def D.shk : D → Bool
  | .non => true
  | .bl _ => true
  | .int i => decide (i.natAbs < 10 ^ 60)
  | .str x => PyData.strOk x && (PyData.strOk (reprText x) && decide ((reprText x).length ≤ 61))
  | .tup ds => D.shks ds
  | .lst ds => D.shks ds
  | .dK _ => false
  | .dT _ => false
  | .ins _ _ => false
  | .fzl _ => false
  | .exn _ _ => false
def D.shks : List D → Bool
  | [] => true
  | d :: ds => d.shk && D.shks ds
end
mutual
/-- the parts, one by one -/
def D.wt : D → Nat
  | .tup ds => 1 + D.wts ds
  | .lst ds => 1 + D.wts ds
  | .non => 1
  | .bl _ => 1
  | .int _ => 1
  | .str _ => 1
  | .dK _ => 1
  | .dT _ => 1
  | .ins _ _ => 1
  | .fzl _ => 1
  | .exn _ _ => 1
def D.wts : List D → Nat
  | [] => 0
  | d :: ds => d.wt + D.wts ds
end
theorem okS_app {a b : Str} (ha : PyData.strOk a = true) (hb : PyData.strOk b = true) : PyData.strOk (a ++ b) = true := by
  have ha : a.cps.all (· < 0x110000) = true := ha
  have hb : b.cps.all (· < 0x110000) = true := hb
  show (a ++ b).cps.all (· < 0x110000) = true
  rw [show (a ++ b).cps = a.cps ++ b.cps from rfl, Array.all_append, ha, hb]
  rfl
theorem len_app (a b : Str) : (a ++ b).length = a.length + b.length := by
  show (a.cps ++ b.cps).size = _
  rw [Array.size_append]
  rfl
/-- texts' lengths, each with its comma -/
def pile : List Str → Nat
  | [] => 0
  | t :: ts => t.length + 2 + pile ts
theorem from_ok : ∀ (ts : List Str) (k : Nat) (acc : Str), (∀ t ∈ ts, PyData.strOk t = true) → PyData.strOk acc = true → PyData.strOk (textFrom k acc ts) = true ∧ (textFrom k acc ts).length ≤ acc.length + pile ts
  | [], k, acc, _, ha => ⟨ha, Nat.le_add_right _ _⟩
  | t :: ts, k, acc, h, ha => by
    have com : PyData.strOk ((if k > 0 then ", " else "" : String) : Str) = true := by split <;> decide +kernel
    have comL : ((if k > 0 then ", " else "" : String) : Str).length ≤ 2 := by split <;> decide +kernel
    obtain ⟨e1, e2⟩ := from_ok ts (k + 1) (acc ++ (if k > 0 then ", " else "" : String) ++ t) (fun x hx => h x (List.mem_cons_of_mem _ hx)) (okS_app (okS_app ha com) (h t (List.mem_cons_self ..)))
    refine ⟨e1, Nat.le_trans e2 ?_⟩
    rw [len_app, len_app]
    show _ ≤ acc.length + (t.length + 2 + pile ts)
    omega
theorem join_ok : ∀ ts : List Str, (∀ t ∈ ts, PyData.strOk t = true) → PyData.strOk (Str.join ", " ts) = true ∧ (Str.join ", " ts).length ≤ pile ts
  | [], _ => ⟨by decide +kernel, Nat.le_refl _⟩
  | [t], h => ⟨h t (List.mem_cons_self ..), by show t.length ≤ t.length + 2 + 0; omega⟩
  | t :: u :: ts, h => by
    obtain ⟨e1, e2⟩ := join_ok (u :: ts) fun x hx => h x (List.mem_cons_of_mem _ hx)
    refine ⟨okS_app (okS_app (h t (List.mem_cons_self ..)) (by decide +kernel)) e1, ?_⟩
    show (t ++ ", " ++ Str.join ", " (u :: ts)).length ≤ t.length + 2 + pile (u :: ts)
    rw [len_app, len_app, show ((", " : String) : Str).length = 2 from by decide +kernel]
    omega
mutual
theorem shown_ok : ∀ d : D, d.shk = true → d.py.showable = true ∧ d.py.shown.length + 2 ≤ 66 * d.wt ∧ PyData.strOk d.py.shown = true
  | .non, _ => by rw [D.py]; exact ⟨rfl, by show ("None" : Str).length + 2 ≤ 66 * 1; decide +kernel, by decide +kernel⟩
  | .bl b, _ => by rw [D.py]; cases b <;> exact ⟨rfl, by decide +kernel, by decide +kernel⟩
  | .int i, h => by
    rw [D.py]
    have h : i.natAbs < 10 ^ 60 := of_decide_eq_true h
    have e : PyData.shown (.int i) = SX.S (intL i) := str_int i
    rw [e]
    refine ⟨decide_eq_true (log_60 h), ?_, okT.ok fun c hc => by rcases intL_ok i c hc with z | z <;> omega⟩
    rw [SX.S_len]
    have := intL_len h
    show _ ≤ 66 * 1
    omega
  | .str x, h => by
    rw [D.py]
    have h : (PyData.strOk x && (PyData.strOk (reprText x) && decide ((reprText x).length ≤ 61))) = true := h
    simp only [Bool.and_eq_true, decide_eq_true_eq] at h
    refine ⟨rfl, ?_, h.2.1⟩
    have := h.2.2
    show (reprText x).length + 2 ≤ 66 * 1
    omega
  | .tup ds, h => by
    rw [D.py]
    obtain ⟨e1, e2, e3⟩ := showns_ok ds h
    obtain ⟨j1, j2⟩ := join_ok _ e3
    refine ⟨e1, ?_, ?_⟩
    · show (("(" : Str) ++ Str.join ", " (PyData.shownAll (D.pys ds)) ++ (if (PyData.shownAll (D.pys ds)).length == 1 then ",)" else ")" : String)).length + 2 ≤ 66 * (1 + D.wts ds)
      have l1 : (("(" : String) : Str).length = 1 := by decide +kernel
      have l2 : ((if (PyData.shownAll (D.pys ds)).length == 1 then ",)" else ")" : String) : Str).length ≤ 2 := by split <;> decide +kernel
      rw [len_app, len_app, l1]
      omega
    · exact okS_app (okS_app (by decide +kernel) j1) (by split <;> decide +kernel)
  | .lst ds, h => by
    rw [D.py]
    obtain ⟨e1, e2, e3⟩ := showns_ok ds h
    obtain ⟨j1, j2⟩ := from_ok (PyData.shownAll (D.pys ds)) 0 "[" e3 (by decide +kernel)
    refine ⟨e1, ?_, okS_app j1 (by decide +kernel)⟩
    show (textFrom 0 "[" (PyData.shownAll (D.pys ds)) ++ "]").length + 2 ≤ 66 * (1 + D.wts ds)
    have l1 : (("[" : String) : Str).length = 1 := by decide +kernel
    have l2 : (("]" : String) : Str).length = 1 := by decide +kernel
    rw [len_app, l2]
    rw [l1] at j2
    omega
  | .dK _, h => by cases h
  | .dT _, h => by cases h
  | .ins _ _, h => by cases h
  | .fzl _, h => by cases h
  | .exn _ _, h => by cases h
theorem showns_ok : ∀ ds : List D, D.shks ds = true → PyData.showableAll (D.pys ds) = true ∧ pile (PyData.shownAll (D.pys ds)) ≤ 66 * D.wts ds ∧ ∀ t ∈ PyData.shownAll (D.pys ds), PyData.strOk t = true
  | [], _ => ⟨rfl, Nat.le_refl _, fun t h => by cases h⟩
  | d :: ds, h => by
    have h : (d.shk && D.shks ds) = true := h
    rw [Bool.and_eq_true] at h
    obtain ⟨a1, a2, a3⟩ := shown_ok d h.1
    obtain ⟨b1, b2, b3⟩ := showns_ok ds h.2
    refine ⟨?_, ?_, fun t ht => ?_⟩
    · show (d.py.showable && PyData.showableAll (D.pys ds)) = true
      rw [a1, b1]
      rfl
    · show d.py.shown.length + 2 + pile (PyData.shownAll (D.pys ds)) ≤ 66 * (d.wt + D.wts ds)
      omega
    · rcases List.mem_cons.mp (show t ∈ d.py.shown :: PyData.shownAll (D.pys ds) from ht) with rfl | ht
      · exact a3
      · exact b3 t ht
end
mutual
theorem shk_dat : ∀ (n : Nat) (d : D), d.shk = true → d.wt ≤ n → d.dat n = true
  | n, .non, _, _ => by cases n <;> rfl
  | n, .bl _, _, _ => by cases n <;> rfl
  | n, .int _, _, _ => by cases n <;> rfl
  | n, .str x, h, _ => by
    have h : (PyData.strOk x && (PyData.strOk (reprText x) && decide ((reprText x).length ≤ 61))) = true := h
    rw [Bool.and_eq_true] at h
    cases n <;> exact h.1
  | 0, .tup ds, h, w => by have w : 1 + D.wts ds ≤ 0 := w; omega
  | 0, .lst ds, h, w => by have w : 1 + D.wts ds ≤ 0 := w; omega
  | n + 1, .tup ds, h, w => by
    have w : 1 + D.wts ds ≤ n + 1 := w
    exact List.all_eq_true.mpr (shks_dat n ds h (by omega))
  | n + 1, .lst ds, h, w => by
    have w : 1 + D.wts ds ≤ n + 1 := w
    exact List.all_eq_true.mpr (shks_dat n ds h (by omega))
  | _, .dK _, h, _ => by cases h
  | _, .dT _, h, _ => by cases h
  | _, .ins _ _, h, _ => by cases h
  | _, .fzl _, h, _ => by cases h
  | _, .exn _ _, h, _ => by cases h
theorem shks_dat : ∀ (n : Nat) (ds : List D), D.shks ds = true → D.wts ds ≤ n → ∀ d ∈ ds, d.dat n = true
  | n, [], _, _, d, h => by cases h
  | n, e :: ds, h, w, d, hd => by
    have h : (e.shk && D.shks ds) = true := h
    rw [Bool.and_eq_true] at h
    have w : e.wt + D.wts ds ≤ n := w
    rcases List.mem_cons.mp hd with z | hd
    · rw [z]; exact shk_dat n e h.1 (by omega)
    · exact shks_dat n ds h.2 (by omega) d hd
end
theorem shks_iff : ∀ ds : List D, D.shks ds = true ↔ ∀ d ∈ ds, d.shk = true
  | [] => ⟨fun _ d h => (by cases h), fun _ => rfl⟩
  | e :: ds => by
    show (e.shk && D.shks ds) = true ↔ _
    rw [Bool.and_eq_true, shks_iff ds]
    exact ⟨fun h d hd => (List.mem_cons.mp hd).elim (fun z => z ▸ h.1) (h.2 d), fun h => ⟨h e (List.mem_cons_self ..), fun d hd => h d (List.mem_cons_of_mem _ hd)⟩⟩
theorem wts_le {L : Nat} : ∀ ds : List D, (∀ d ∈ ds, d.wt ≤ L) → D.wts ds ≤ ds.length * L
  | [], _ => Nat.zero_le _
  | d :: ds, h => by
    have := wts_le ds fun e he => h e (List.mem_cons_of_mem _ he)
    have := h d (List.mem_cons_self ..)
    show d.wt + D.wts ds ≤ _
    rw [List.length_cons, Nat.succ_mul]
    omega
/-- what is shown, told again alike -/
theorem repr_ok {d : D} (h : d.shk = true) (hd : d.dat 64 = true) (hw : d.wt ≤ 200000) : ∃ t, fRepr [d] = some (.str t) ∧ dNe (.str t) (.str t) = some (.bl false) ∧ dEq (.str t) (.str t) = some (.bl true) := by
  obtain ⟨e1, e2, e3⟩ := shown_ok d h
  refine ⟨d.py.shown, ?_, ?_, ?_⟩
  · show (if _ then _ else _) = _
    rw [if_pos ⟨hd, e1, by rw [sizeLine_eq]; omega⟩]
  · rw [ne_ss e3 e3, decide_eq_true rfl]
    rfl
  · rw [eq_ss e3 e3, decide_eq_true rfl]
end Ow


namespace Law
open PySem PySem.Spec PySem.SeqAt PyProof.Rows L2 Ow
noncomputable def d__law_bag : List D → FR := fnD 3 []
 (sSeq (sSet 2 (eBin dAdd (eBin dMul (eC (.int 5081)) (eVar 1)) (eC (.int 3))))
 (sSeq (sIf (tOf (eBin dLt (eVar 1) (eCall1 fLen (aCons (eVar 0) aNil))))
 (sSet 2 (eFlat (eBin dIx (eVar 0) (eVar 1))))
 sSkip)
 (sRet (eLst (aCons (eBin dMul (eCall1 fAbs (aCons (eVar 2) aNil)) (eCall1 fInt (aCons (eBin dGe (eCall1 fAbs (aCons (eVar 2) aNil)) (eBin dPow (eC (.int 10)) (eC (.int 18)))) aNil))) (aCons (eBin dAdd (eBin dMod (eVar 2) (eC (.int 2147483587))) (eBin dMul (eC (.int 40009)) (eVar 1))) (aCons (eC (.int 0)) aNil)))))))
noncomputable def d__law_take : List D → FR := fnD 7 [0]
 (sSeq (sIf (tOf (eBin dGt (eBin dIx (eVar 0) (eC (.int 0))) (eC (.int 0))))
 (sSeq (sSet 2 (eBin dMod (eBin dIx (eVar 0) (eC (.int 0))) (eVar 1)))
 (sSeq (sSetIx 0 (eBin dDiv (eBin dIx (eVar 0) (eC (.int 0))) (eVar 1)) (eC (.int 0)))
 (sRet (eFlat (eVar 2)))))
 sSkip)
 (sSeq (sSet 3 (eTup (aCons (eC (.int 2147483647)) (aCons (eC (.int 2147483629)) (aCons (eC (.int 2147483587)) (aCons (eC (.int 2147483579)) (aCons (eC (.int 2147483563)) (aCons (eC (.int 2147483549)) (aCons (eC (.int 2147483543)) (aCons (eC (.int 2147483497)) aNil))))))))))
 (sSeq (sSetIx 0 (eBin dAdd (eBin dIx (eVar 0) (eC (.int 2))) (eC (.int 1))) (eC (.int 2)))
 (sSeq (sSet 4 (eFlat (eBin dIx (eVar 0) (eC (.int 2)))))
 (sSeq (sSet 5 (eBin dAdd (eBin dMul (eBin dAdd (eBin dIx (eVar 0) (eC (.int 1))) (eC (.int 1))) (eBin dAdd (eBin dMul (eC (.int 2)) (eVar 4)) (eC (.int 3)))) (eBin dMul (eBin dMul (eC (.int 6007)) (eVar 4)) (eVar 4))))
 (sSeq (sSet 6 (eBin dMod (eBin dPow (eVar 5) (eC (.int 3))) (eBin dIx (eVar 3) (eBin dMod (eVar 4) (eC (.int 8))))))
 (sRet (eBin dMod (eBin dDiv (eBin dMod (eBin dMul (eVar 6) (eBin dAdd (eBin dDiv (eVar 6) (eC (.int 8192))) (eC (.int 11)))) (eBin dIx (eVar 3) (eBin dMod (eBin dAdd (eVar 4) (eC (.int 3))) (eC (.int 8))))) (eC (.int 32))) (eVar 1)))))))))
noncomputable def d__law_odd : List D → FR := fnD 1 [0]
 (sRet (eBin dIx (eLst (aCons (eUn dNeg (eC (.int 1))) (aCons (eC (.int 61)) (aCons (eC (.bl true)) (aCons (eC .non) (aCons (eC (.str "1")) (aCons (eTup (aCons (eC (.int 1)) aNil)) (aCons (eC (.int 60)) (aCons (eLst aNil) aNil))))))))) (eCall d__law_take [0] (aSlot 0 (aCons (eC (.int 8)) aNil)))))
noncomputable def d__law_odd_number : List D → FR := fnD 2 [0]
 (sSeq (sSet 1 (eLst (aCons (eTup (aCons (eC (.int 0)) (aCons (eC (.int 1)) aNil))) (aCons (eTup (aCons (eC (.int 2)) (aCons (eC (.int 4)) aNil))) (aCons (eTup (aCons (eC (.int 1)) (aCons (eUn dNeg (eC (.int 1))) aNil))) (aCons (eTup (aCons (eC (.int 1)) (aCons (eC (.int 0)) aNil))) (aCons (eTup (aCons (eC (.bl true)) (aCons (eC (.int 1)) aNil))) (aCons (eLst (aCons (eC (.int 1)) (aCons (eC (.int 1)) aNil))) (aCons (eTup (aCons (eC (.int 1)) aNil)) (aCons (eC .non) (aCons (eC (.int 1)) (aCons (eTup (aCons (eC (.int 1)) (aCons (eC (.int 1)) aNil))) aNil))))))))))))
 (sRet (eBin dIx (eBin dCat (eVar 1) (eLst (aCons (eTup (aCons (eC (.int 1)) (aCons (eC (.bl true)) aNil))) (aCons (eTup (aCons (eC (.int 0)) (aCons (eC (.int 5)) aNil))) (aCons (eTup (aCons (eC (.int 3)) (aCons (eC (.int 0)) aNil))) (aCons (eTup (aCons (eUn dNeg (eC (.int 1))) (aCons (eUn dNeg (eC (.int 1))) aNil))) aNil)))))) (eCall d__law_take [0] (aSlot 0 (aCons (eC (.int 14)) aNil))))))
noncomputable def d__law_row_bent : List D → FR := fnD 7 [0]
 (sSeq (sUnp (.tp [3, 4]) (eFlat (eVar 1)))
 (sSeq (sSet 5 (eCall d__law_take [0] (aSlot 0 (aCons (eVar 2) aNil))))
 (sSeq (sSet 6 (eCall d__law_take [0] (aSlot 0 (aCons (eC (.int 7)) aNil))))
 (sSeq (sIf (tOf (eBin dEq (eVar 6) (eC (.int 0))))
 (sRet (eTup (aCons (eFlat (eVar 3)) (aCons (eCall d__law_odd_number [0] (aSlot 0 aNil)) aNil))))
 sSkip)
 (sSeq (sIf (tOf (eBin dEq (eVar 6) (eC (.int 1))))
 (sRet (eTup (aCons (eBin dCatT (eBin dCatT (eSl dSlT (eVar 3) oNone (oSome (eVar 5))) (eTup (aCons (eCall d__law_odd [0] (aSlot 0 aNil)) aNil))) (eSl dSlT (eVar 3) (oSome (eBin dAdd (eVar 5) (eC (.int 1)))) oNone)) (aCons (eFlat (eVar 4)) aNil))))
 sSkip)
 (sSeq (sIf (tOf (eBin dEq (eVar 6) (eC (.int 2))))
 (sRet (eTup (aCons (eFlat (eBin dCatT (eBin dCatT (eSl dSlT (eVar 3) oNone (oSome (eVar 5))) (eTup (aCons (eBin dAdd (eBin dIx (eVar 3) (eVar 5)) (eC (.int 1))) aNil))) (eSl dSlT (eVar 3) (oSome (eBin dAdd (eVar 5) (eC (.int 1)))) oNone))) (aCons (eFlat (eVar 4)) aNil))))
 sSkip)
 (sSeq (sIf (tOf (eBin dEq (eVar 6) (eC (.int 3))))
 (sRet (eTup (aCons (eFlat (eBin dCatT (eSl dSlT (eVar 3) oNone (oSome (eVar 5))) (eSl dSlT (eVar 3) (oSome (eBin dAdd (eVar 5) (eC (.int 1)))) oNone))) (aCons (eFlat (eVar 4)) aNil))))
 sSkip)
 (sRet (eBin dIx (eLst (aCons (eLst (aCons (eFlat (eVar 3)) (aCons (eFlat (eVar 4)) aNil))) (aCons (eTup (aCons (eFlatL (eCall1 fListOf (aCons (eVar 3) aNil))) (aCons (eFlat (eVar 4)) aNil))) (aCons (eTup (aCons (eFlat (eVar 3)) (aCons (eFlat (eVar 4)) (aCons (eFlat (eVar 4)) aNil)))) aNil)))) (eBin dSub (eVar 6) (eC (.int 4))))))))))))
noncomputable def d__law_bent : List D → FR := fnD 9 [0]
 (sSeq (sSet 3 (eCall d__law_take [0] (aSlot 0 (aCons (eC (.int 7)) aNil))))
 (sSeq (sIf (tOf (eBin dEq (eVar 3) (eC (.int 0))))
 (sSeq (sSet 4 (eBin dAdd (eC (.int 59)) (eCall d__law_take [0] (aSlot 0 (aCons (eC (.int 3)) aNil)))))
 (sRet (eLc (.nm 8) [] (gRange (aCons (eFlat (eVar 4)) aNil)) tYesD (eTup (aCons (eFlat (eBin dCatT (eTup (aCons (eFlat (eVar 8)) aNil)) (eBin dRepT0 (eTup (aCons (eC (.int 0)) aNil)) (eBin dSub (eVar 2) (eC (.int 1)))))) (aCons (eTup (aCons (eC (.int 1)) (aCons (eC (.int 1)) aNil))) aNil))))))
 sSkip)
 (sSeq (sIf (tOrD (tOf (eBin dEq (eVar 3) (eC (.int 1)))) (tOf (eBin dEq (eVar 1) (eLst aNil))))
 (sRet (eBin dIx (eLst (aCons (eFlat (eCall1 fTupOf (aCons (eVar 1) aNil))) (aCons (eC .non) (aCons (eC (.int 0)) (aCons (eC (.str "")) (aCons (eTup aNil) (aCons (eC (.int 3)) (aCons (eLst (aCons (eTup aNil) aNil)) (aCons (eLst (aCons (eC .non) aNil)) (aCons (eLst (aCons (eLst aNil) aNil)) (aCons (eC (.bl true)) aNil))))))))))) (eCall d__law_take [0] (aSlot 0 (aCons (eC (.int 10)) aNil)))))
 sSkip)
 (sSeq (sSet 5 (eCall d__law_take [0] (aSlot 0 (aCons (eCall1 fLen (aCons (eVar 1) aNil)) aNil))))
 (sSeq (sIf (tOf (eBin dEq (eVar 3) (eC (.int 2))))
 (sRet (eFlatL (eBin dCat (eSl dSlL (eVar 1) (oSome (eVar 5)) oNone) (eSl dSlL (eVar 1) oNone (oSome (eVar 5))))))
 sSkip)
 (sSeq (sIf (tOf (eBin dEq (eVar 3) (eC (.int 3))))
 (sRet (eFlatL (eBin dCat (eBin dCat (eSl dSlL (eVar 1) oNone (oSome (eVar 5))) (eLst (aCons (eFlat (eBin dIx (eVar 1) (eVar 5))) aNil))) (eSl dSlL (eVar 1) (oSome (eVar 5)) oNone))))
 sSkip)
 (sSeq (sIf (tOf (eBin dEq (eVar 3) (eC (.int 4))))
 (sSeq (sUnp (.tp [6, 7]) (eFlat (eBin dIx (eVar 1) (eVar 5))))
 (sRet (eFlatL (eBin dCat (eBin dCat (eSl dSlL (eVar 1) oNone (oSome (eBin dAdd (eVar 5) (eC (.int 1))))) (eLst (aCons (eTup (aCons (eFlat (eVar 6)) (aCons (eTup (aCons (eBin dAdd (eBin dIx (eVar 7) (eC (.int 0))) (eBin dIx (eVar 7) (eC (.int 1)))) (aCons (eFlat (eBin dIx (eVar 7) (eC (.int 1)))) aNil))) aNil))) aNil))) (eSl dSlL (eVar 1) (oSome (eBin dAdd (eVar 5) (eC (.int 1)))) oNone)))))
 sSkip)
 (sRet (eBin dCat (eBin dCat (eSl dSlL (eVar 1) oNone (oSome (eVar 5))) (eLst (aCons (eCall d__law_row_bent [0] (aSlot 0 (aCons (eFlat (eBin dIx (eVar 1) (eVar 5))) (aCons (eFlat (eVar 2)) aNil)))) aNil))) (eSl dSlL (eVar 1) (oSome (eBin dAdd (eVar 5) (eC (.int 1)))) oNone))))))))))
noncomputable def d__law_low : List D → FR := fnD 4 []
 (sSeq (sPar 2 3 (aCons (eCall1 fAbs (aCons (eVar 0) aNil)) (aCons (eVar 1) aNil)))
 (sSeq (sWhile (tOf (eBin dGt (eVar 3) (eC (.int 0))))
 (sPar 2 3 (aCons (eVar 3) (aCons (eBin dMod (eVar 2) (eVar 3)) aNil))))
 (sRet (eTup (aCons (eBin dDiv (eVar 0) (eVar 2)) (aCons (eBin dDiv (eVar 1) (eVar 2)) aNil))))))
noncomputable def d__law_number : List D → FR := fnD 2 [0]
 (sSeq (sIf (tOf (eBin dEq (eVar 1) (eC (.int 0))))
 (sRet (eTup (aCons (eBin dSub (eCall d__law_take [0] (aSlot 0 (aCons (eC (.int 13)) aNil))) (eC (.int 6))) (aCons (eC (.int 1)) aNil))))
 sSkip)
 (sSeq (sIf (tOf (eBin dEq (eVar 1) (eC (.int 1))))
 (sRet (eCall d__law_low [] (aCons (eBin dSub (eCall d__law_take [0] (aSlot 0 (aCons (eC (.int 19)) aNil))) (eC (.int 9))) (aCons (eBin dAdd (eC (.int 1)) (eCall d__law_take [0] (aSlot 0 (aCons (eC (.int 6)) aNil)))) aNil))))
 sSkip)
 (sSeq (sIf (tOf (eBin dEq (eVar 1) (eC (.int 2))))
 (sRet (eCall d__law_low [] (aCons (eBin dSub (eCall d__law_take [0] (aSlot 0 (aCons (eC (.int 1999)) aNil))) (eC (.int 999))) (aCons (eBin dAdd (eC (.int 1)) (eCall d__law_take [0] (aSlot 0 (aCons (eC (.int 999)) aNil)))) aNil))))
 sSkip)
 (sRet (eTup (aCons (eBin dSub (eCall d__law_take [0] (aSlot 0 (aCons (eC (.int 3)) aNil))) (eC (.int 1))) (aCons (eC (.int 1)) aNil)))))))
noncomputable def d__law_form : List D → FR := fnD 13 [0]
 (sSeq (sSet 5 (eLst aNil))
 (sSeq (sFor (.nm 6) (gRange (aCons (eCall d__law_take [0] (aSlot 0 (aCons (eBin dAdd (eVar 2) (eC (.int 1))) aNil))) aNil))
 (sSeq (sSet 7 (eBin dRep (eLst (aCons (eC (.int 0)) aNil)) (eVar 1)))
 (sSeq (sFor (.nm 8) (gRange (aCons (eCall d__law_take [0] (aSlot 0 (aCons (eBin dAdd (eVar 3) (eC (.int 1))) aNil))) aNil))
 (sSeq (sSet 9 (eCall d__law_take [0] (aSlot 0 (aCons (eVar 1) aNil))))
 (sSetIx 7 (eBin dAdd (eBin dIx (eVar 7) (eVar 9)) (eC (.int 1))) (eVar 9))))
 (sSeq (sSet 10 (eCall d__law_number [0] (aSlot 0 (aCons (eVar 4) aNil))))
 (sIf (tAndD (tOf (eBin dNe (eVar 10) (eTup (aCons (eC (.int 0)) (aCons (eC (.int 1)) aNil))))) (tOf (eBin dNotIn (eCall1 fTupOf (aCons (eVar 7) aNil)) (eLc (.tp [11, 12]) [] (gList (eVar 5)) tYesD (eFlat (eVar 11))))))
 (sDrop (eMut "list" 5 mAppend (aCons (eTup (aCons (eFlat (eCall1 fTupOf (aCons (eVar 7) aNil))) (aCons (eFlat (eVar 10)) aNil))) aNil)))
 sSkip)))))
 (sRet (eCall1 fSortedR (aCons (eVar 5) aNil)))))
noncomputable def d__law_whole : List D → FR := fnD 1 []
 (sRet (eAnd (eUn (fIs .int) (eVar 0)) (eUn dNot (eUn (fIs .bool) (eVar 0)))))
noncomputable def d__law_is_number : List D → FR := fnD 1 []
 (sSeq (sIf (tOrD (tNotD (tTru (eUn (fIs .tuple) (eVar 0)))) (tOrD (tOf (eBin dNe (eCall1 fLen (aCons (eVar 0) aNil)) (eC (.int 2)))) (tOrD (tNotD (tTru (eCall d__law_whole [] (aCons (eBin dIx (eVar 0) (eC (.int 0))) aNil)))) (tNotD (tTru (eCall d__law_whole [] (aCons (eBin dIx (eVar 0) (eC (.int 1))) aNil)))))))
 (sRet (eC (.bl false)))
 sSkip)
 (sRet (eAnd (eBin dGt (eBin dIx (eVar 0) (eC (.int 1))) (eC (.int 0))) (eBin dEq (eCall d__law_low [] (aCons (eBin dIx (eVar 0) (eC (.int 0))) (aCons (eBin dIx (eVar 0) (eC (.int 1))) aNil))) (eVar 0)))))
noncomputable def d__law_is_form : List D → FR := fnD 6 []
 (sSeq (sIf (tOrD (tNotD (tTru (eUn (fIs .list) (eVar 0)))) (tOf (eBin dGt (eCall1 fLen (aCons (eVar 0) aNil)) (eC (.int 60)))))
 (sRet (eC (.bl false)))
 sSkip)
 (sSeq (sFor (.nm 2) (gList (eVar 0))
 (sSeq (sIf (tOrD (tNotD (tTru (eUn (fIs .tuple) (eVar 2)))) (tOrD (tOf (eBin dNe (eCall1 fLen (aCons (eVar 2) aNil)) (eC (.int 2)))) (tOrD (tNotD (tTru (eUn (fIs .tuple) (eBin dIx (eVar 2) (eC (.int 0)))))) (tOf (eBin dNe (eCall1 fLen (aCons (eBin dIx (eVar 2) (eC (.int 0))) aNil)) (eVar 1))))))
 (sRet (eC (.bl false)))
 sSkip)
 (sSeq (sIf (tNotD (tTru (eCall1 fAll (aCons (eLc (.nm 5) [] (gTupl (eBin dIx (eVar 2) (eC (.int 0)))) tYesD (eAnd (eCall d__law_whole [] (aCons (eVar 5) aNil)) (eChain dLe dLe (eC (.int 0)) (eVar 5) (eC (.int 60))))) aNil))))
 (sRet (eC (.bl false)))
 sSkip)
 (sIf (tOrD (tNotD (tTru (eCall d__law_is_number [] (aCons (eBin dIx (eVar 2) (eC (.int 1))) aNil)))) (tOf (eBin dEq (eBin dIx (eVar 2) (eC (.int 1))) (eTup (aCons (eC (.int 0)) (aCons (eC (.int 1)) aNil))))))
 (sRet (eC (.bl false)))
 sSkip))))
 (sRet (eCall1 fAll (aCons (eLc (.tp [3, 4]) [] (gFun fZip (aCons (eVar 0) (aCons (eSl dSlL (eVar 0) (oSome (eC (.int 1))) oNone) aNil))) tYesD (eBin dLtT (eBin dIx (eVar 3) (eC (.int 0))) (eBin dIx (eVar 4) (eC (.int 0))))) aNil)))))
noncomputable def d_is_whole : List D → FR := fnD 1 []
 (sRet (eAnd (eUn (fIs .int) (eVar 0)) (eUn dNot (eUn (fIs .bool) (eVar 0)))))
noncomputable def d_shared : List D → FR := fnD 2 []
 (sSeq (sPar 0 1 (aCons (eCall1 fAbs (aCons (eVar 0) aNil)) (aCons (eCall1 fAbs (aCons (eVar 1) aNil)) aNil)))
 (sSeq (sWhile (tOf (eBin dGt (eVar 1) (eC (.int 0))))
 (sPar 0 1 (aCons (eVar 1) (aCons (eBin dMod (eVar 0) (eVar 1)) aNil))))
 (sRet (eVar 0))))
noncomputable def d_is_number : List D → FR := fnD 1 []
 (sSeq (sIf (tOrD (tNotD (tTru (eUn (fIs .tuple) (eVar 0)))) (tOrD (tOf (eBin dNe (eCall1 fLen (aCons (eVar 0) aNil)) (eC (.int 2)))) (tOrD (tNotD (tTru (eCall d_is_whole [] (aCons (eBin dIx (eVar 0) (eC (.int 0))) aNil)))) (tNotD (tTru (eCall d_is_whole [] (aCons (eBin dIx (eVar 0) (eC (.int 1))) aNil)))))))
 (sRet (eC (.bl false)))
 sSkip)
 (sRet (eAnd (eBin dGe (eBin dIx (eVar 0) (eC (.int 1))) (eC (.int 1))) (eBin dEq (eCall d_shared [] (aCons (eBin dIx (eVar 0) (eC (.int 0))) (aCons (eBin dIx (eVar 0) (eC (.int 1))) aNil))) (eC (.int 1))))))
noncomputable def d_is_powers : List D → FR := fnD 3 []
 (sSeq (sIf (tOrD (tNotD (tTru (eUn (fIs .tuple) (eVar 0)))) (tOf (eBin dNe (eCall1 fLen (aCons (eVar 0) aNil)) (eVar 1))))
 (sRet (eC (.bl false)))
 sSkip)
 (sRet (eCall1 fAll (aCons (eLc (.nm 2) [] (gTupl (eVar 0)) tYesD (eAnd (eCall d_is_whole [] (aCons (eVar 2) aNil)) (eChain dLe dLe (eC (.int 0)) (eVar 2) (eC (.int 60))))) aNil))))
noncomputable def d_is_row : List D → FR := fnD 2 []
 (sSeq (sIf (tOrD (tNotD (tTru (eUn (fIs .tuple) (eVar 0)))) (tOrD (tOf (eBin dNe (eCall1 fLen (aCons (eVar 0) aNil)) (eC (.int 2)))) (tNotD (tTru (eCall d_is_powers [] (aCons (eBin dIx (eVar 0) (eC (.int 0))) (aCons (eVar 1) aNil)))))))
 (sRet (eC (.bl false)))
 sSkip)
 (sRet (eAnd (eCall d_is_number [] (aCons (eBin dIx (eVar 0) (eC (.int 1))) aNil)) (eBin dNe (eBin dIx (eVar 0) (eC (.int 1))) (eC (.tup [.int 0, .int 1]))))))
noncomputable def d_is_form : List D → FR := fnD 5 []
 (sSeq (sIf (tOrD (tNotD (tTru (eUn (fIs .list) (eVar 0)))) (tOrD (tOf (eBin dGt (eCall1 fLen (aCons (eVar 0) aNil)) (eC (.int 60)))) (tNotD (tTru (eCall1 fAll (aCons (eLc (.nm 4) [] (gList (eVar 0)) tYesD (eCall d_is_row [] (aCons (eVar 4) (aCons (eVar 1) aNil)))) aNil))))))
 (sRet (eC (.bl false)))
 sSkip)
 (sRet (eCall1 fAll (aCons (eLc (.tp [2, 3]) [] (gFun fZip (aCons (eVar 0) (aCons (eSl dSlL (eVar 0) (oSome (eC (.int 1))) oNone) aNil))) tYesD (eBin dLtT (eBin dIx (eVar 2) (eC (.int 0))) (eBin dIx (eVar 3) (eC (.int 0))))) aNil))))
noncomputable def d_law : List D → FR := fnD 14 []
 (sSeq (sFor (.nm 1) (gRange (aCons (eCall1 fMax2 (aCons (eC (.int 1)) (aCons (eCall1 fMin2 (aCons (eC (.int 4)) (aCons (eCall1 fLen (aCons (eVar 0) aNil)) aNil))) aNil))) aNil))
 (sSeq (sSet 2 (eCall d__law_bag [] (aCons (eVar 0) (aCons (eVar 1) aNil))))
 (sFor (.nm 3) (gRange (aCons (eC (.int 6)) aNil))
 (sSeq (sSet 4 (eBin dAdd (eC (.int 1)) (eCall d__law_take [2] (aSlot 2 (aCons (eC (.int 6)) aNil)))))
 (sSeq (sSet 5 (eCall d__law_form [2] (aSlot 2 (aCons (eVar 4) (aCons (eC (.int 8)) (aCons (eC (.int 4)) (aCons (eBin dIx (eLst (aCons (eC (.int 0)) (aCons (eC (.int 1)) (aCons (eC (.int 2)) aNil)))) (eCall d__law_take [2] (aSlot 2 (aCons (eC (.int 3)) aNil)))) aNil)))))))
 (sSeq (sSet 6 (eCall d__law_bent [2] (aSlot 2 (aCons (eVar 5) (aCons (eFlat (eVar 4)) aNil)))))
 (sFor (.tp [7, 8]) (gTupl (eTup (aCons (eTup (aCons (eVar 5) (aCons (eFlat (eVar 4)) aNil))) (aCons (eTup (aCons (eVar 5) (aCons (eBin dAdd (eVar 4) (eC (.int 1))) aNil))) (aCons (eTup (aCons (eVar 6) (aCons (eFlat (eVar 4)) aNil))) aNil)))))
 (sSeq (sSet 9 (eCall1 fRepr (aCons (eVar 7) aNil)))
 (sSeq (sSet 10 (eCall d_is_form [] (aCons (eVar 7) (aCons (eVar 8) aNil))))
 (sIf (tOrD (tNotD (tTru (eUn (fIs .bool) (eVar 10)))) (tOrD (tOf (eBin dNe (eVar 10) (eCall d__law_is_form [] (aCons (eVar 7) (aCons (eVar 8) aNil))))) (tOf (eBin dNe (eCall1 fRepr (aCons (eVar 7) aNil)) (eVar 9)))))
 (sRet (eC (.bl false)))
 sSkip))))))))))
 (sSeq (sSet 11 (eLc (.nm 13) [] (gTupl (eTup (aCons (eC (.int 0)) (aCons (eC (.int 60)) (aCons (eC (.int 61)) aNil))))) tYesD (eCall d_is_form [] (aCons (eLst (aCons (eTup (aCons (eTup (aCons (eFlat (eVar 13)) aNil)) (aCons (eTup (aCons (eC (.int 1)) (aCons (eC (.int 1)) aNil))) aNil))) aNil)) (aCons (eC (.int 1)) aNil)))))
 (sSeq (sSet 12 (eLst (aCons (eTup (aCons (eFlat (eBin dCatT (eBin dRepT (eTup (aCons (eC (.int 0)) aNil)) (eC (.int 119))) (eTup (aCons (eC (.int 2)) aNil)))) (aCons (eTup (aCons (eC (.int 1)) (aCons (eC (.int 1)) aNil))) aNil))) (aCons (eTup (aCons (eFlat (eBin dCatT (eTup (aCons (eC (.int 1)) aNil)) (eBin dRepT (eTup (aCons (eC (.int 0)) aNil)) (eC (.int 119))))) (aCons (eTup (aCons (eUn dNeg (eC (.int 1))) (aCons (eC (.int 3)) aNil))) aNil))) aNil))))
 (sSeq (sIf (tOrD (tOf (eBin dIsNotB (eCall d_is_form [] (aCons (eVar 12) (aCons (eC (.int 120)) aNil))) (eC (.bl true)))) (tOf (eBin dIsNotB (eCall d_is_form [] (aCons (eVar 12) (aCons (eC (.int 119)) aNil))) (eC (.bl false)))))
 (sRet (eC (.bl false)))
 sSkip)
 (sRet (eAnd (eBin dIsB (eCall d_is_form [] (aCons (eLst aNil) (aCons (eC (.int 1)) aNil))) (eC (.bl true))) (eBin dEq (eVar 11) (eLst (aCons (eC (.bl true)) (aCons (eC (.bl true)) (aCons (eC (.bl false)) aNil)))))))))))
end Law

namespace Law
open PySem PySem.Spec PySem.SeqAt PyProof.Rows L2 Ow
local macro_rules
  | `(tactic| simp only [EV0, $xs,*] $[$loc]?) => `(tactic| simp only [a_fnD, a_seq, a_skip, a_retV, a_retN, a_brk, a_cnt, a_raise, a_var, a_c, a_nil, o_some, soO_some, bnd_nxt, bnd_ret, bnd_exc, $xs,*] $[$loc]?)
  | `(tactic| simp only [EV0] $[$loc]?) => `(tactic| simp only [a_fnD, a_seq, a_skip, a_retV, a_retN, a_brk, a_cnt, a_raise, a_var, a_c, a_nil, o_some, soO_some, bnd_nxt, bnd_ret, bnd_exc] $[$loc]?)
local macro_rules
  | `(tactic| simp only [EV1, $xs,*] $[$loc]?) => `(tactic| simp only [EV0, bnd_brk, bnd_cnt, er_ret, er_exc, fin_nxt, fin_ret, fin_exc, ifK_x, ifK_t, ifK_f, retK1_x, retK1_o, setK_x, setK_o, dropK1_x, dropK1_o, $xs,*] $[$loc]?)
  | `(tactic| simp only [EV1] $[$loc]?) => `(tactic| simp only [EV0, bnd_brk, bnd_cnt, er_ret, er_exc, fin_nxt, fin_ret, fin_exc, ifK_x, ifK_t, ifK_f, retK1_x, retK1_o, setK_x, setK_o, dropK1_x, dropK1_o] $[$loc]?)
local macro_rules
  | `(tactic| simp only [EV2, $xs,*] $[$loc]?) => `(tactic| simp only [EV1, parK1_x, parK1_o, setix3_x, setix4_s, setix3_o, unpK_x, unpK_o, forK_x, forK_o, bin3_x, bin3_o, un2_x, un2_o, cons3_x, cons3_o, slot2_x, $xs,*] $[$loc]?)
  | `(tactic| simp only [EV2] $[$loc]?) => `(tactic| simp only [EV1, parK1_x, parK1_o, setix3_x, setix4_s, setix3_o, unpK_x, unpK_o, forK_x, forK_o, bin3_x, bin3_o, un2_x, un2_o, cons3_x, cons3_o, slot2_x] $[$loc]?)
local macro_rules
  | `(tactic| simp only [EV3, $xs,*] $[$loc]?) => `(tactic| simp only [EV2, slot2_o, tup2_x, tup2_o, lst2_x, lst2_o, c12_x, c12_o, call2_x, call2_o, flat2_x, flat2_i, flat2_b, flat2_s, flat2_n, flatL2_x, tof2_x, $xs,*] $[$loc]?)
  | `(tactic| simp only [EV3] $[$loc]?) => `(tactic| simp only [EV2, slot2_o, tup2_x, tup2_o, lst2_x, lst2_o, c12_x, c12_o, call2_x, call2_o, flat2_x, flat2_i, flat2_b, flat2_s, flat2_n, flatL2_x, tof2_x] $[$loc]?)
local macro_rules
  | `(tactic| simp only [EV4, $xs,*] $[$loc]?) => `(tactic| simp only [EV3, tof2_o, tru2_x, tru2_o, tnot2_x, tnot2_o, tand2_x, tand2_t, tand2_f, tor2_x, tor2_t, tor2_f, and2_x, and2_t, and2_f, or2_x, or2_t, $xs,*] $[$loc]?)
  | `(tactic| simp only [EV4] $[$loc]?) => `(tactic| simp only [EV3, tof2_o, tru2_x, tru2_o, tnot2_x, tnot2_o, tand2_x, tand2_t, tand2_f, tor2_x, tor2_t, tor2_f, and2_x, and2_t, and2_f, or2_x, or2_t] $[$loc]?)
local macro_rules
  | `(tactic| simp only [EV5, $xs,*] $[$loc]?) => `(tactic| simp only [EV4, or2_f, eif2_x, eif2_t, eif2_f, isx2_x, meth3_x, meth3_o, mut2_x, mut3_s, mut2_o, list2_x, list2_l, list2_f, gtup2_x, gtup2_o, rng2_x, $xs,*] $[$loc]?)
  | `(tactic| simp only [EV5] $[$loc]?) => `(tactic| simp only [EV4, or2_f, eif2_x, eif2_t, eif2_f, isx2_x, meth3_x, meth3_o, mut2_x, mut3_s, mut2_o, list2_x, list2_l, list2_f, gtup2_x, gtup2_o, rng2_x] $[$loc]?)
local macro_rules
  | `(tactic| simp only [EV6, $xs,*] $[$loc]?) => `(tactic| simp only [EV5, rng2_o, bin2_x, bin2_o, cons2_x, cons2_o, setix2_x, setix2_o, meth2_x, meth2_l, a_if, a_ret, a_set, a_drop, a_setix, a_unp, a_for, $xs,*] $[$loc]?)
  | `(tactic| simp only [EV6] $[$loc]?) => `(tactic| simp only [EV5, rng2_o, bin2_x, bin2_o, cons2_x, cons2_o, setix2_x, setix2_o, meth2_x, meth2_l, a_if, a_ret, a_set, a_drop, a_setix, a_unp, a_for] $[$loc]?)
local macro_rules
  | `(tactic| simp only [EV7, $xs,*] $[$loc]?) => `(tactic| simp only [EV6, a_bin, a_un, a_cons, a_slot, a_tup, a_lst, a_flat, a_flatL, a_call1, a_call, a_tof, a_tru, a_tnot, a_tand, a_tor, a_and, $xs,*] $[$loc]?)
  | `(tactic| simp only [EV7] $[$loc]?) => `(tactic| simp only [EV6, a_bin, a_un, a_cons, a_slot, a_tup, a_lst, a_flat, a_flatL, a_call1, a_call, a_tof, a_tru, a_tnot, a_tand, a_tor, a_and] $[$loc]?)
local macro_rules
  | `(tactic| simp only [EV8, $xs,*] $[$loc]?) => `(tactic| simp only [EV7, a_or, a_eif, a_isx, a_meth, a_grange, a_glist, a_gtup, a_par, mut1_t, a_mut, isTy_ll, a_try, hdl_nxt, hdl_ret, noExc_ret, noExc_nxt, $xs,*] $[$loc]?)
  | `(tactic| simp only [EV8] $[$loc]?) => `(tactic| simp only [EV7, a_or, a_eif, a_isx, a_meth, a_grange, a_glist, a_gtup, a_par, mut1_t, a_mut, isTy_ll, a_try, hdl_nxt, hdl_ret, noExc_ret, noExc_nxt] $[$loc]?)
local macro_rules
  | `(tactic| simp only [EV9, $xs,*] $[$loc]?) => `(tactic| simp only [EV8, putOuts, add_ii, sub_ii, lt_ii, le_ii, gt_ii, ge_ii, eq_ii, ne_ii, abs_i, int_i, int_b, len_t, len_l, len_f, max_ii, $xs,*] $[$loc]?)
  | `(tactic| simp only [EV9] $[$loc]?) => `(tactic| simp only [EV8, putOuts, add_ii, sub_ii, lt_ii, le_ii, gt_ii, ge_ii, eq_ii, ne_ii, abs_i, int_i, int_b, len_t, len_l, len_f, max_ii] $[$loc]?)
local macro_rules
  | `(tactic| simp only [EV10, $xs,*] $[$loc]?) => `(tactic| simp only [EV9, min_ii, not_b, neg_i, ix_t0, ix_t1, ix_l0, D.truth, List.getD_cons_zero, List.getD_cons_succ, List.set_cons_zero, List.set_cons_succ, List.cons_append, List.nil_append, List.append_nil, List.length_cons, List.length_nil, $xs,*] $[$loc]?)
  | `(tactic| simp only [EV10] $[$loc]?) => `(tactic| simp only [EV9, min_ii, not_b, neg_i, ix_t0, ix_t1, ix_l0, D.truth, List.getD_cons_zero, List.getD_cons_succ, List.set_cons_zero, List.set_cons_succ, List.cons_append, List.nil_append, List.append_nil, List.length_cons, List.length_nil] $[$loc]?)
local macro_rules
  | `(tactic| simp only [EV11, $xs,*] $[$loc]?) => `(tactic| simp only [EV10, List.replicate_succ, List.replicate_zero, List.map_cons, List.map_nil, Option.map_some, Nat.reduceAdd, Nat.reduceSub, if_true, if_false, Bool.false_eq_true, Bool.not_true, Bool.not_false, decide_true, decide_false, not_true_eq_false, not_false_eq_true, $xs,*] $[$loc]?)
  | `(tactic| simp only [EV11] $[$loc]?) => `(tactic| simp only [EV10, List.replicate_succ, List.replicate_zero, List.map_cons, List.map_nil, Option.map_some, Nat.reduceAdd, Nat.reduceSub, if_true, if_false, Bool.false_eq_true, Bool.not_true, Bool.not_false, decide_true, decide_false, not_true_eq_false, not_false_eq_true] $[$loc]?)
local macro_rules
  | `(tactic| simp only [EV12, $xs,*] $[$loc]?) => `(tactic| simp only [EV11, eq_self, ne_eq, a_tyes, a_lc, lcF_0, a_gfun, gf2_o, zip_ll, zip_tt, enum_l, rev_l, all_true, listOf_l, listOf_t, tupOf_l, tupOf_t, $xs,*] $[$loc]?)
  | `(tactic| simp only [EV12] $[$loc]?) => `(tactic| simp only [EV11, eq_self, ne_eq, a_tyes, a_lc, lcF_0, a_gfun, gf2_o, zip_ll, zip_tt, enum_l, rev_l, all_true, listOf_l, listOf_t, tupOf_l, tupOf_t] $[$loc]?)
local macro_rules
  | `(tactic| simp only [EV, $xs,*] $[$loc]?) => `(tactic| simp only [EV12, clear_l, bl_eq, bl_ne, a_sl, sl2_o, sl3_o, sl4_o, a_onone, a_osome, os2_o, slL_l, slT_t, $xs,*] $[$loc]?)
  | `(tactic| simp only [EV] $[$loc]?) => `(tactic| simp only [EV12, clear_l, bl_eq, bl_ne, a_sl, sl2_o, sl3_o, sl4_o, a_onone, a_osome, os2_o, slL_l, slT_t] $[$loc]?)
local macro_rules
  | `(tactic| simp only [EW, $xs,*] $[$loc]?) => `(tactic| simp only [EV, a_dnew, a_setd, setd2_o, setd3_o, setd4_s, a_unpl, unpl2_l, setMany_c, setMany_n, a_chain, chn2_o, chn3_o, chn4_t, chn4_f, $xs,*] $[$loc]?)
  | `(tactic| simp only [EW] $[$loc]?) => `(tactic| simp only [EV, a_dnew, a_setd, setd2_o, setd3_o, setd4_s, a_unpl, unpl2_l, setMany_c, setMany_n, a_chain, chn2_o, chn3_o, chn4_t, chn4_f] $[$loc]?)
local macro_rules
  | `(tactic| simp only [EX, $xs,*] $[$loc]?) => `(tactic| simp only [EW, a_dnewT, a_getT, gt2_d, gt3_o, gt4_o, a_ixT, it2_d, it3_o, a_setT, st2_o, st3_o, a_keysT, ky2_d, $xs,*] $[$loc]?)
  | `(tactic| simp only [EX] $[$loc]?) => `(tactic| simp only [EW, a_dnewT, a_getT, gt2_d, gt3_o, gt4_o, a_ixT, it2_d, it3_o, a_setT, st2_o, st3_o, a_keysT, ky2_d] $[$loc]?)
theorem take_eq {k n : Int} {b : D} (h : Bag k b) (hk : k < 2 ^ 20) (hn : 0 < n) (hn2 : n < 2 ^ 64) : ∃ r b', d__law_take [b, .int n] = .ret (.int r) [b'] ∧ 0 ≤ r ∧ r < n ∧ Bag (k + 1) b' := by
  obtain ⟨B, S, T, rfl, h1, h2, h3, h4, h5⟩ := h
  have fn : ∀ z : Int, dMod (.int z) (.int n) = some (.int (z % n)) := fun z => mod_ii hn
  by_cases hB : 0 < B
  · refine ⟨B % n, _, ?_, (emod_lt' B hn).1, (emod_lt' B hn).2, B / n, S, T, rfl, Int.ediv_nonneg (by omega) (by omega), h2, h3, h4, by omega⟩
    have dn : dDiv (.int B) (.int n) = some (.int (B / n)) := div_ii hn (lt64_9000 (by omega))
    unfold d__law_take
    simp only [EV, ix3_0, hB, fn, dn, six3_0]
  · obtain ⟨U, hU⟩ : ∃ U, T + 1 = U := ⟨_, rfl⟩
    have hU1 : 0 ≤ U ∧ U ≤ 2 ^ 20 := by omega
    obtain ⟨p, hp, hp1, hp2⟩ := prime_at (U % 8) (emod_lt' U (by omega)).1 (emod_lt' U (by omega)).2
    obtain ⟨q, hq, hq1, hq2⟩ := prime_at ((U + 3) % 8) (emod_lt' _ (by omega)).1 (emod_lt' _ (by omega)).2
    have b1 : 0 ≤ (S + 1) * (2 * U + 3) := Int.mul_nonneg (by omega) (by omega)
    have b2 : (S + 1) * (2 * U + 3) ≤ 2 ^ 32 * (2 * 2 ^ 20 + 3) := Int.mul_le_mul (by omega) (by omega) (by omega) (by omega)
    have b3 : 0 ≤ 6007 * U * U := Int.mul_nonneg (by omega) (by omega)
    have b4 : 6007 * U * U ≤ 6007 * 2 ^ 20 * 2 ^ 20 := Int.mul_le_mul (by omega) (by omega) (by omega) (by omega)
    have m1 := mul_ii (mulOk_l (i := S + 1) (j := 2 * U + 3) (by omega) (by omega))
    have m2 := mul_ii (mulOk_l (i := 2) (j := U) (by omega) (by omega))
    have m3 := mul_ii (mulOk_l (i := 6007) (j := U) (by omega) (by omega))
    have m4 := mul_ii (mulOk_r (i := 6007 * U) (j := U) (by omega) (by omega))
    obtain ⟨base, hb⟩ : ∃ z, (S + 1) * (2 * U + 3) + 6007 * U * U = z := ⟨_, rfl⟩
    have m5 := pow_3 (i := base) (by omega)
    obtain ⟨here, hh⟩ : ∃ z, base ^ 3 % p = z := ⟨_, rfl⟩
    have hh1 := emod_lt' (base ^ 3) hp1
    rw [hh] at hh1
    have m6 := mul_ii (mulOk_l (i := here) (j := here / 8192 + 11) (by omega) (by omega))
    have fp : ∀ z : Int, dMod (.int z) (.int p) = some (.int (z % p)) := fun z => mod_ii hp1
    have fq : ∀ z : Int, dMod (.int z) (.int q) = some (.int (z % q)) := fun z => mod_ii hq1
    have f8 : ∀ z : Int, dMod (.int z) (.int 8) = some (.int (z % 8)) := fun z => mod_ii (by omega)
    have d1 : ∀ z : Int, dDiv (.int z) (.int 8192) = some (.int (z / 8192)) := fun z => div_ii (by omega) (lt64_9000 (by omega))
    have d2 : ∀ z : Int, dDiv (.int z) (.int 32) = some (.int (z / 32)) := fun z => div_ii (by omega) (lt64_9000 (by omega))
    refine ⟨here * (here / 8192 + 11) % q / 32 % n, _, ?_, (emod_lt' _ hn).1, (emod_lt' _ hn).2, B, S, U, rfl, h1, h2, h3, by omega, by omega⟩
    unfold d__law_take
    simp only [EV, ix3_0, ix3_1, ix3_2, hB, hU, six3_2, m1, m2, m3, m4, hb, m5, f8, hp, hq, fp, fq, fn, hh, d1, d2, m6]
theorem bag_eq (ns : List Int) (at_ : Nat) (hat : at_ ≤ 100) : ∃ b, d__law_bag [.fzl (ns.map D.int), .int at_] = .ret b [] ∧ Bag 0 b := by
  have m1 := mul_ii (mulOk_l (i := 5081) (j := at_) (by omega) (by omega))
  have m2 := mul_ii (mulOk_l (i := 40009) (j := at_) (by omega) (by omega))
  have m3 : ∀ (i : Int) (b : Bool), dMul (.int i) (.int (if b = true then 1 else 0)) = some (.int (i * (if b = true then 1 else 0))) := fun i b => mul_ii (mulOk_r (by split <;> omega) (by split <;> omega))
  have m4 : ∀ i : Int, dMod (.int i) (.int 2147483587) = some (.int (i % 2147483587)) := fun i => mod_ii (by omega)
  by_cases hl : (at_ : Int) < ((ns.map D.int).length : Nat)
  · have hl' : at_ < ns.length := by rw [List.length_map] at hl; omega
    have hx : dIx (.fzl (ns.map D.int)) (.int (at_ : Int)) = some (.int ns[at_]) := ix_fN (by rw [List.getElem?_map, List.getElem?_eq_getElem hl']; rfl)
    refine ⟨_, ?_, bag_fin ns[at_] at_ (decide (1000000000000000000 ≤ (ns[at_].natAbs : Int))) (by omega) (by omega)⟩
    unfold d__law_bag
    simp only [EV, m1, hl, hx, dPow_18, m2, m3, m4]
  · refine ⟨_, ?_, bag_fin (5081 * at_ + 3) at_ (decide (1000000000000000000 ≤ ((5081 * (at_ : Int) + 3).natAbs : Int))) (by omega) (by omega)⟩
    unfold d__law_bag
    simp only [EV, m1, hl, dPow_18, m2, m3, m4]
theorem low_loop : ∀ (b a : Nat) (x y : D), ∃ k, whileN (tOf (eBin dGt (eVar 3) (eC (.int 0)))) (sPar 2 3 (aCons (eVar 3) (aCons (eBin dMod (eVar 2) (eVar 3)) aNil))) k [x, y, .int a, .int b] = .nxt [x, y, .int (Nat.gcd a b : Nat), .int 0] := by
  intro b
  induction b using Nat.strongRecOn with
  | ind b ih =>
    intro a x y
    by_cases hb : b = 0
    · subst hb
      refine ⟨1, ?_⟩
      rw [Nat.gcd_zero_right]
      refine whileN_end ?_
      simp only [EV]
      rfl
    · have hp : 0 < (b : Int) := by omega
      obtain ⟨k, hk⟩ := ih (a % b) (Nat.mod_lt _ (by omega)) b x y
      have hm : dMod (.int a) (.int b) = some (.int ((a % b : Nat) : Int)) := mod_ii hp
      refine ⟨k + 1, whileN_step (σ1 := [x, y, .int a, .int b]) (σ2 := [x, y, .int b, .int ((a % b : Nat) : Int)]) ?_ ?_ ?_⟩
      · simp only [EV, hp]
      · simp only [EV, hm]
      · rw [hk, gcd_swap]
theorem low_eq (a b : Int) (hb : 0 < b) (hs : b.natAbs < 2 ^ 9000) : d__law_low [.int a, .int b] = .ret (enc (Rat.divInt a b)) [] := by
  obtain ⟨n, rfl⟩ : ∃ n : Nat, b = n := ⟨b.toNat, by omega⟩
  obtain ⟨k, hk⟩ := low_loop n a.natAbs (.int a) (.int n)
  have h := sWhile_of hk
  have hg : 0 < ((a.natAbs.gcd n : Nat) : Int) := by have := gcd_pos (a := a) (b := n) (by omega); unfold Int.gcd at this; simp only [Int.natAbs_natCast] at this; omega
  have hle : ((a.natAbs.gcd n : Nat) : Int).natAbs < 2 ^ 9000 := Nat.lt_of_le_of_lt (by have := gcd_le (a := a) (b := n) (by omega); unfold Int.gcd at this; simp only [Int.natAbs_natCast] at this ⊢; exact this) hs
  have d1 := div_ii (i := a) hg hle
  have d2 := div_ii (i := n) hg hle
  obtain ⟨h1, h2⟩ := num_den a n hb
  have ee : enc (Rat.divInt a n) = .tup [.int (a / (a.natAbs.gcd n : Nat)), .int ((n : Int) / (a.natAbs.gcd n : Nat))] := by rw [enc, h1, h2]; rfl
  rw [ee]
  unfold d__law_low
  simp only [EV, h, d1, d2]
theorem number_eq {k : Int} {b : D} (h : Bag k b) (hk : k < 2 ^ 19) (kind : Int) (h0 : 0 ≤ kind) (h4 : kind < 4) : ∃ r b', d__law_number [b, .int kind] = .ret (enc r) [b'] ∧ sz 11 r ∧ Bag (k + 2) b' ∧ (kind = 0 → sz 3 r ∧ r.den = 1) ∧ (kind = 1 → sz 4 r) ∧ (kind = 3 → (r = -1 ∨ r = 0 ∨ r = 1)) := by
  have ki : kind = 0 ∨ kind = 1 ∨ kind = 2 ∨ kind = 3 := by omega
  have whole : ∀ (z : Int) (n : Nat), 0 < n → z.natAbs < 2 ^ n → sz n (z : Rat) := fun z n h0 h => ⟨by rw [Rat.num_intCast]; exact h, by rw [Rat.den_intCast]; exact Nat.one_lt_two_pow (by omega)⟩
  rcases ki with rfl | rfl | rfl | rfl
  · obtain ⟨r, b1, e, r0, r1, B⟩ := take_eq (n := 13) h (by omega) (by omega) (by omega)
    refine ⟨((r - 6 : Int) : Rat), b1, ?_, whole _ 11 (by omega) (by omega), B.mono (by omega), fun _ => ⟨whole _ 3 (by omega) (by omega), Rat.den_intCast _⟩, by omega, by omega⟩
    unfold d__law_number
    simp only [EV, e, encI]
  · obtain ⟨r, b1, e, r0, r1, B⟩ := take_eq (n := 19) h (by omega) (by omega) (by omega)
    obtain ⟨s, b2, e2, s0, s1, B2⟩ := take_eq (n := 6) B (by omega) (by omega) (by omega)
    have hl := low_eq (r - 9) (1 + s) (by omega) (lt64_9000 (by omega))
    refine ⟨Rat.divInt (r - 9) (1 + s), b2, ?_, sz_divInt (by omega) (by omega) (by omega), B2.mono (by omega), by omega, fun _ => sz_divInt (by omega) (by omega) (by omega), by omega⟩
    unfold d__law_number
    simp only [EV, e, e2, hl, Int.reduceEq]
  · obtain ⟨r, b1, e, r0, r1, B⟩ := take_eq (n := 1999) h (by omega) (by omega) (by omega)
    obtain ⟨s, b2, e2, s0, s1, B2⟩ := take_eq (n := 999) B (by omega) (by omega) (by omega)
    have hl := low_eq (r - 999) (1 + s) (by omega) (lt64_9000 (by omega))
    refine ⟨Rat.divInt (r - 999) (1 + s), b2, ?_, sz_divInt (by omega) (by omega) (by omega), B2.mono (by omega), by omega, by omega, by omega⟩
    unfold d__law_number
    simp only [EV, e, e2, hl, Int.reduceEq]
  · obtain ⟨r, b1, e, r0, r1, B⟩ := take_eq (n := 3) h (by omega) (by omega) (by omega)
    refine ⟨((r - 1 : Int) : Rat), b1, ?_, whole _ 11 (by omega) (by omega), B.mono (by omega), by omega, by omega, fun _ => ?_⟩
    · unfold d__law_number
      simp only [EV, e, encI, Int.reduceEq]
    · have : r = 0 ∨ r = 1 ∨ r = 2 := by omega
      rcases this with rfl | rfl | rfl
      · exact .inl rfl
      · exact .inr (.inl rfl)
      · exact .inr (.inr rfl)
theorem gcd_loop : ∀ (b a : Nat), ∃ k, whileN (tOf (eBin dGt (eVar 1) (eC (.int 0)))) (sPar 0 1 (aCons (eVar 1) (aCons (eBin dMod (eVar 0) (eVar 1)) aNil))) k [.int a, .int b] = .nxt [.int (Nat.gcd a b : Nat), .int 0] := by
  intro b
  induction b using Nat.strongRecOn with
  | ind b ih =>
    intro a
    by_cases hb : b = 0
    · subst hb
      refine ⟨1, ?_⟩
      rw [Nat.gcd_zero_right]
      refine whileN_end ?_
      simp only [EV]
      rfl
    · have hp : 0 < (b : Int) := by omega
      obtain ⟨k, hk⟩ := ih (a % b) (Nat.mod_lt _ (by omega)) b
      have hm : dMod (.int a) (.int b) = some (.int ((a % b : Nat) : Int)) := mod_ii hp
      refine ⟨k + 1, whileN_step (σ1 := [.int a, .int b]) (σ2 := [.int b, .int ((a % b : Nat) : Int)]) ?_ ?_ ?_⟩
      · simp only [EV, hp]
      · simp only [EV, hm]
      · rw [hk, gcd_swap]
theorem shared_eq (a b : Int) : d_shared [.int a, .int b] = .ret (.int (Int.gcd a b : Nat)) [] := by
  obtain ⟨k, hk⟩ := gcd_loop b.natAbs a.natAbs
  have h := sWhile_of hk
  unfold d_shared
  simp only [EV, h]
  rfl
theorem number_nk {k : Int} {b : D} (h : Bag k b) (hk : k < 2 ^ 19) (kind : Int) (h0 : 0 ≤ kind) (h4 : kind < 4) : ∃ r b', d__law_number [b, .int kind] = .ret (enc r) [b'] ∧ nkP kind r ∧ Bag (k + 2) b' := by
  obtain ⟨r, b', e, z, B, a1, a2, a3⟩ := number_eq h hk kind h0 h4
  exact ⟨r, b', e, ⟨z, a1, a2, a3⟩, B⟩
theorem lform_srt {k : Int} {b : D} (h : Bag k b) (hk : k < 2 ^ 17) {n rows deg : Nat} {kind : Int} (hn : 0 < n) (hn2 : n ≤ 200) (hr : rows ≤ 20) (hd : deg ≤ 20) (h0 : 0 ≤ kind) (h4 : kind < 4) : ∃ F b', d__law_form [b, .int n, .int rows, .int deg, .int kind] = .ret (foD F) [b'] ∧ FDr n rows deg kind F ∧ Bag (k + 1000) b' ∧ F.Pairwise (fun x y => leF x y = true) := by
  obtain ⟨t, b1, e1, t0, t1, B1⟩ := take_eq (n := (rows : Int) + 1) h (by omega) (by omega) (by omega)
  obtain ⟨T, rfl⟩ : ∃ T : Nat, t = T := ⟨t.toNat, by omega⟩
  have powers : ∀ (k : Int) (b : D) (F : List FRow) (y1 y2 y3 y4 y5 y6 y7 : D), Bag k b → k < 2 ^ 18 → ∃ s b1 b' p z8 z9, d__law_take [b, .int (deg + 1)] = .ret (.int s) [b1] ∧ gRng [.int s] = some (rngD 0 s.toNat) ∧ forL (.nm 8) (sSeq (sSet 9 (eCall d__law_take [0] (aSlot 0 (aCons (eVar 1) aNil)))) (sSetIx 7 (eBin dAdd (eBin dIx (eVar 7) (eVar 9)) (eC (.int 1))) (eVar 9))) (rngD 0 s.toNat) [b1, .int n, .int rows, .int deg, .int kind, foD F, y1, .lst ((List.replicate n (0 : Int)).map D.int), y3, y4, y5, y6, y7] = .nxt [b', .int n, .int rows, .int deg, .int kind, foD F, y1, .lst (p.map D.int), z8, z9, y5, y6, y7] ∧ Pw n deg p ∧ Bag (k + 21) b' := by
    intro k b F y1 y2 y3 y4 y5 y6 y7 B hk
    obtain ⟨s, b1, e, s0, s1, B1⟩ := take_eq (n := (deg : Int) + 1) B (by omega) (by omega) (by omega)
    obtain ⟨_, E, b', p, z8, z9, rfl, hp, B2⟩ := forL_rng (T := .nm 8) (G := sSeq (sSet 9 (eCall d__law_take [0] (aSlot 0 (aCons (eVar 1) aNil)))) (sSetIx 7 (eBin dAdd (eBin dIx (eVar 7) (eVar 9)) (eC (.int 1))) (eVar 9))) s.toNat (fun i σ => ∃ b' p z8 z9, σ = [b', .int n, .int rows, .int deg, .int kind, foD F, y1, .lst (p.map D.int), z8, z9, y5, y6, y7] ∧ Pw n i p ∧ Bag (k + 1 + i) b') [b1, .int n, .int rows, .int deg, .int kind, foD F, y1, .lst ((List.replicate n (0 : Int)).map D.int), y3, y4, y5, y6, y7] ⟨_, _, _, _, rfl, Pw.zero n, B1.mono (by omega)⟩ (by
      rintro i σ hi ⟨b', p, z8, z9, rfl, hp, B2⟩
      obtain ⟨j, b2, e2, j0, j1, B3⟩ := take_eq (n := (n : Int)) B2 (by omega) (by omega) (by omega)
      obtain ⟨j, rfl⟩ : ∃ j' : Nat, j = j' := ⟨j.toNat, by omega⟩
      have hj : j < p.length := by rw [hp.1]; omega
      have ix : dIx (.lst (p.map D.int)) (.int j) = some (.int p[j]) := ix_lN (by rw [List.getElem?_map, List.getElem?_eq_getElem hj]; rfl)
      have six : dSetIx (.lst (p.map D.int)) (.int j) (.int (p[j] + 1)) = some (.lst ((p.set j (p[j] + 1)).map D.int)) := by
        rw [setix_lN (by rw [List.length_map]; exact hj), List.map_set]
      refine ⟨[b', .int n, .int rows, .int deg, .int kind, foD F, y1, .lst (p.map D.int), .int i, z9, y5, y6, y7], [b2, .int n, .int rows, .int deg, .int kind, foD F, y1, .lst ((p.set j (p[j] + 1)).map D.int), .int i, .int j, y5, y6, y7], rfl, ?_, b2, _, _, _, rfl, hp.set (List.getElem?_eq_getElem hj), B3.mono (by omega)⟩
      simp only [EX, e2, ix, six])
    refine ⟨s, b1, b', p, z8, z9, e, rngL1 (by omega) (by omega), E, hp.mono (by omega), B2.mono (by omega)⟩
  obtain ⟨_, E, b', F, x6, x7, x8, x9, x10, x11, x12, rfl, hF, B'⟩ := forL_rng (T := .nm 6) (G := (sSeq (sSet 7 (eBin dRep (eLst (aCons (eC (.int 0)) aNil)) (eVar 1)))
 (sSeq (sFor (.nm 8) (gRange (aCons (eCall d__law_take [0] (aSlot 0 (aCons (eBin dAdd (eVar 3) (eC (.int 1))) aNil))) aNil))
 (sSeq (sSet 9 (eCall d__law_take [0] (aSlot 0 (aCons (eVar 1) aNil))))
 (sSetIx 7 (eBin dAdd (eBin dIx (eVar 7) (eVar 9)) (eC (.int 1))) (eVar 9))))
 (sSeq (sSet 10 (eCall d__law_number [0] (aSlot 0 (aCons (eVar 4) aNil))))
 (sIf (tAndD (tOf (eBin dNe (eVar 10) (eTup (aCons (eC (.int 0)) (aCons (eC (.int 1)) aNil))))) (tOf (eBin dNotIn (eCall1 fTupOf (aCons (eVar 7) aNil)) (eLc (.tp [11, 12]) [] (gList (eVar 5)) tYesD (eFlat (eVar 11))))))
 (sDrop (eMut "list" 5 mAppend (aCons (eTup (aCons (eFlat (eCall1 fTupOf (aCons (eVar 7) aNil))) (aCons (eFlat (eVar 10)) aNil))) aNil)))
 sSkip))))) T (fun i σ => ∃ b' F x6 x7 x8 x9 x10 x11 x12, σ = [b', .int n, .int rows, .int deg, .int kind, foD F, x6, x7, x8, x9, x10, x11, x12] ∧ FDr n i deg kind F ∧ Bag (k + 1 + 23 * i) b') [b1, .int n, .int rows, .int deg, .int kind, foD [], .non, .non, .non, .non, .non, .non, .non] ⟨_, _, _, _, _, _, _, _, _, rfl, ⟨fun _ h => (by cases h), fun _ h => (by cases h), fun _ h => (by cases h), by simp [keysF], Nat.le_refl _⟩, B1.mono (by omega)⟩ (by
    rintro i σ hi ⟨b2, F, x6, x7, x8, x9, x10, x11, x12, rfl, hF, B2⟩
    obtain ⟨s, b3, b4, p, z8, z9, e3, e4, e5, hp, B4⟩ := powers _ b2 F (.int i) x7 x8 x9 x10 x11 x12 B2 (by omega)
    obtain ⟨r, b5, e6, hr', B5⟩ := number_nk B4 (by omega) kind h0 h4
    have rp : dRep (.lst [.int 0]) (.int n) = some (.lst ((List.replicate n (0 : Int)).map D.int)) := by
      rw [rep_1 rfl (by omega) (by omega), List.map_replicate, Int.toNat_natCast]
    have ne : dNe (enc r) (.tup [.int 0, .int 1]) = some (.bl (decide (r ≠ 0))) := neE r 0
    obtain ⟨_, c, z11, z12, rfl⟩ := lcL_mapG (T := .tp [11, 12]) (ge := eFlat (eVar 11)) frD (fun x : FRow => pwD x.1) (fun σ => ∃ z11 z12, σ = [b5, .int n, .int rows, .int deg, .int kind, foD F, .int i, .lst (p.map D.int), z8, z9, enc r, z11, z12]) F [b5, .int n, .int rows, .int deg, .int kind, foD F, .int i, .lst (p.map D.int), z8, z9, enc r, x11, x12] ⟨_, _, rfl⟩ (by
      rintro x hx σ ⟨z11, z12, rfl⟩
      refine ⟨[b5, .int n, .int rows, .int deg, .int kind, foD F, .int i, .lst (p.map D.int), z8, z9, enc r, pwD x.1, enc x.2], [b5, .int n, .int rows, .int deg, .int kind, foD F, .int i, .lst (p.map D.int), z8, z9, enc r, pwD x.1, enc x.2], rfl, ?_, _, _, rfl⟩
      simp only [EX, fl2P])
    have gl : ∀ σ, list2 (.ok (foD F) σ) = .ok (F.map frD) σ := fun σ => rfl
    have hl : (F.map frD).length ≤ sizeLine := lc_small (by rw [List.length_map]; have := hF.len; omega)
    have ni : dNotIn (.tup (p.map D.int)) (.lst (F.map fun x : FRow => pwD x.1)) = some (.bl (!decide (p ∈ keysF F))) := by
      have := pw_notin p (keysF F)
      unfold keysF at this
      rw [List.map_map] at this
      exact this
    by_cases hz : r = 0
    · refine ⟨[b2, .int n, .int rows, .int deg, .int kind, foD F, .int i, x7, x8, x9, x10, x11, x12], [b5, .int n, .int rows, .int deg, .int kind, foD F, .int i, .lst (p.map D.int), z8, z9, enc r, x11, x12], rfl, ?_, _, _, _, _, _, _, _, _, _, rfl, ⟨hF.pw, hF.nz, hF.nk, hF.nd, by have := hF.len; omega⟩, B5.mono (by omega)⟩
      have e0 : decide (r ≠ 0) = false := decide_eq_false (fun n => n hz)
      rw [e0] at ne
      simp only [EX, rp, e3, e4, e5, e6, ne]
    · have e0 : decide (r ≠ 0) = true := decide_eq_true hz
      rw [e0] at ne
      by_cases hm : p ∈ keysF F
      · refine ⟨[b2, .int n, .int rows, .int deg, .int kind, foD F, .int i, x7, x8, x9, x10, x11, x12], [b5, .int n, .int rows, .int deg, .int kind, foD F, .int i, .lst (p.map D.int), z8, z9, enc r, z11, z12], rfl, ?_, _, _, _, _, _, _, _, _, _, rfl, ⟨hF.pw, hF.nz, hF.nk, hF.nd, by have := hF.len; omega⟩, B5.mono (by omega)⟩
        rw [decide_eq_true hm] at ni
        simp only [EX, rp, e3, e4, e5, e6, ne, gl, lc2_0 hl, c, ni]
      · rw [decide_eq_false hm] at ni
        have ap : mAppend (foD F) [.tup [.tup (p.map D.int), enc r]] = some (foD (F ++ [(p, r)]), .non) := by
          show mAppend (.lst (F.map frD)) [frD (p, r)] = some (.lst ((F ++ [(p, r)]).map frD), .non)
          rw [append_l, List.map_append]
          · rfl
          · rw [List.length_map, sizeLine_eq]; have := hF.len; omega
        have il : isTy "list" (foD F) = true := rfl
        have fl : ∀ σ, flat2 (.ok (.tup (p.map D.int)) σ) = .ok (.tup (p.map D.int)) σ := fun σ => fl2P p σ
        refine ⟨[b2, .int n, .int rows, .int deg, .int kind, foD F, .int i, x7, x8, x9, x10, x11, x12], [b5, .int n, .int rows, .int deg, .int kind, foD (F ++ [(p, r)]), .int i, .lst (p.map D.int), z8, z9, enc r, z11, z12], rfl, ?_, _, _, _, _, _, _, _, _, _, rfl, ⟨?_, ?_, ?_, ?_, by rw [List.length_append]; have := hF.len; simp; omega⟩, B5.mono (by omega)⟩
        · simp only [EX, rp, e3, e4, e5, e6, ne, gl, lc2_0 hl, c, ni, fl, fl2E, il, ap]
        · intro x hx
          rcases List.mem_append.mp hx with hx | hx
          · exact hF.pw x hx
          · rw [List.mem_singleton.mp hx]; exact hp
        · intro x hx
          rcases List.mem_append.mp hx with hx | hx
          · exact hF.nz x hx
          · rw [List.mem_singleton.mp hx]; exact hz
        · intro x hx
          rcases List.mem_append.mp hx with hx | hx
          · exact hF.nk x hx
          · rw [List.mem_singleton.mp hx]; exact hr'
        · unfold keysF
          rw [List.map_append, List.nodup_append]
          refine ⟨hF.nd, by simp, fun a ha b hb e => ?_⟩
          have hb : b = p := by simpa using hb
          exact hm (hb ▸ e ▸ ha))
  have so := sortedF_eq (Pw.len hF.pw)
  have gt : gRng [.int (T : Int)] = some (rngD 0 T) := rngN T (by omega)
  have E : forL (.nm 6) _ (rngD 0 T) [b1, .int n, .int rows, .int deg, .int kind, .lst [], .non, .non, .non, .non, .non, .non, .non] = .nxt [b', .int n, .int rows, .int deg, .int kind, foD F, x6, x7, x8, x9, x10, x11, x12] := E
  refine ⟨sortF F, b', ?_, ?_, B'.mono (by omega), sortF_pw F⟩
  · unfold d__law_form
    simp only [EX, e1, gt, E, so]
  · have := hF.perm (sortF_perm F)
    exact ⟨this.pw, this.nz, this.nk, this.nd, by have := this.len; omega⟩
theorem lform_eq {k : Int} {b : D} (h : Bag k b) (hk : k < 2 ^ 17) {n rows deg : Nat} {kind : Int} (hn : 0 < n) (hn2 : n ≤ 200) (hr : rows ≤ 20) (hd : deg ≤ 20) (h0 : 0 ≤ kind) (h4 : kind < 4) : ∃ F b', d__law_form [b, .int n, .int rows, .int deg, .int kind] = .ret (foD F) [b'] ∧ FDr n rows deg kind F ∧ Bag (k + 1000) b' := by
  obtain ⟨F, b', e, h, B, _⟩ := lform_srt h hk hn hn2 hr hd h0 h4
  exact ⟨F, b', e, h, B⟩
theorem is_number_ii (a b : Int) : d_is_number [.tup [.int a, .int b]] = .ret (.bl (decide (1 ≤ b) && decide (Int.gcd a b = 1))) [] := by
  have w : ∀ i : Int, d_is_whole [.int i] = .ret (.bl true) [] := fun i => by
    unfold d_is_whole
    simp only [EV, isII, isIB]
  have l2 : fLen [D.tup [.int a, .int b]] = some (.int 2) := rfl
  have t2 : fIs .tuple (D.tup [.int a, .int b]) = some (.bl true) := rfl
  have i0 : dIx (.tup [.int a, .int b]) (.int 0) = some (.int a) := ix_t0
  have i1 : dIx (.tup [.int a, .int b]) (.int 1) = some (.int b) := ix_t1
  have s := shared_eq a b
  have g : decide (((Int.gcd a b : Nat) : Int) = 1) = decide (Int.gcd a b = 1) := decide_eq_decide.mpr (by omega)
  unfold d_is_number
  by_cases h : 1 ≤ b
  · simp only [EV, w, l2, t2, i0, i1, s, h, g, Bool.true_and]
  · simp only [EV, w, l2, t2, i0, i1, s, h, Bool.false_and]
def prodD (x : List Int × (Int × Int)) : D := .tup [.tup (x.1.map D.int), .tup [.int x.2.1, .int x.2.2]]
abbrev PR := List Int × (Int × Int)
structure OkR (n : Nat) (x : PR) : Prop where
  len : x.1.length = n
  nn : ∀ a ∈ x.1, 0 ≤ a
  pos : 1 ≤ x.2.2
  low : Int.gcd x.2.1 x.2.2 = 1
theorem whole_i (i : Int) : d_is_whole [.int i] = .ret (.bl true) [] := by
  unfold d_is_whole
  simp only [EV, isII, isIB]
theorem is_powers_eq {P : List Int} (nn : ∀ a ∈ P, 0 ≤ a) (hl : P.length ≤ 10000) : d_is_powers [.tup (P.map D.int), .int P.length] = .ret (.bl (le60 P)) [] := by
  have t5 : fIs .tuple (.tup (P.map D.int)) = some (.bl true) := rfl
  have t6 : fLen [.tup (P.map D.int)] = some (.int P.length) := by
    show some (D.int ((P.map D.int).length : Nat)) = _
    rw [List.length_map]
  have hz : (P.map D.int).length ≤ sizeLine := lcN (by rw [List.length_map]; exact hl)
  obtain ⟨_, c, w, rfl⟩ := lcL_mapG (T := .nm 2) (ge := eAnd (eCall d_is_whole [] (aCons (eVar 2) aNil)) (eChain dLe dLe (eC (.int 0)) (eVar 2) (eC (.int 60)))) D.int (fun a : Int => D.bl (decide (a ≤ 60))) (fun σ => ∃ w, σ = [.tup (P.map D.int), .int P.length, w]) P [.tup (P.map D.int), .int P.length, .non] ⟨_, rfl⟩ (by
    rintro a ha σ ⟨w, rfl⟩
    have a0 := nn a ha
    refine ⟨[.tup (P.map D.int), .int P.length, .int a], [.tup (P.map D.int), .int P.length, .int a], rfl, ?_, _, rfl⟩
    by_cases h : a ≤ 60
    · simp only [EW, whole_i, a0, h]
    · simp only [EW, whole_i, a0, h])
  unfold d_is_powers
  simp only [EW, t5, t6, lc2_0 hz, c, all_bls]
  rfl
def nzR (x : PR) : Bool := !decide ([x.2.1, x.2.2] = [0, 1])
theorem ne_nought (a b : Int) : dNe (.tup [.int a, .int b]) (.tup [.int 0, .int 1]) = some (.bl (!decide ([a, b] = [0, 1]))) := by
  have := eqv_pw [a, b] [0, 1]
  have t : (D.tup [.int a, .int b]).eqv (.tup [.int 0, .int 1]) = decide ([a, b] = [0, 1]) := this
  rw [dNe_of rfl rfl, t]
theorem eq_nought (a b : Int) : dEq (.tup [.int a, .int b]) (.tup [.int 0, .int 1]) = some (.bl (decide ([a, b] = [0, 1]))) := by
  have := eqv_pw [a, b] [0, 1]
  have t : (D.tup [.int a, .int b]).eqv (.tup [.int 0, .int 1]) = decide ([a, b] = [0, 1]) := this
  rw [dEq_of rfl rfl, t]
theorem prod_ix (x : PR) : dIx (prodD x) (.int 0) = some (.tup (x.1.map D.int)) ∧ dIx (prodD x) (.int 1) = some (.tup [.int x.2.1, .int x.2.2]) := ⟨ix_tN (n := 0) rfl, ix_tN (n := 1) rfl⟩
theorem is_row_eq {n : Nat} {x : PR} (h : OkR n x) (hn : n ≤ 1000) : d_is_row [prodD x, .int n] = .ret (.bl (le60 x.1 && nzR x)) [] := by
  have t1 : fIs .tuple (prodD x) = some (.bl true) := rfl
  have t2 : fLen [prodD x] = some (.int 2) := rfl
  obtain ⟨i0, i1⟩ := prod_ix x
  have pw := is_powers_eq h.nn (by rw [h.len]; omega)
  rw [h.len] at pw
  have nu := is_number_ii x.2.1 x.2.2
  rw [decide_eq_true h.pos, decide_eq_true h.low] at nu
  have nu : d_is_number [.tup [.int x.2.1, .int x.2.2]] = .ret (.bl true) [] := nu
  have ne := ne_nought x.2.1 x.2.2
  unfold d_is_row nzR
  cases hp : le60 x.1 with
  | false =>
    rw [hp] at pw
    simp only [EV, t1, t2, i0, i1, pw, Bool.false_and]
  | true =>
    rw [hp] at pw
    simp only [EV, t1, t2, i0, i1, pw, nu, ne, Bool.true_and]
theorem zipD_pr : ∀ F G : List PR, zipD (F.map prodD) (G.map prodD) = (F.zip G).map fun p => .tup [prodD p.1, prodD p.2]
  | [], _ => by cases ‹List PR› <;> rfl
  | _ :: _, [] => rfl
  | a :: p, b :: q => by
    show D.tup [prodD a, prodD b] :: zipD (p.map prodD) (q.map prodD) = _
    rw [zipD_pr p q]; rfl
theorem ltT_ints (p q : List Int) : dLtT (.tup (p.map D.int)) (.tup (q.map D.int)) = some (.bl (HT.lexLt p q)) := by
  show (intsOf (p.map D.int)).bind _ = _
  rw [intsOf_ints]
  show (intsOf (q.map D.int)).map _ = _
  rw [intsOf_ints]
  rfl
/-- rows one behind the other -/
def incR (F : List PR) : Bool := (F.zip (F.drop 1)).all fun p => HT.lexLt p.1.1 p.2.1
def goodR (F : List PR) : Bool := decide (F.length ≤ 60) && F.all (fun x => le60 x.1 && nzR x) && incR F
def rowsD (F : List PR) : D := .lst (F.map prodD)
section
variable {F : List PR}
theorem rowsD_len : fLen [rowsD F] = some (.int F.length) := by
  show some (D.int ((F.map prodD).length : Nat)) = _
  rw [List.length_map]
theorem rowsD_from : dSlL (rowsD F) (some 1) none = some (rowsD (F.drop 1)) := by
  have := cut_from (xs := F.map prodD) (n := 1)
  show some (D.lst (cutD (F.map prodD) (some ((1 : Nat) : Int)) none)) = _
  rw [this, ← List.map_drop]
  rfl
theorem rowsD_zip : fZip [rowsD F, rowsD (F.drop 1)] = some ((F.zip (F.drop 1)).map fun p => .tup [prodD p.1, prodD p.2]) := by
  show some (zipD _ _) = _
  rw [zipD_pr]
theorem rowsD_list (σ : List D) : list2 (.ok (rowsD F) σ) = .ok (F.map prodD) σ := rfl
end
theorem is_form_eq {n : Nat} {F : List PR} (h : ∀ x ∈ F, OkR n x) (hn : n ≤ 1000) (hl : F.length ≤ 10001) : d_is_form [rowsD F, .int n] = .ret (.bl (goodR F)) [] := by
  have isl : fIs .list (rowsD F) = some (.bl true) := rfl
  have ln := rowsD_len (F := F)
  unfold d_is_form goodR
  by_cases h6 : F.length ≤ 60
  · have g60 : ¬ (60 : Int) < F.length := by omega
    have hz : (F.map prodD).length ≤ sizeLine := lcN (by rw [List.length_map]; omega)
    obtain ⟨_, c, w, rfl⟩ := lcL_mapG (T := .nm 4) (ge := eCall d_is_row [] (aCons (eVar 4) (aCons (eVar 1) aNil))) prodD (fun x : PR => D.bl (le60 x.1 && nzR x)) (fun σ => ∃ w, σ = [rowsD F, .int n, .non, .non, w]) F [rowsD F, .int n, .non, .non, .non] ⟨_, rfl⟩ (by
      rintro x hx σ ⟨w, rfl⟩
      refine ⟨[rowsD F, .int n, .non, .non, prodD x], [rowsD F, .int n, .non, .non, prodD x], rfl, ?_, _, rfl⟩
      simp only [EW, is_row_eq (h x hx) hn])
    have hz2 : ((F.zip (F.drop 1)).map fun p : PR × PR => D.tup [prodD p.1, prodD p.2]).length ≤ sizeLine := lcN (by rw [List.length_map, List.length_zip]; omega)
    obtain ⟨_, c2, x3, x4, rfl⟩ := lcL_mapG (T := .tp [2, 3]) (ge := eBin dLtT (eBin dIx (eVar 2) (eC (.int 0))) (eBin dIx (eVar 3) (eC (.int 0)))) (fun p : PR × PR => .tup [prodD p.1, prodD p.2]) (fun p : PR × PR => D.bl (HT.lexLt p.1.1 p.2.1)) (fun σ => ∃ x3 x4, σ = [rowsD F, .int n, x3, x4, w]) (F.zip (F.drop 1)) [rowsD F, .int n, .non, .non, w] ⟨_, _, rfl⟩ (by
      rintro p hp σ ⟨x3, x4, rfl⟩
      refine ⟨[rowsD F, .int n, prodD p.1, prodD p.2, w], [rowsD F, .int n, prodD p.1, prodD p.2, w], rfl, ?_, _, _, rfl⟩
      simp only [EW, (prod_ix p.1).1, (prod_ix p.2).1, ltT_ints])
    rw [decide_eq_true h6]
    cases ha : F.all (fun x => le60 x.1 && nzR x) with
    | false => simp only [EW, isl, ln, g60, rowsD_list, lc2_0 hz, c, all_bls, ha, Bool.true_and, Bool.false_and]
    | true =>
      simp only [EW, isl, ln, g60, rowsD_list, lc2_0 hz, c, all_bls, ha, Bool.true_and, rowsD_from, rowsD_zip, lc2_0 hz2, c2]
      rfl
  · have g60 : (60 : Int) < F.length := by omega
    rw [decide_eq_false h6]
    simp only [EW, isl, ln, g60, Bool.false_and]
def isIn : D → Bool
  | .int _ => true
  | _ => false
theorem whole_d {d : D} (h : d.shk = true) : d_is_whole [d] = .ret (.bl (isIn d)) [] := by
  unfold d_is_whole
  cases d with
  | int i => simp only [EV, isII, isIB]; rfl
  | bl b =>
    have t1 : fIs .int (.bl b) = some (.bl true) := rfl
    have t2 : fIs .bool (.bl b) = some (.bl true) := rfl
    simp only [EV, t1, t2]
    rfl
  | non => have t1 : fIs .int .non = some (.bl false) := rfl; simp only [EV, t1]; rfl
  | str x => have t1 : fIs .int (.str x) = some (.bl false) := rfl; simp only [EV, t1]; rfl
  | tup ds => have t1 : fIs .int (.tup ds) = some (.bl false) := rfl; simp only [EV, t1]; rfl
  | lst ds => have t1 : fIs .int (.lst ds) = some (.bl false) := rfl; simp only [EV, t1]; rfl
  | dK _ => cases h
  | dT _ => cases h
  | ins _ _ => cases h
  | fzl _ => cases h
  | exn _ _ => cases h
theorem lwhole_same : d__law_whole = d_is_whole := rfl
def okP : D → Bool
  | .int a => decide (0 ≤ a) && decide (a ≤ 60)
  | _ => false
theorem okP_at {d : D} (h : d.shk = true) (f : List D → FR) (hf : f = d_is_whole) (k : Nat) {σ : List D} (hk : σ.getD k .non = d) : eAnd (eCall f [] (aCons (eVar k) aNil)) (eChain dLe dLe (eC (.int 0)) (eVar k) (eC (.int 60))) σ = .ok (.bl (okP d)) σ := by
  have w := whole_d h
  subst hf
  have v : ∀ τ : List D, τ = σ → eVar k τ = .ok d τ := fun τ e => by subst e; rw [a_var, hk]
  have v := v σ rfl
  cases e : isIn d with
  | false =>
    have : okP d = false := by cases d <;> first | rfl | cases e
    rw [e] at w
    rw [this]
    simp only [EV, hk, w]
  | true =>
    cases d with
    | int a =>
      rw [e] at w
      show _ = ER.ok (D.bl (decide (0 ≤ a) && decide (a ≤ 60))) σ
      by_cases h1 : 0 ≤ a
      · by_cases h2 : a ≤ 60 <;> simp only [EW, hk, w, h1, h2, Bool.true_and, Bool.and_self]
      · simp only [EW, hk, w, h1, Bool.false_and]
    | _ => cases e
def okPw (n : Nat) : D → Bool
  | .tup ps => decide (ps.length = n) && ps.all okP
  | _ => false
def okN : D → Bool
  | .tup [.int a, .int b] => decide (1 ≤ b) && decide (Int.gcd a b = 1)
  | _ => false
def isNt : D → Bool
  | .tup [.int a, .int b] => decide ([a, b] = [0, 1])
  | _ => false
def okR (n : Nat) : D → Bool
  | .tup [p, q] => okPw n p && (okN q && !isNt q)
  | _ => false
theorem isTup_d {d : D} (h : d.shk = true) : fIs .tuple d = some (.bl (match d with | .tup _ => true | _ => false)) := by
  cases d <;> first | rfl | cases h
theorem isLst_d {d : D} (h : d.shk = true) : fIs .list d = some (.bl (match d with | .lst _ => true | _ => false)) := by
  cases d <;> first | rfl | cases h
theorem tup_parts {ds : List D} (h : (D.tup ds).shk = true) : ∀ d ∈ ds, d.shk = true := (shks_iff ds).mp h
theorem lenT (ds : List D) : fLen [.tup ds] = some (.int ds.length) := (rfl)
theorem lenL (ds : List D) : fLen [.lst ds] = some (.int ds.length) := (rfl)
theorem powers_d {p : D} (h : p.shk = true) {n : Nat} (hl : ∀ ps, p = .tup ps → ps.length ≤ 10000) : d_is_powers [p, .int n] = .ret (.bl (okPw n p)) [] := by
  have it := isTup_d h
  unfold d_is_powers
  cases p with
  | tup ps =>
    have hl := hl ps rfl
    have hz : ps.length ≤ sizeLine := lcN hl
    obtain ⟨_, c, w, rfl⟩ := lcL_mapG (T := .nm 2) (ge := eAnd (eCall d_is_whole [] (aCons (eVar 2) aNil)) (eChain dLe dLe (eC (.int 0)) (eVar 2) (eC (.int 60)))) (fun d : D => d) (fun d => D.bl (okP d)) (fun σ => ∃ w, σ = [.tup ps, .int n, w]) ps [.tup ps, .int n, .non] ⟨_, rfl⟩ (by
      rintro d hd σ ⟨w, rfl⟩
      exact ⟨[.tup ps, .int n, d], [.tup ps, .int n, d], rfl, okP_at (tup_parts h d hd) _ rfl 2 rfl, _, rfl⟩)
    rw [List.map_id'] at c
    have ln := lenT ps
    have it : fIs .tuple (.tup ps) = some (.bl true) := it
    have gt : ∀ σ : List D, gtup2 (.ok (.tup ps) σ) = .ok ps σ := fun _ => rfl
    show _ = FR.ret (D.bl (decide (ps.length = n) && ps.all okP)) []
    by_cases e : ps.length = n
    · have ne : dNe (.int ps.length) (.int n) = some (.bl false) := by rw [e, ne_ii]; simp
      rw [decide_eq_true e]
      simp only [EW, it, ln, ne, gt, lc2_0 hz, c, all_bls, Bool.true_and]
    · have ne : dNe (.int ps.length) (.int n) = some (.bl true) := by
        rw [ne_ii]
        have : (ps.length : Int) ≠ n := by omega
        simp [this]
      rw [decide_eq_false e]
      simp only [EW, it, ln, ne, Bool.false_and]
  | non => have it : fIs .tuple .non = some (.bl false) := it; simp only [EW, it]; rfl
  | bl b => have it : fIs .tuple (.bl b) = some (.bl false) := it; simp only [EW, it]; rfl
  | int i => have it : fIs .tuple (.int i) = some (.bl false) := it; simp only [EW, it]; rfl
  | str x => have it : fIs .tuple (.str x) = some (.bl false) := it; simp only [EW, it]; rfl
  | lst x => have it : fIs .tuple (.lst x) = some (.bl false) := it; simp only [EW, it]; rfl
  | dK _ => cases h
  | dT _ => cases h
  | ins _ _ => cases h
  | fzl _ => cases h
  | exn _ _ => cases h
/-- a pair of whole numbers, or what is told apart from one -/
inductive PairD : D → Prop
  | yes (a b : Int) : PairD (.tup [.int a, .int b])
  | notT {d : D} (h : fIs .tuple d = some (.bl false)) (e : okN d = false) : PairD d
  | len {ds : List D} (h : ds.length ≠ 2) (e : okN (.tup ds) = false) : PairD (.tup ds)
  | odd0 {x y : D} (h : isIn x = false) (e : okN (.tup [x, y]) = false) : PairD (.tup [x, y])
  | odd1 {x y : D} (h : isIn x = true) (h2 : isIn y = false) (e : okN (.tup [x, y]) = false) : PairD (.tup [x, y])
theorem pairD {d : D} (h : d.shk = true) : PairD d := by
  have it := isTup_d h
  cases d with
  | tup ds =>
    by_cases hl : ds.length = 2
    · obtain ⟨x, y, rfl⟩ : ∃ x y, ds = [x, y] := by
        match ds, hl with
        | [x, y], _ => exact ⟨x, y, rfl⟩
      cases ex : isIn x with
      | false => exact .odd0 ex (by cases x <;> first | rfl | cases ex)
      | true =>
        cases ey : isIn y with
        | false => exact .odd1 ex ey (by cases x <;> cases y <;> first | rfl | (cases ey; done) | (cases ex; done))
        | true =>
          cases x with
          | int a =>
            cases y with
            | int b => exact .yes a b
            | _ => cases ey
          | _ => cases ex
    · refine .len hl ?_
      match ds, hl with
      | [], _ => rfl
      | [x], _ => cases x <;> rfl
      | [_, _], h => exact absurd rfl h
      | x :: y :: _ :: _, _ => cases x <;> first | rfl | (cases y <;> rfl)
  | dK _ => cases h
  | dT _ => cases h
  | ins _ _ => cases h
  | fzl _ => cases h
  | exn _ _ => cases h
  | _ => exact .notT it rfl
theorem number_d {d : D} (h : d.shk = true) : d_is_number [d] = .ret (.bl (okN d)) [] := by
  cases pairD h with
  | yes a b => exact is_number_ii a b
  | notT it e => unfold d_is_number; simp only [EV, it, e]
  | @len ds hl e =>
    have it : fIs .tuple (.tup ds) = some (.bl true) := rfl
    have ln := lenT ds
    have ne : dNe (.int ds.length) (.int 2) = some (.bl true) := by
      rw [ne_ii]
      have : (ds.length : Int) ≠ 2 := by omega
      simp [this]
    unfold d_is_number
    simp only [EV, it, ln, ne, e]
  | @odd0 x y hx e =>
    have w := whole_d (tup_parts h x (by simp))
    rw [hx] at w
    have it : fIs .tuple (.tup [x, y]) = some (.bl true) := rfl
    have ln : fLen [.tup [x, y]] = some (.int 2) := rfl
    have ne : dNe (.int 2) (.int 2) = some (.bl false) := rfl
    unfold d_is_number
    simp only [EV, it, ln, ne, w, e]
  | @odd1 x y hx hy e =>
    have w := whole_d (tup_parts h x (by simp))
    have w2 := whole_d (tup_parts h y (by simp))
    rw [hx] at w
    rw [hy] at w2
    have it : fIs .tuple (.tup [x, y]) = some (.bl true) := rfl
    have ln : fLen [.tup [x, y]] = some (.int 2) := rfl
    have ne : dNe (.int 2) (.int 2) = some (.bl false) := rfl
    unfold d_is_number
    simp only [EV, it, ln, ne, w, w2, e]
theorem shk_int {i : Int} (h : (D.int i).shk = true) : i.natAbs < 10 ^ 60 := of_decide_eq_true h
theorem lnumber_d {d : D} (h : d.shk = true) : d__law_is_number [d] = .ret (.bl (okN d)) [] := by
  cases pairD h with
  | yes a b =>
    have it : fIs .tuple (.tup [.int a, .int b]) = some (.bl true) := rfl
    have ln : fLen [D.tup [.int a, .int b]] = some (.int 2) := rfl
    have ne : dNe (.int 2) (.int 2) = some (.bl false) := rfl
    have w : ∀ i : Int, d__law_whole [.int i] = .ret (.bl true) [] := whole_i
    have hb := shk_int (tup_parts h (.int b) (by simp))
    have i0 : dIx (.tup [.int a, .int b]) (.int 0) = some (.int a) := ix_t0
    have i1 : dIx (.tup [.int a, .int b]) (.int 1) = some (.int b) := ix_t1
    show _ = FR.ret (D.bl (decide (1 ≤ b) && decide (Int.gcd a b = 1))) []
    unfold d__law_is_number
    by_cases b0 : 0 < b
    · have b1 : 1 ≤ b := b0
      have lw := low_eq a b b0 (Nat.lt_trans hb (by
        refine Nat.lt_of_lt_of_le (m := 2 ^ 200) ?_ (Nat.pow_le_pow_right (by decide) (by decide))
        decide +kernel))
      have eq : dEq (enc (Rat.divInt a b)) (.tup [.int a, .int b]) = some (.bl (decide (Int.gcd a b = 1))) := by
        have d1 : (enc (Rat.divInt a b)).dat 64 = true := dat_enc _
        have d2 : (D.tup [.int a, .int b]).dat 64 = true := by simp [D.dat]
        rw [dEq_of d1 d2]
        obtain ⟨n1, n2⟩ := num_den a b (by omega)
        have ev : (enc (Rat.divInt a b)).eqv (.tup [.int a, .int b]) = (decide ((Rat.divInt a b).num = a) && decide (((Rat.divInt a b).den : Int) = b)) := by
          simp [enc, D.eqv, D.py, D.pys, PyData.eqv, PyData.eqvAll]
          rfl
        rw [ev, n1, n2]
        congr 2
        have gp : 0 < ((Int.gcd a b : Nat) : Int) := by have := gcd_pos (a := a) (b := b) (by omega); omega
        have hd : (((Int.gcd a b : Nat) : Int)) ∣ b := Int.gcd_dvd_right ..
        by_cases g : Int.gcd a b = 1
        · rw [g]
          simp
        · rw [decide_eq_false g]
          rw [Bool.and_eq_false_iff]
          right
          refine decide_eq_false fun z => g ?_
          have m := Int.ediv_mul_cancel hd
          rw [z] at m
          have : b * (((Int.gcd a b : Nat) : Int) - 1) = 0 := by rw [Int.mul_sub, m]; omega
          rcases Int.mul_eq_zero.mp this with h | h
          · omega
          · omega
      rw [decide_eq_true b1, Bool.true_and]
      simp only [EV, it, ln, ne, w, i0, i1, b0, lw, eq]
    · rw [decide_eq_false (by omega : ¬ 1 ≤ b), Bool.false_and]
      simp only [EV, it, ln, ne, w, i0, i1, b0]
  | notT it e => unfold d__law_is_number; simp only [EV, it, e]
  | @len ds hl e =>
    have it : fIs .tuple (.tup ds) = some (.bl true) := rfl
    have ln := lenT ds
    have ne : dNe (.int ds.length) (.int 2) = some (.bl true) := by
      rw [ne_ii]
      have : (ds.length : Int) ≠ 2 := by omega
      simp [this]
    unfold d__law_is_number
    simp only [EV, it, ln, ne, e]
  | @odd0 x y hx e =>
    have w := whole_d (tup_parts h x (by simp))
    rw [hx, ← lwhole_same] at w
    have it : fIs .tuple (.tup [x, y]) = some (.bl true) := rfl
    have ln : fLen [.tup [x, y]] = some (.int 2) := rfl
    have ne : dNe (.int 2) (.int 2) = some (.bl false) := rfl
    unfold d__law_is_number
    simp only [EV, it, ln, ne, w, e]
  | @odd1 x y hx hy e =>
    have w := whole_d (tup_parts h x (by simp))
    have w2 := whole_d (tup_parts h y (by simp))
    rw [hx, ← lwhole_same] at w
    rw [hy, ← lwhole_same] at w2
    have it : fIs .tuple (.tup [x, y]) = some (.bl true) := rfl
    have ln : fLen [.tup [x, y]] = some (.int 2) := rfl
    have ne : dNe (.int 2) (.int 2) = some (.bl false) := rfl
    unfold d__law_is_number
    simp only [EV, it, ln, ne, w, w2, e]

theorem row_d {d : D} (h : d.shk = true) {n : Nat} (hl : d.wt ≤ 10000) : d_is_row [d, .int n] = .ret (.bl (okR n d)) [] := by
  have it := isTup_d h
  unfold d_is_row
  cases d with
  | tup ds =>
    have it : fIs .tuple (.tup ds) = some (.bl true) := it
    have ln := lenT ds
    by_cases h2 : ds.length = 2
    · obtain ⟨p, q, rfl⟩ : ∃ x y, ds = [x, y] := by
        match ds, h2 with
        | [x, y], _ => exact ⟨x, y, rfl⟩
      have hp := tup_parts h p (by simp)
      have hq := tup_parts h q (by simp)
      have wl : ∀ ps, p = .tup ps → ps.length ≤ 10000 := fun ps e => by
        subst e
        have w1 : 1 + ((1 + D.wts ps) + (q.wt + 0)) ≤ 10000 := hl
        have : ∀ l : List D, l.length ≤ D.wts l := fun l => by
          induction l with
          | nil => exact Nat.le_refl _
          | cons a l ih =>
            have a1 : 1 ≤ a.wt := by cases a <;> first | exact Nat.le_refl 1 | exact Nat.le_add_right 1 _
            show l.length + 1 ≤ a.wt + D.wts l
            omega
        have := this ps
        omega
      have pw := powers_d hp (n := n) wl
      have nu := number_d hq
      have ln : fLen [.tup [p, q]] = some (.int 2) := rfl
      have ne : dNe (.int 2) (.int 2) = some (.bl false) := rfl
      have i0 : dIx (.tup [p, q]) (.int 0) = some p := ix_t0
      have i1 : dIx (.tup [p, q]) (.int 1) = some q := ix_t1
      show _ = FR.ret (D.bl (okPw n p && (okN q && !isNt q))) []
      cases e1 : okPw n p with
      | false =>
        rw [e1] at pw
        simp only [EV, it, ln, ne, i0, pw, Bool.false_and]
      | true =>
        rw [e1] at pw
        cases e2 : okN q with
        | false =>
          rw [e2] at nu
          simp only [EV, it, ln, ne, i0, i1, pw, nu, Bool.false_and, Bool.true_and]
        | true =>
          rw [e2] at nu
          cases pairD hq with
          | yes a b =>
            have nn := ne_nought a b
            show _ = FR.ret (D.bl (true && (true && !decide ([a, b] = [0, 1])))) []
            simp only [EV, it, ln, ne, i0, i1, pw, nu, nn, Bool.true_and]
          | notT _ e => rw [e2] at e; cases e
          | len _ e => rw [e2] at e; cases e
          | odd0 _ e => rw [e2] at e; cases e
          | odd1 _ _ e => rw [e2] at e; cases e
    · have ne : dNe (.int ds.length) (.int 2) = some (.bl true) := by
        rw [ne_ii]
        have : (ds.length : Int) ≠ 2 := by omega
        simp [this]
      have e : okR n (.tup ds) = false := by
        match ds, h2 with
        | [], _ => rfl
        | [x], _ => rfl
        | [_, _], h => exact absurd rfl h
        | x :: y :: _ :: _, _ => rfl
      rw [e]
      simp only [EV, it, ln, ne]
  | non => have it : fIs .tuple .non = some (.bl false) := it; simp only [EW, it]; rfl
  | bl b => have it : fIs .tuple (.bl b) = some (.bl false) := it; simp only [EW, it]; rfl
  | int i => have it : fIs .tuple (.int i) = some (.bl false) := it; simp only [EW, it]; rfl
  | str x => have it : fIs .tuple (.str x) = some (.bl false) := it; simp only [EW, it]; rfl
  | lst x => have it : fIs .tuple (.lst x) = some (.bl false) := it; simp only [EW, it]; rfl
  | dK _ => cases h
  | dT _ => cases h
  | ins _ _ => cases h
  | fzl _ => cases h
  | exn _ _ => cases h
/-- what is a row, is one of whole numbers -/
theorem row_of {d : D} {n : Nat} (h : okR n d = true) : ∃ x : PR, d = prodD x ∧ OkR n x ∧ (le60 x.1 && nzR x) = true := by
  unfold okR at h
  split at h
  · rename_i p q
    simp only [Bool.and_eq_true] at h
    obtain ⟨hp, hq, hn⟩ := h
    unfold okPw at hp
    split at hp
    · rename_i ps
      simp only [Bool.and_eq_true, decide_eq_true_eq] at hp
      obtain ⟨hl, ha⟩ := hp
      have key : ∀ ps : List D, ps.all okP = true → ∃ P : List Int, ps = P.map D.int ∧ ∀ a ∈ P, 0 ≤ a ∧ a ≤ 60 := fun ps => by
        induction ps with
        | nil => exact fun _ => ⟨[], rfl, fun a h => by cases h⟩
        | cons d ps ih =>
          intro h
          rw [List.all_cons, Bool.and_eq_true] at h
          obtain ⟨P, rfl, hP⟩ := ih h.2
          cases d with
          | int a =>
            have : (decide (0 ≤ a) && decide (a ≤ 60)) = true := h.1
            simp only [Bool.and_eq_true, decide_eq_true_eq] at this
            exact ⟨a :: P, rfl, fun b hb => (List.mem_cons.mp hb).elim (fun e => e ▸ this) (hP b)⟩
          | _ => cases h.1
      obtain ⟨P, rfl, hP⟩ := key ps ha
      unfold okN at hq
      split at hq
      · rename_i a b
        simp only [Bool.and_eq_true, decide_eq_true_eq] at hq
        refine ⟨(P, (a, b)), rfl, ⟨by simpa using hl, fun c hc => (hP c hc).1, hq.1, hq.2⟩, ?_⟩
        rw [Bool.and_eq_true]
        exact ⟨List.all_eq_true.mpr fun c hc => decide_eq_true (hP c hc).2, hn⟩
      · cases hq
    · cases hp
  · cases h
theorem rows_of {n : Nat} : ∀ {ds : List D}, ds.all (okR n) = true → ∃ F : List PR, ds = F.map prodD ∧ (∀ x ∈ F, OkR n x) ∧ F.all (fun x => le60 x.1 && nzR x) = true
  | [], _ => ⟨[], rfl, fun x h => (by cases h), rfl⟩
  | d :: ds, h => by
    rw [List.all_cons, Bool.and_eq_true] at h
    obtain ⟨x, rfl, h1, h2⟩ := row_of h.1
    obtain ⟨F, rfl, h3, h4⟩ := rows_of h.2
    exact ⟨x :: F, rfl, fun y hy => (List.mem_cons.mp hy).elim (fun e => e ▸ h1) (h3 y), by rw [List.all_cons, h2, h4]; rfl⟩
theorem pform_d {d : D} (h : d.shk = true) {n : Nat} (hn : n ≤ 1000) (hl : d.wt ≤ 10000) : (∃ F : List PR, d = rowsD F ∧ (∀ x ∈ F, OkR n x) ∧ F.all (fun x => le60 x.1 && nzR x) = true ∧ F.length ≤ 60 ∧ d_is_form [d, .int n] = .ret (.bl (goodR F)) []) ∨
    (d_is_form [d, .int n] = .ret (.bl false) [] ∧ ∀ ds, d = .lst ds → ds.length ≤ 60 → ds.all (okR n) = false) := by
  have it := isLst_d h
  cases d with
  | lst ds =>
    have hw : 1 + D.wts ds ≤ 10000 := hl
    have wl : ∀ l : List D, l.length ≤ D.wts l := fun l => by
      induction l with
      | nil => exact Nat.le_refl _
      | cons a l ih =>
        have a1 : 1 ≤ a.wt := by cases a <;> first | exact Nat.le_refl 1 | exact Nat.le_add_right 1 _
        show l.length + 1 ≤ a.wt + D.wts l
        omega
    have wm : ∀ (l : List D) (d : D), d ∈ l → d.wt ≤ D.wts l := fun l => by
      induction l with
      | nil => intro d h; cases h
      | cons a l ih =>
        intro d hd
        show d.wt ≤ a.wt + D.wts l
        rcases List.mem_cons.mp hd with e | hd
        · rw [e]; exact Nat.le_add_right _ _
        · have := ih d hd
          omega
    have lds := wl ds
    have sh := (shks_iff ds).mp h
    by_cases h6 : ds.length ≤ 60
    · cases ha : ds.all (okR n) with
      | true =>
        obtain ⟨F, rfl, h1, h2⟩ := rows_of ha
        left
        refine ⟨F, rfl, h1, h2, by simpa using h6, ?_⟩
        exact is_form_eq h1 hn (by simp at h6; omega)
      | false =>
        right
        refine ⟨?_, fun es e _ => by cases e; exact ha⟩
        have isl : fIs .list (.lst ds) = some (.bl true) := rfl
        have ln := lenL ds
        have g60 : ¬ (60 : Int) < ds.length := by omega
        have hz : ds.length ≤ sizeLine := lcN (by omega)
        have gl : ∀ σ : List D, list2 (.ok (.lst ds) σ) = .ok ds σ := fun _ => rfl
        obtain ⟨_, c, w, rfl⟩ := lcL_mapG (T := .nm 4) (ge := eCall d_is_row [] (aCons (eVar 4) (aCons (eVar 1) aNil))) (fun d : D => d) (fun d => D.bl (okR n d)) (fun σ => ∃ w, σ = [.lst ds, .int n, .non, .non, w]) ds [.lst ds, .int n, .non, .non, .non] ⟨_, rfl⟩ (by
          rintro d hd σ ⟨w, rfl⟩
          have e := row_d (sh d hd) (n := n) (by have := wm ds d hd; omega)
          refine ⟨[.lst ds, .int n, .non, .non, d], [.lst ds, .int n, .non, .non, d], rfl, ?_, _, rfl⟩
          simp only [EW, e])
        rw [List.map_id'] at c
        unfold d_is_form
        simp only [EW, isl, ln, g60, gl, lc2_0 hz, c, all_bls, ha]
    · right
      refine ⟨?_, fun es e z => by cases e; exact absurd z h6⟩
      have isl : fIs .list (.lst ds) = some (.bl true) := rfl
      have ln := lenL ds
      have g60 : (60 : Int) < ds.length := by omega
      unfold d_is_form
      simp only [EW, isl, ln, g60]
  | non => right; have it : fIs .list .non = some (.bl false) := it; exact ⟨by unfold d_is_form; simp only [EW, it], fun es e => by cases e⟩
  | bl b => right; have it : fIs .list (.bl b) = some (.bl false) := it; exact ⟨by unfold d_is_form; simp only [EW, it], fun es e => by cases e⟩
  | int i => right; have it : fIs .list (.int i) = some (.bl false) := it; exact ⟨by unfold d_is_form; simp only [EW, it], fun es e => by cases e⟩
  | str x => right; have it : fIs .list (.str x) = some (.bl false) := it; exact ⟨by unfold d_is_form; simp only [EW, it], fun es e => by cases e⟩
  | tup x => right; have it : fIs .list (.tup x) = some (.bl false) := it; exact ⟨by unfold d_is_form; simp only [EW, it], fun es e => by cases e⟩
  | dK _ => cases h
  | dT _ => cases h
  | ins _ _ => cases h
  | fzl _ => cases h
  | exn _ _ => cases h
theorem lrow_step {d : D} (h : d.shk = true) {n : Nat} (hl : d.wt ≤ 10000) (x y3 y4 y5 : D) :
    (okR n d = true → ∃ y5', (sSeq (sIf (tOrD (tNotD (tTru (eUn (fIs .tuple) (eVar 2)))) (tOrD (tOf (eBin dNe (eCall1 fLen (aCons (eVar 2) aNil)) (eC (.int 2)))) (tOrD (tNotD (tTru (eUn (fIs .tuple) (eBin dIx (eVar 2) (eC (.int 0)))))) (tOf (eBin dNe (eCall1 fLen (aCons (eBin dIx (eVar 2) (eC (.int 0))) aNil)) (eVar 1))))))
 (sRet (eC (.bl false)))
 sSkip)
 (sSeq (sIf (tNotD (tTru (eCall1 fAll (aCons (eLc (.nm 5) [] (gTupl (eBin dIx (eVar 2) (eC (.int 0)))) tYesD (eAnd (eCall d__law_whole [] (aCons (eVar 5) aNil)) (eChain dLe dLe (eC (.int 0)) (eVar 5) (eC (.int 60))))) aNil))))
 (sRet (eC (.bl false)))
 sSkip)
 (sIf (tOrD (tNotD (tTru (eCall d__law_is_number [] (aCons (eBin dIx (eVar 2) (eC (.int 1))) aNil)))) (tOf (eBin dEq (eBin dIx (eVar 2) (eC (.int 1))) (eTup (aCons (eC (.int 0)) (aCons (eC (.int 1)) aNil))))))
 (sRet (eC (.bl false)))
 sSkip))) [x, .int n, d, y3, y4, y5] = .nxt [x, .int n, d, y3, y4, y5']) ∧
    (okR n d = false → ∃ σ', (sSeq (sIf (tOrD (tNotD (tTru (eUn (fIs .tuple) (eVar 2)))) (tOrD (tOf (eBin dNe (eCall1 fLen (aCons (eVar 2) aNil)) (eC (.int 2)))) (tOrD (tNotD (tTru (eUn (fIs .tuple) (eBin dIx (eVar 2) (eC (.int 0)))))) (tOf (eBin dNe (eCall1 fLen (aCons (eBin dIx (eVar 2) (eC (.int 0))) aNil)) (eVar 1))))))
 (sRet (eC (.bl false)))
 sSkip)
 (sSeq (sIf (tNotD (tTru (eCall1 fAll (aCons (eLc (.nm 5) [] (gTupl (eBin dIx (eVar 2) (eC (.int 0)))) tYesD (eAnd (eCall d__law_whole [] (aCons (eVar 5) aNil)) (eChain dLe dLe (eC (.int 0)) (eVar 5) (eC (.int 60))))) aNil))))
 (sRet (eC (.bl false)))
 sSkip)
 (sIf (tOrD (tNotD (tTru (eCall d__law_is_number [] (aCons (eBin dIx (eVar 2) (eC (.int 1))) aNil)))) (tOf (eBin dEq (eBin dIx (eVar 2) (eC (.int 1))) (eTup (aCons (eC (.int 0)) (aCons (eC (.int 1)) aNil))))))
 (sRet (eC (.bl false)))
 sSkip))) [x, .int n, d, y3, y4, y5] = .ret (.bl false) σ') := by
  generalize hG : (sSeq (sIf _ _ _) (sSeq _ _)) = G
  have it := isTup_d h
  have no : fIs .tuple d = some (.bl false) → okR n d = false → (okR n d = true → ∃ y5', G [x, .int n, d, y3, y4, y5] = .nxt [x, .int n, d, y3, y4, y5']) ∧ (okR n d = false → ∃ σ', G [x, .int n, d, y3, y4, y5] = .ret (.bl false) σ') := fun it e => by
    rw [e]
    refine ⟨fun z => (by cases z), fun _ => ⟨[x, .int n, d, y3, y4, y5], ?_⟩⟩
    subst hG
    simp only [EW, it]
  cases d with
  | tup ds =>
    have it : fIs .tuple (.tup ds) = some (.bl true) := it
    have ln := lenT ds
    by_cases h2 : ds.length = 2
    · obtain ⟨p, q, rfl⟩ : ∃ x y, ds = [x, y] := by
        match ds, h2 with
        | [x, y], _ => exact ⟨x, y, rfl⟩
      have hp := tup_parts h p (by simp)
      have hq := tup_parts h q (by simp)
      have ln : fLen [.tup [p, q]] = some (.int 2) := rfl
      have ne : dNe (.int 2) (.int 2) = some (.bl false) := rfl
      have i0 : dIx (.tup [p, q]) (.int 0) = some p := ix_t0
      have i1 : dIx (.tup [p, q]) (.int 1) = some q := ix_t1
      have itp := isTup_d hp
      have nop : fIs .tuple p = some (.bl false) → okPw n p = false → (okR n (.tup [p, q]) = true → ∃ y5', G [x, .int n, .tup [p, q], y3, y4, y5] = .nxt [x, .int n, .tup [p, q], y3, y4, y5']) ∧ (okR n (.tup [p, q]) = false → ∃ σ', G [x, .int n, .tup [p, q], y3, y4, y5] = .ret (.bl false) σ') := fun itp e => by
        have e2 : okR n (.tup [p, q]) = false := by
          show (okPw n p && _) = false
          rw [e]; rfl
        rw [e2]
        refine ⟨fun z => (by cases z), fun _ => ⟨[x, .int n, .tup [p, q], y3, y4, y5], ?_⟩⟩
        subst hG
        simp only [EW, it, ln, ne, i0, itp]
      cases p with
      | tup ps =>
        have itp : fIs .tuple (.tup ps) = some (.bl true) := itp
        have lp := lenT ps
        have eR : okR n (.tup [.tup ps, q]) = (decide (ps.length = n) && ps.all okP && (okN q && !isNt q)) := rfl
        by_cases hn : ps.length = n
        · have nl : dNe (.int ps.length) (.int n) = some (.bl false) := by rw [hn, ne_ii]; simp
          have wl : ps.length ≤ 10000 := by
            have w1 : 1 + ((1 + D.wts ps) + (q.wt + 0)) ≤ 10000 := hl
            have : ∀ l : List D, l.length ≤ D.wts l := fun l => by
              induction l with
              | nil => exact Nat.le_refl _
              | cons a l ih =>
                have a1 : 1 ≤ a.wt := by cases a <;> first | exact Nat.le_refl 1 | exact Nat.le_add_right 1 _
                show l.length + 1 ≤ a.wt + D.wts l
                omega
            have := this ps
            omega
          have hz : ps.length ≤ sizeLine := lcN wl
          obtain ⟨_, c, w, rfl⟩ := lcL_mapG (T := .nm 5) (ge := eAnd (eCall d__law_whole [] (aCons (eVar 5) aNil)) (eChain dLe dLe (eC (.int 0)) (eVar 5) (eC (.int 60)))) (fun d : D => d) (fun d => D.bl (okP d)) (fun σ => ∃ w, σ = [x, .int n, .tup [.tup ps, q], y3, y4, w]) ps [x, .int n, .tup [.tup ps, q], y3, y4, y5] ⟨_, rfl⟩ (by
            rintro d hd σ ⟨w, rfl⟩
            exact ⟨[x, .int n, .tup [.tup ps, q], y3, y4, d], [x, .int n, .tup [.tup ps, q], y3, y4, d], rfl, okP_at (tup_parts hp d hd) _ lwhole_same 5 rfl, _, rfl⟩)
          rw [List.map_id'] at c
          have gt : ∀ σ : List D, gtup2 (.ok (.tup ps) σ) = .ok ps σ := fun _ => rfl
          have nu := lnumber_d hq
          rw [eR, decide_eq_true hn, Bool.true_and]
          cases ha : ps.all okP with
          | false =>
            refine ⟨fun z => (by cases z), fun _ => ⟨[x, .int n, .tup [.tup ps, q], y3, y4, w], ?_⟩⟩
            subst hG
            simp only [EW, it, ln, ne, i0, itp, lp, nl, gt, lc2_0 hz, c, all_bls, ha]
          | true =>
            rw [Bool.true_and]
            cases e2 : okN q with
            | false =>
              rw [e2] at nu
              refine ⟨fun z => (by cases z), fun _ => ⟨[x, .int n, .tup [.tup ps, q], y3, y4, w], ?_⟩⟩
              subst hG
              simp only [EW, it, ln, ne, i0, i1, itp, lp, nl, gt, lc2_0 hz, c, all_bls, ha, nu]
            | true =>
              rw [e2] at nu
              rw [Bool.true_and]
              cases pairD hq with
              | yes a b =>
                have nn := eq_nought a b
                have e3 : isNt (.tup [.int a, .int b]) = decide ([a, b] = [0, 1]) := rfl
                rw [e3]
                cases hd : decide ([a, b] = [0, 1]) with
                | true =>
                  rw [hd] at nn
                  refine ⟨fun z => (by cases z), fun _ => ⟨[x, .int n, .tup [.tup ps, .tup [.int a, .int b]], y3, y4, w], ?_⟩⟩
                  subst hG
                  simp only [EW, it, ln, ne, i0, i1, itp, lp, nl, gt, lc2_0 hz, c, all_bls, ha, nu, nn]
                | false =>
                  rw [hd] at nn
                  refine ⟨fun _ => ⟨w, ?_⟩, fun z => (by cases z)⟩
                  subst hG
                  simp only [EW, it, ln, ne, i0, i1, itp, lp, nl, gt, lc2_0 hz, c, all_bls, ha, nu, nn]
              | notT _ e => rw [e2] at e; cases e
              | len _ e => rw [e2] at e; cases e
              | odd0 _ e => rw [e2] at e; cases e
              | odd1 _ _ e => rw [e2] at e; cases e
        · have nl : dNe (.int ps.length) (.int n) = some (.bl true) := by
            rw [ne_ii]
            have : (ps.length : Int) ≠ n := by omega
            simp [this]
          rw [eR, decide_eq_false hn, Bool.false_and, Bool.false_and]
          refine ⟨fun z => (by cases z), fun _ => ⟨[x, .int n, .tup [.tup ps, q], y3, y4, y5], ?_⟩⟩
          subst hG
          simp only [EW, it, ln, ne, i0, itp, lp, nl]
      | dK _ => cases hp
      | dT _ => cases hp
      | ins _ _ => cases hp
      | fzl _ => cases hp
      | exn _ _ => cases hp
      | _ => exact nop itp rfl
    · have ne : dNe (.int ds.length) (.int 2) = some (.bl true) := by
        rw [ne_ii]
        have : (ds.length : Int) ≠ 2 := by omega
        simp [this]
      have e : okR n (.tup ds) = false := by
        match ds, h2 with
        | [], _ => rfl
        | [x], _ => rfl
        | [_, _], h => exact absurd rfl h
        | x :: y :: _ :: _, _ => rfl
      rw [e]
      refine ⟨fun z => (by cases z), fun _ => ⟨[x, .int n, .tup ds, y3, y4, y5], ?_⟩⟩
      subst hG
      simp only [EW, it, ln, ne]
  | dK _ => cases h
  | dT _ => cases h
  | ins _ _ => cases h
  | fzl _ => cases h
  | exn _ _ => cases h
  | _ => exact no it rfl
theorem lform_d {d : D} (h : d.shk = true) {n : Nat} (hn : n ≤ 1000) (hl : d.wt ≤ 10000) : ∃ b, d_is_form [d, .int n] = .ret (.bl b) [] ∧ d__law_is_form [d, .int n] = .ret (.bl b) [] := by
  have it := isLst_d h
  have no : fIs .list d = some (.bl false) → d__law_is_form [d, .int n] = .ret (.bl false) [] := fun it => by
    unfold d__law_is_form
    simp only [EW, it]
  cases d with
  | lst ds =>
    have hw : 1 + D.wts ds ≤ 10000 := hl
    have wm : ∀ (l : List D) (d : D), d ∈ l → d.wt ≤ D.wts l := fun l => by
      induction l with
      | nil => intro d h; cases h
      | cons a l ih =>
        intro d hd
        show d.wt ≤ a.wt + D.wts l
        rcases List.mem_cons.mp hd with e | hd
        · rw [e]; exact Nat.le_add_right _ _
        · have := ih d hd
          omega
    have sh := (shks_iff ds).mp h
    have isl : fIs .list (.lst ds) = some (.bl true) := rfl
    have ln := lenL ds
    have gl : ∀ σ : List D, list2 (.ok (.lst ds) σ) = .ok ds σ := fun _ => (rfl)
    by_cases h6 : ds.length ≤ 60
    · have g60 : ¬ (60 : Int) < ds.length := by omega
      have loop : ∀ (l : List D) (y2 y5 : D), (∀ d ∈ l, d.shk = true ∧ d.wt ≤ 10000) → ∀ G, (∀ (d y5 : D), d.shk = true → d.wt ≤ 10000 → (okR n d = true → ∃ y5', G [.lst ds, .int n, d, .non, .non, y5] = .nxt [.lst ds, .int n, d, .non, .non, y5']) ∧ (okR n d = false → ∃ σ', G [.lst ds, .int n, d, .non, .non, y5] = .ret (.bl false) σ')) →
          (l.all (okR n) = true → ∃ y2' y5', forL (.nm 2) G l [.lst ds, .int n, y2, .non, .non, y5] = .nxt [.lst ds, .int n, y2', .non, .non, y5']) ∧ (l.all (okR n) = false → ∃ σ', forL (.nm 2) G l [.lst ds, .int n, y2, .non, .non, y5] = .ret (.bl false) σ') := fun l => by
        induction l with
        | nil => intro y2 y5 _ G _; exact ⟨fun _ => ⟨y2, y5, rfl⟩, fun z => (by cases z)⟩
        | cons d l ih =>
          intro y2 y5 hl G hG
          obtain ⟨s1, s2⟩ := hl d (List.mem_cons_self ..)
          obtain ⟨g1, g2⟩ := hG d y5 s1 s2
          rw [List.all_cons]
          cases e : okR n d with
          | true =>
            obtain ⟨y5', E⟩ := g1 e
            rw [Bool.true_and, forL_n (σ1 := [.lst ds, .int n, d, .non, .non, y5]) rfl E]
            exact ih d y5' (fun z hz => hl z (List.mem_cons_of_mem _ hz)) G hG
          | false =>
            obtain ⟨σ', E⟩ := g2 e
            rw [Bool.false_and, forL_r (σ1 := [.lst ds, .int n, d, .non, .non, y5]) rfl E]
            exact ⟨fun z => (by cases z), fun _ => ⟨_, rfl⟩⟩
      rcases pform_d h hn hl with ⟨F, e, h1, h2, h3, pf⟩ | ⟨pf, bad⟩
      · refine ⟨goodR F, pf, ?_⟩
        have al : ds.all (okR n) = true := by
          have e : ds = F.map prodD := by injection e
          rw [e, List.all_map]
          refine List.all_eq_true.mpr fun x hx => ?_
          have o := h1 x hx
          have g := List.all_eq_true.mp h2 x hx
          rw [Bool.and_eq_true] at g
          show okR n (prodD x) = true
          have e1 : okPw n (.tup (x.1.map D.int)) = true := by
            show (decide ((x.1.map D.int).length = n) && (x.1.map D.int).all okP) = true
            rw [List.length_map, decide_eq_true o.len, Bool.true_and, List.all_map]
            refine List.all_eq_true.mpr fun a ha => ?_
            have a6 := of_decide_eq_true (List.all_eq_true.mp g.1 a ha)
            show (decide (0 ≤ a) && decide (a ≤ 60)) = true
            rw [decide_eq_true (o.nn a ha), decide_eq_true a6]
            rfl
          show (okPw n (.tup (x.1.map D.int)) && (decide (1 ≤ x.2.2) && decide (Int.gcd x.2.1 x.2.2 = 1) && !decide ([x.2.1, x.2.2] = [0, 1]))) = true
          rw [e1, decide_eq_true o.pos, decide_eq_true o.low]
          exact g.2
        have e : ds = F.map prodD := by injection e
        have fr : D.lst ds = rowsD F := by rw [e]; rfl
        have hz2 : ((F.zip (F.drop 1)).map fun p : PR × PR => D.tup [prodD p.1, prodD p.2]).length ≤ sizeLine := lcN (by rw [List.length_map, List.length_zip]; omega)
        have gd : goodR F = incR F := by
          unfold goodR
          rw [decide_eq_true h3, h2]
          rfl
        unfold d__law_is_form
        generalize hG : (sSeq (sIf _ _ _) (sSeq (sIf (tNotD (tTru (eCall1 fAll _))) _ _) _)) = G
        obtain ⟨go, _⟩ := loop ds .non .non (fun d hd => ⟨sh d hd, by have := wm ds d hd; omega⟩) G (fun d y5 s1 s2 => by subst hG; exact lrow_step s1 s2 _ _ _ _)
        obtain ⟨y2, y5, E⟩ := go al
        obtain ⟨_, c2, x3, x4, rfl⟩ := lcL_mapG (T := .tp [3, 4]) (ge := eBin dLtT (eBin dIx (eVar 3) (eC (.int 0))) (eBin dIx (eVar 4) (eC (.int 0)))) (fun p : PR × PR => .tup [prodD p.1, prodD p.2]) (fun p : PR × PR => D.bl (HT.lexLt p.1.1 p.2.1)) (fun σ => ∃ x3 x4, σ = [.lst ds, .int n, y2, x3, x4, y5]) (F.zip (F.drop 1)) [.lst ds, .int n, y2, .non, .non, y5] ⟨_, _, rfl⟩ (by
          rintro p hp σ ⟨x3, x4, rfl⟩
          refine ⟨[.lst ds, .int n, y2, prodD p.1, prodD p.2, y5], [.lst ds, .int n, y2, prodD p.1, prodD p.2, y5], rfl, ?_, _, _, rfl⟩
          simp only [EW, (prod_ix p.1).1, (prod_ix p.2).1, ltT_ints])
        rw [fr] at c2 isl ln gl E
        rw [fr]
        simp only [EW, isl, ln, g60, gl, E, rowsD_from, rowsD_zip, lc2_0 hz2, c2, all_bls, gd]
        rfl
      · refine ⟨false, pf, ?_⟩
        have al := bad ds rfl h6
        unfold d__law_is_form
        generalize hG : (sSeq (sIf _ _ _) (sSeq (sIf (tNotD (tTru (eCall1 fAll _))) _ _) _)) = G
        obtain ⟨_, go⟩ := loop ds .non .non (fun d hd => ⟨sh d hd, by have := wm ds d hd; omega⟩) G (fun d y5 s1 s2 => by subst hG; exact lrow_step s1 s2 _ _ _ _)
        obtain ⟨σ', E⟩ := go al
        simp only [EW, isl, ln, g60, gl, E]
    · have g60 : (60 : Int) < ds.length := by omega
      rcases pform_d h hn hl with ⟨F, e, _, _, h3, _⟩ | ⟨pf, _⟩
      · have e : ds = F.map prodD := by injection e
        rw [e, List.length_map] at h6
        exact absurd h3 h6
      · refine ⟨false, pf, ?_⟩
        unfold d__law_is_form
        simp only [EW, isl, ln, g60]
  | dK _ => cases h
  | dT _ => cases h
  | ins _ _ => cases h
  | fzl _ => cases h
  | exn _ _ => cases h
  | _ =>
    rcases pform_d h hn hl with ⟨F, e, _⟩ | ⟨pf, _⟩
    · cases e
    · exact ⟨false, pf, no it⟩
structure Rw (d : D) : Prop where
  s : d.shk = true
  w : d.wt ≤ 60
theorem ix_mem {ds : List D} {t : Int} (h0 : 0 ≤ t) (h : t < ds.length) : ∃ d ∈ ds, dIx (.lst ds) (.int t) = some d := by
  obtain ⟨k, rfl⟩ : ∃ k : Nat, t = k := ⟨t.toNat, by omega⟩
  have hk : k < ds.length := by omega
  exact ⟨ds[k], List.getElem_mem _, ix_lN (List.getElem?_eq_getElem hk)⟩
theorem small_int {i : Int} (h : i.natAbs < 10000) : (D.int i).shk = true := decide_eq_true (Nat.lt_of_lt_of_le h (by decide +kernel))
theorem shks_app : ∀ a b : List D, D.shks (a ++ b) = (D.shks a && D.shks b)
  | [], b => rfl
  | d :: a, b => by
    show (d.shk && D.shks (a ++ b)) = (d.shk && D.shks a && D.shks b)
    rw [shks_app a b, Bool.and_assoc]
theorem wts_app : ∀ a b : List D, D.wts (a ++ b) = D.wts a + D.wts b
  | [], b => (Nat.zero_add _).symm
  | d :: a, b => by
    show d.wt + D.wts (a ++ b) = d.wt + D.wts a + D.wts b
    rw [wts_app a b, Nat.add_assoc]
theorem ints_s {P : List Int} (h : ∀ a ∈ P, a.natAbs < 10000) : D.shks (P.map D.int) = true ∧ D.wts (P.map D.int) = P.length := by
  induction P with
  | nil => exact ⟨rfl, rfl⟩
  | cons a P ih =>
    obtain ⟨e1, e2⟩ := ih fun b hb => h b (List.mem_cons_of_mem _ hb)
    have e3 := small_int (h a (List.mem_cons_self ..))
    refine ⟨?_, ?_⟩
    · show ((D.int a).shk && D.shks (P.map D.int)) = true
      rw [e1, e3]; rfl
    · show 1 + D.wts (P.map D.int) = P.length + 1
      rw [e2]; omega
theorem enc_s {r : Rat} (h : sz 11 r) : (enc r).shk = true ∧ (enc r).wt = 3 := by
  have z : (2 : Nat) ^ 11 < 10000 := by decide
  have h1 := small_int (i := r.num) (Nat.lt_trans h.1 z)
  have h2 := small_int (i := (r.den : Int)) (Nat.lt_trans h.2 z)
  refine ⟨?_, rfl⟩
  show ((D.int r.num).shk && ((D.int (r.den : Int)).shk && true)) = true
  rw [h1, h2]; rfl
/-- a row as it is drawn -/
structure Row16 (n : Nat) (x : FRow) : Prop where
  len : x.1.length = n
  pw : ∀ a ∈ x.1, a.natAbs < 1000
  z : sz 11 x.2
theorem Row16.rw {n : Nat} {x : FRow} (h : Row16 n x) (hn : n ≤ 10) : Rw (frD x) := by
  obtain ⟨a1, a2⟩ := ints_s (P := x.1) fun a ha => by have := h.pw a ha; omega
  obtain ⟨b1, b2⟩ := enc_s h.z
  refine ⟨?_, ?_⟩
  · show (D.shks (x.1.map D.int) && ((enc x.2).shk && true)) = true
    rw [a1, b1]; rfl
  · show 1 + ((1 + D.wts (x.1.map D.int)) + ((enc x.2).wt + 0)) ≤ 60
    rw [a2, b2, h.len]; omega
theorem pair_rw {ps : List D} {q : D} (h1 : D.shks ps = true) (w1 : D.wts ps ≤ 30) (h2 : q.shk = true) (w2 : q.wt ≤ 20) : Rw (.tup [.tup ps, q]) := by
  refine ⟨?_, ?_⟩
  · show (D.shks ps && (q.shk && true)) = true
    rw [h1, h2]; rfl
  · show 1 + ((1 + D.wts ps) + (q.wt + 0)) ≤ 60
    omega
theorem odd_num {k : Int} {b : D} (h : Bag k b) (hk : k < 2 ^ 19) : ∃ d b', d__law_odd_number [b] = .ret d [b'] ∧ d.shk = true ∧ d.wt ≤ 20 ∧ Bag (k + 1) b' := by
  obtain ⟨t, b1, e1, t0, t1, B1⟩ := take_eq (n := 14) h (by omega) (by omega) (by omega)
  obtain ⟨ds, hds⟩ : ∃ ds : List D, ds = [.tup [.int 0, .int 1], .tup [.int 2, .int 4], .tup [.int 1, .int (-1)], .tup [.int 1, .int 0], .tup [.bl true, .int 1], .lst [.int 1, .int 1], .tup [.int 1], .non, .int 1, .tup [.int 1, .int 1], .tup [.int 1, .bl true], .tup [.int 0, .int 5], .tup [.int 3, .int 0], .tup [.int (-1), .int (-1)]] := ⟨_, rfl⟩
  have hl : ds.length = 14 := by rw [hds]; rfl
  have all : ∀ d ∈ ds, d.shk = true ∧ d.wt ≤ 20 := by
    have : (ds.all fun d => d.shk && decide (d.wt ≤ 20)) = true := by rw [hds]; decide +kernel
    intro d hd
    have := List.all_eq_true.mp this d hd
    rw [Bool.and_eq_true] at this
    exact ⟨this.1, of_decide_eq_true this.2⟩
  obtain ⟨d, hd, ix⟩ := ix_mem (ds := ds) t0 (by rw [hl]; exact t1)
  have ct : dCat (.lst [.tup [.int 0, .int 1], .tup [.int 2, .int 4], .tup [.int 1, .int (-1)], .tup [.int 1, .int 0], .tup [.bl true, .int 1], .lst [.int 1, .int 1], .tup [.int 1], .non, .int 1, .tup [.int 1, .int 1]]) (.lst [.tup [.int 1, .bl true], .tup [.int 0, .int 5], .tup [.int 3, .int 0], .tup [.int (-1), .int (-1)]]) = some (.lst ds) := by
    rw [dCat_ll (by decide), hds]; rfl
  refine ⟨d, b1, ?_, (all d hd).1, (all d hd).2, B1⟩
  unfold d__law_odd_number
  simp only [EW, e1, ct, ix]
theorem odd_pw {k : Int} {b : D} (h : Bag k b) (hk : k < 2 ^ 19) : ∃ d b', d__law_odd [b] = .ret d [b'] ∧ d.shk = true ∧ d.wt ≤ 5 ∧ Bag (k + 1) b' := by
  obtain ⟨t, b1, e1, t0, t1, B1⟩ := take_eq (n := 8) h (by omega) (by omega) (by omega)
  obtain ⟨ds, hds⟩ : ∃ ds : List D, ds = [.int (-1), .int 61, .bl true, .non, .str "1", .tup [.int 1], .int 60, .lst []] := ⟨_, rfl⟩
  have hl : ds.length = 8 := by rw [hds]; rfl
  have all : ∀ d ∈ ds, d.shk = true ∧ d.wt ≤ 5 := by
    have : (ds.all fun d => d.shk && decide (d.wt ≤ 5)) = true := by rw [hds]; decide +kernel
    intro d hd
    have := List.all_eq_true.mp this d hd
    rw [Bool.and_eq_true] at this
    exact ⟨this.1, of_decide_eq_true this.2⟩
  obtain ⟨d, hd, ix⟩ := ix_mem (ds := ds) t0 (by rw [hl]; exact t1)
  rw [hds] at ix
  refine ⟨d, b1, ?_, (all d hd).1, (all d hd).2, B1⟩
  unfold d__law_odd
  simp only [EW, e1, ix]
theorem catT_ll {a b : List D} (h : a.length + b.length ≤ 10000) : dCatT (.tup a) (.tup b) = some (.tup (a ++ b)) := if_pos (by rw [sizeLine_eq]; omega)
theorem slT_to (xs : List D) (n : Nat) : dSlT (.tup xs) none (some (n : Int)) = some (.tup (xs.take n)) := by
  rw [slT_t, cut_to]
theorem slT_from (xs : List D) (n : Nat) : dSlT (.tup xs) (some (n : Int)) none = some (.tup (xs.drop n)) := by
  rw [slT_t, cut_from]
theorem row_bent {n : Nat} {x : FRow} (h : Row16 n x) (n0 : 0 < n) (hn : n ≤ 8) {k : Int} {b : D} (B : Bag k b) (hk : k < 2 ^ 18) : ∃ d b', d__law_row_bent [b, frD x, .int n] = .ret d [b'] ∧ Rw d ∧ Bag (k + 3) b' := by
  obtain ⟨t, b1, e1, t0, t1, B1⟩ := take_eq (n := (n : Int)) B (by omega) (by omega) (by omega)
  obtain ⟨at_, rfl⟩ : ∃ i : Nat, t = i := ⟨t.toNat, by omega⟩
  obtain ⟨w, b2, e2, w0, w1, B2⟩ := take_eq (n := 7) B1 (by omega) (by omega) (by omega)
  have unp : ∀ σ : List D, soO (bindT (.tp [3, 4]) (frD x) σ) = .nxt ((σ.set 3 (pwD x.1)).set 4 (enc x.2)) := fun _ => rfl
  have flR : ∀ σ : List D, flat2 (.ok (frD x) σ) = .ok (frD x) σ := fun σ => flat2_o (by
    show ((pwD x.1).flat && ((enc x.2).flat && true)) = true
    rw [flat_pw]; rfl)
  obtain ⟨z1, z2⟩ := enc_s h.z
  have hl := h.len
  have hat : at_ < x.1.length := by omega
  have nums_ := fun (P : List Int) (hP : ∀ a ∈ P, a ∈ x.1) => ints_s (P := P) fun a ha => by have := h.pw a (hP a ha); omega
  have s1 : dSlT (pwD x.1) none (some (at_ : Int)) = some (pwD (x.1.take at_)) := by
    show dSlT (.tup (x.1.map D.int)) none _ = _
    rw [slT_to, ← List.map_take]; rfl
  have s2 : dSlT (pwD x.1) (some ((at_ : Int) + 1)) none = some (pwD (x.1.drop (at_ + 1))) := by
    show dSlT (.tup (x.1.map D.int)) (some ((at_ + 1 : Nat) : Int)) none = _
    rw [slT_from, ← List.map_drop]; rfl
  have t1' := nums_ (x.1.take at_) fun a ha => List.mem_of_mem_take ha
  have t2' := nums_ (x.1.drop (at_ + 1)) fun a ha => List.mem_of_mem_drop ha
  have l1 : (x.1.take at_).length = at_ := by rw [List.length_take]; omega
  have l2 : (x.1.drop (at_ + 1)).length = n - (at_ + 1) := by rw [List.length_drop, hl]
  have W : w = 0 ∨ w = 1 ∨ w = 2 ∨ w = 3 ∨ w = 4 ∨ w = 5 ∨ w = 6 := by omega
  have fl3 : ∀ (p : List Int) (σ : List D), flat2 (.ok (pwD p) σ) = .ok (pwD p) σ := fl2P
  unfold d__law_row_bent
  rcases W with rfl | rfl | rfl | hw
  · obtain ⟨d, b3, e3, o1, o2, B3⟩ := odd_num B2 (by omega)
    obtain ⟨a1, a2⟩ := nums_ x.1 fun a ha => ha
    refine ⟨.tup [pwD x.1, d], b3, ?_, pair_rw a1 (by rw [a2]; omega) o1 o2, B3.mono (by omega)⟩
    simp only [EW, flR, unp, e1, e2, e3, fl3]
  · obtain ⟨d, b3, e3, o1, o2, B3⟩ := odd_pw B2 (by omega)
    have c1 : dCatT (pwD (x.1.take at_)) (.tup [d]) = some (.tup ((x.1.take at_).map D.int ++ [d])) := catT_ll (by simp; omega)
    have c2 : dCatT (.tup ((x.1.take at_).map D.int ++ [d])) (pwD (x.1.drop (at_ + 1))) = some (.tup ((x.1.take at_).map D.int ++ [d] ++ (x.1.drop (at_ + 1)).map D.int)) := catT_ll (by simp; omega)
    have e10 : decide ((1 : Int) = 0) = false := rfl
    refine ⟨.tup [.tup ((x.1.take at_).map D.int ++ [d] ++ (x.1.drop (at_ + 1)).map D.int), enc x.2], b3, ?_, pair_rw ?_ ?_ z1 (by rw [z2]; omega), B3.mono (by omega)⟩
    · simp only [EW, flR, unp, e1, e2, e10, e3, s1, s2, c1, c2, fl2E]
    · rw [shks_app, shks_app, t1'.1, t2'.1]
      show (true && (d.shk && true) && true) = true
      rw [o1]; rfl
    · rw [wts_app, wts_app, t1'.2, t2'.2, l1, l2]
      show at_ + (d.wt + 0) + (n - (at_ + 1)) ≤ 30
      omega
  · have e20 : decide ((2 : Int) = 0) = false := rfl
    have e21 : decide ((2 : Int) = 1) = false := rfl
    have ix : dIx (pwD x.1) (.int at_) = some (.int x.1[at_]) := ix_tN (by rw [List.getElem?_map, List.getElem?_eq_getElem hat]; rfl)
    have hx := h.pw _ (List.getElem_mem hat)
    have c1 : dCatT (pwD (x.1.take at_)) (.tup [.int (x.1[at_] + 1)]) = some (pwD (x.1.take at_ ++ [x.1[at_] + 1])) := by
      show dCatT (.tup ((x.1.take at_).map D.int)) _ = _
      rw [catT_ll (by simp; omega)]
      show _ = some (D.tup ((x.1.take at_ ++ [x.1[at_] + 1]).map D.int))
      rw [List.map_append]; rfl
    have c2 : dCatT (pwD (x.1.take at_ ++ [x.1[at_] + 1])) (pwD (x.1.drop (at_ + 1))) = some (pwD (x.1.take at_ ++ [x.1[at_] + 1] ++ x.1.drop (at_ + 1))) := by
      show dCatT (.tup ((x.1.take at_ ++ [x.1[at_] + 1]).map D.int)) (.tup ((x.1.drop (at_ + 1)).map D.int)) = _
      rw [catT_ll (by simp; omega)]
      show _ = some (D.tup ((x.1.take at_ ++ [x.1[at_] + 1] ++ x.1.drop (at_ + 1)).map D.int))
      rw [List.map_append (l₂ := x.1.drop (at_ + 1))]
    have q := ints_s (P := x.1.take at_ ++ [x.1[at_] + 1] ++ x.1.drop (at_ + 1)) fun a ha => by
      rcases List.mem_append.mp ha with ha | ha
      · rcases List.mem_append.mp ha with ha | ha
        · have := h.pw a (List.mem_of_mem_take ha); omega
        · rw [List.mem_singleton.mp ha]; omega
      · have := h.pw a (List.mem_of_mem_drop ha); omega
    refine ⟨.tup [pwD (x.1.take at_ ++ [x.1[at_] + 1] ++ x.1.drop (at_ + 1)), enc x.2], b2, ?_, pair_rw q.1 (by rw [q.2]; simp [l2, hl]; omega) z1 (by rw [z2]; omega), B2.mono (by omega)⟩
    simp only [EW, flR, unp, e1, e2, e20, e21, s1, s2, ix, c1, c2, fl3, fl2E]
  · by_cases h3 : w = 3
    · subst h3
      have e30 : decide ((3 : Int) = 0) = false := rfl
      have e31 : decide ((3 : Int) = 1) = false := rfl
      have e32 : decide ((3 : Int) = 2) = false := rfl
      have c2 : dCatT (pwD (x.1.take at_)) (pwD (x.1.drop (at_ + 1))) = some (pwD (x.1.take at_ ++ x.1.drop (at_ + 1))) := by
        show dCatT (.tup ((x.1.take at_).map D.int)) (.tup ((x.1.drop (at_ + 1)).map D.int)) = _
        rw [catT_ll (by simp; omega)]
        show _ = some (D.tup ((x.1.take at_ ++ x.1.drop (at_ + 1)).map D.int))
        rw [List.map_append]
      have q := nums_ (x.1.take at_ ++ x.1.drop (at_ + 1)) fun a ha => by
        rcases List.mem_append.mp ha with ha | ha
        · exact List.mem_of_mem_take ha
        · exact List.mem_of_mem_drop ha
      refine ⟨.tup [pwD (x.1.take at_ ++ x.1.drop (at_ + 1)), enc x.2], b2, ?_, pair_rw q.1 (by rw [q.2]; simp [l2, hl]; omega) z1 (by rw [z2]; omega), B2.mono (by omega)⟩
      simp only [EW, flR, unp, e1, e2, e30, e31, e32, s1, s2, c2, fl3, fl2E]
    · have hw0 : ¬ w = 0 := by omega
      have hw1 : ¬ w = 1 := by omega
      have hw2 : ¬ w = 2 := by omega
      obtain ⟨a1, a2⟩ := nums_ x.1 fun a ha => ha
      have lf : fListOf [pwD x.1] = some (.lst (x.1.map D.int)) := rfl
      have fl : ∀ σ : List D, flatL2 (.ok (.lst (x.1.map D.int)) σ) = .ok (.lst (x.1.map D.int)) σ := fun σ => flatL2_o (flat_ints x.1)
      obtain ⟨d, hd, ix⟩ := ix_mem (ds := [.lst [pwD x.1, enc x.2], .tup [.lst (x.1.map D.int), enc x.2], .tup [pwD x.1, enc x.2, enc x.2]]) (t := w - 4) (by omega) (by simp; omega)
      refine ⟨d, b2, ?_, ?_, B2.mono (by omega)⟩
      · simp only [EW, flR, unp, e1, e2, hw0, hw1, hw2, h3, fl3, fl2E, lf, fl, ix]
      · have sp : (pwD x.1).shk = true := a1
        have wp : (pwD x.1).wt = 1 + x.1.length := by show 1 + D.wts _ = _; rw [a2]
        simp only [List.mem_cons, List.not_mem_nil, or_false] at hd
        rcases hd with rfl | rfl | rfl
        · refine ⟨?_, ?_⟩
          · show ((pwD x.1).shk && ((enc x.2).shk && true)) = true
            rw [sp, z1]; rfl
          · show 1 + ((pwD x.1).wt + ((enc x.2).wt + 0)) ≤ 60
            rw [wp, z2]; omega
        · refine ⟨?_, ?_⟩
          · show (D.shks (x.1.map D.int) && ((enc x.2).shk && true)) = true
            rw [a1, z1]; rfl
          · show 1 + ((1 + D.wts (x.1.map D.int)) + ((enc x.2).wt + 0)) ≤ 60
            rw [a2, z2]; omega
        · refine ⟨?_, ?_⟩
          · show ((pwD x.1).shk && ((enc x.2).shk && ((enc x.2).shk && true))) = true
            rw [sp, z1]; rfl
          · show 1 + ((pwD x.1).wt + ((enc x.2).wt + ((enc x.2).wt + 0))) ≤ 60
            rw [wp, z2]; omega
structure Th (d : D) : Prop where
  s : d.shk = true
  w : d.wt ≤ 5000
  t : d.dat 64 = true
theorem th_lst {ds : List D} (h : ∀ d ∈ ds, Rw d) (l : ds.length ≤ 80) : Th (.lst ds) := by
  have := wts_le (L := 60) ds fun d hd => (h d hd).w
  refine ⟨(shks_iff ds).mpr fun d hd => (h d hd).s, ?_, ?_⟩
  · show 1 + D.wts ds ≤ 5000
    omega
  · exact List.all_eq_true.mpr fun d hd => shk_dat 63 d (h d hd).s (by have := (h d hd).w; omega)
theorem th_tup {ds : List D} (h : ∀ d ∈ ds, Rw d) (l : ds.length ≤ 80) : Th (.tup ds) := by
  have := th_lst h l
  exact ⟨this.s, this.w, this.t⟩
theorem th_small {d : D} (h : d.shk = true) (w : d.wt ≤ 64) : Th d := ⟨h, by omega, shk_dat 64 d h w⟩
theorem repT0_0 {n : Nat} (h2 : n ≤ 1000) : dRepT0 (.tup [.int 0]) (.int n) = some (pwD (List.replicate n 0)) := by
  have e : (List.replicate n [D.int 0]).flatten = (List.replicate n (0 : Int)).map D.int := by
    rw [List.map_replicate]
    clear h2
    induction n with
    | zero => rfl
    | succ n ih => rw [List.replicate_succ, List.flatten_cons, ih]; rfl
  show (if _ then _ else _) = _
  rw [if_pos ⟨rfl, by simp, by omega, by omega, by simp⟩, Int.toNat_natCast, e]
  rfl
theorem flatsR (F : List FRow) : D.flats (F.map frD) = true := by
  induction F with
  | nil => rfl
  | cons x F ih =>
    show ((frD x).flat && D.flats (F.map frD)) = true
    rw [ih, Bool.and_true]
    show ((pwD x.1).flat && ((enc x.2).flat && true)) = true
    rw [flat_pw]; rfl
theorem e20_ : decide ((2 : Int) = 0) = false := (rfl)
theorem e21_ : decide ((2 : Int) = 1) = false := (rfl)
theorem e30_ : decide ((3 : Int) = 0) = false := (rfl)
theorem e31_ : decide ((3 : Int) = 1) = false := (rfl)
theorem e32_ : decide ((3 : Int) = 2) = false := (rfl)
theorem e40_ : decide ((4 : Int) = 0) = false := (rfl)
theorem e41_ : decide ((4 : Int) = 1) = false := (rfl)
theorem e42_ : decide ((4 : Int) = 2) = false := (rfl)
theorem e43_ : decide ((4 : Int) = 3) = false := (rfl)
theorem bent_eq {n : Nat} {F : List FRow} (h : ∀ x ∈ F, Row16 n x) (hl : F.length ≤ 8) (n0 : 0 < n) (hn : n ≤ 8) {k : Int} {b : D} (B : Bag k b) (hk : k < 2 ^ 17) : ∃ d b', d__law_bent [b, foD F, .int n] = .ret d [b'] ∧ Th d ∧ Bag (k + 10) b' := by
  obtain ⟨w, b1, e1, w0, w1, B1⟩ := take_eq (n := 7) B (by omega) (by omega) (by omega)
  have rw_ : ∀ x ∈ F, Rw (frD x) := fun x hx => (h x hx).rw (by omega)
  have rwF : ∀ d ∈ F.map frD, Rw d := fun d hd => by
    obtain ⟨x, hx, rfl⟩ := List.mem_map.mp hd
    exact rw_ x hx
  have lm : (F.map frD).length = F.length := List.length_map ..
  by_cases hw0 : w = 0
  · subst hw0
    obtain ⟨m, b2, e2, m0, m1, B2⟩ := take_eq (n := 3) B1 (by omega) (by omega) (by omega)
    obtain ⟨m, rfl⟩ : ∃ i : Nat, m = i := ⟨m.toNat, by omega⟩
    have eM : (59 : Int) + m = ((59 + m : Nat) : Int) := by omega
    have gt : gRng [.int ((59 + m : Nat) : Int)] = some (rngD 0 (59 + m)) := rngN _ (by omega)
    have n1 : (n : Int) - 1 = ((n - 1 : Nat) : Int) := by omega
    have r0 := repT0_0 (n := n - 1) (by omega)
    obtain ⟨_, c, z, rfl⟩ := lcL_mapG (T := .nm 8) (ge := eTup (aCons (eFlat (eBin dCatT (eTup (aCons (eFlat (eVar 8)) aNil)) (eBin dRepT0 (eTup (aCons (eC (.int 0)) aNil)) (eBin dSub (eVar 2) (eC (.int 1)))))) (aCons (eTup (aCons (eC (.int 1)) (aCons (eC (.int 1)) aNil))) aNil))) (fun i : Nat => D.int (0 + (i : Int))) (fun i : Nat => D.tup [pwD (((0 : Int) + (i : Int)) :: List.replicate (n - 1) 0), .tup [.int 1, .int 1]]) (fun σ => ∃ z, σ = [b2, foD F, .int n, .int 0, .int ((59 + m : Nat) : Int), .non, .non, .non, z]) (List.range (59 + m)) [b2, foD F, .int n, .int 0, .int ((59 + m : Nat) : Int), .non, .non, .non, .non] ⟨_, rfl⟩ (by
      rintro i hi σ ⟨z, rfl⟩
      have ct : dCatT (.tup [.int (0 + (i : Int))]) (pwD (List.replicate (n - 1) 0)) = some (pwD ((0 + (i : Int)) :: List.replicate (n - 1) 0)) := catT_ll (by simp; omega)
      have fl : ∀ (p : List Int) (σ : List D), flat2 (.ok (pwD p) σ) = .ok (pwD p) σ := fl2P
      refine ⟨[b2, foD F, .int n, .int 0, .int ((59 + m : Nat) : Int), .non, .non, .non, .int (0 + (i : Int))], [b2, foD F, .int n, .int 0, .int ((59 + m : Nat) : Int), .non, .non, .non, .int (0 + (i : Int))], rfl, ?_, _, rfl⟩
      simp only [EW, n1, r0, ct, fl])
    have c : lcL (.nm 8) tYesD _ (rngD 0 (59 + m)) [] _ = _ := c
    have hz : (rngD 0 (59 + m)).length ≤ sizeLine := by rw [rngD_len]; exact lcN (by omega)
    refine ⟨_, b2, ?_, th_lst (ds := (List.range (59 + m)).map fun i : Nat => D.tup [pwD (((0 : Int) + (i : Int)) :: List.replicate (n - 1) 0), .tup [.int 1, .int 1]]) ?_ (by rw [List.length_map, List.length_range]; omega), B2.mono (by omega)⟩
    · unfold d__law_bent
      simp only [EW, e1, e2, eM, gt, lc2_0 hz, c]
      done
    · intro d hd
      obtain ⟨i, hi, rfl⟩ := List.mem_map.mp hd
      have hi := List.mem_range.mp hi
      obtain ⟨a1, a2⟩ := ints_s (P := (0 + (i : Int)) :: List.replicate (n - 1) 0) fun a ha => by
        rcases List.mem_cons.mp ha with e | ha
        · rw [e]; omega
        · rw [(List.mem_replicate.mp ha).2]; decide
      exact pair_rw (q := .tup [.int 1, .int 1]) a1 (by rw [a2]; simp; omega) (by decide +kernel) (by decide)
  have dt : (foD F).dat 64 = true := dat_fo F 60
  have eq := dEq_of (y := .lst []) dt rfl
  by_cases hp : w = 1 ∨ F = []
  · obtain ⟨t, b2, e2, t0, t1, B2⟩ := take_eq (n := 10) B1 (by omega) (by omega) (by omega)
    obtain ⟨ds, hds⟩ : ∃ ds : List D, ds = [.tup (F.map frD), .non, .int 0, .str "", .tup [], .int 3, .lst [.tup []], .lst [.non], .lst [.lst []], .bl true] := ⟨_, rfl⟩
    have hl' : ds.length = 10 := by rw [hds]; rfl
    obtain ⟨d, hd, ix⟩ := ix_mem (ds := ds) t0 (by rw [hl']; exact t1)
    have th : Th d := by
      rw [hds] at hd
      rcases List.mem_cons.mp hd with e | hd
      · rw [e]; exact th_tup rwF (by omega)
      · have : (List.all ([.non, .int 0, .str "", .tup [], .int 3, .lst [.tup []], .lst [.non], .lst [.lst []], .bl true] : List D) fun d => d.shk && decide (d.wt ≤ 64)) = true := by decide +kernel
        have := List.all_eq_true.mp this d hd
        rw [Bool.and_eq_true] at this
        exact th_small this.1 (of_decide_eq_true this.2)
    rw [hds] at ix
    have tf : fTupOf [foD F] = some (.tup (F.map frD)) := rfl
    have fl : ∀ σ : List D, flat2 (.ok (.tup (F.map frD)) σ) = .ok (.tup (F.map frD)) σ := fun σ => flat2_o (flatsR F)
    have o : ∀ σ : List D, tor2 (tOf (eBin dEq (eVar 1) (eLst aNil))) (.ok (decide (w = 1)) [b1, foD F, .int n, .int w, .non, .non, .non, .non, .non]) = .ok true [b1, foD F, .int n, .int w, .non, .non, .non, .non, .non] := fun σ => by
      by_cases h1 : w = 1
      · rw [decide_eq_true h1]; rfl
      · rw [decide_eq_false h1]
        rcases hp with h | h
        · exact absurd h h1
        · subst h
          have eq : dEq (foD []) (.lst []) = some (.bl true) := eq
          simp only [EW, eq]
    refine ⟨d, b2, ?_, th, B2.mono (by omega)⟩
    unfold d__law_bent
    simp only [EW, e1, hw0, o [], tf, fl, e2, ix]
  have h1 : ¬ w = 1 := fun e => hp (.inl e)
  have hF : F ≠ [] := fun e => hp (.inr e)
  have o : dEq (foD F) (.lst []) = some (.bl false) := by
    cases F with
    | nil => exact absurd rfl hF
    | cons x F => exact eq
  have lp : 0 < F.length := by cases F with | nil => exact absurd rfl hF | cons x F => simp
  obtain ⟨t, b2, e2, t0, t1, B2⟩ := take_eq (n := (F.length : Int)) B1 (by omega) (by omega) (by omega)
  obtain ⟨at_, rfl⟩ : ∃ i : Nat, t = i := ⟨t.toNat, by omega⟩
  have ha : at_ < F.length := by omega
  have ln : fLen [foD F] = some (.int F.length) := by
    show some (D.int ((F.map frD).length)) = _
    rw [lm]
  have ix : dIx (foD F) (.int at_) = some (frD F[at_]) := ix_lN (by rw [List.getElem?_map, List.getElem?_eq_getElem ha]; rfl)
  have m_ := List.getElem_mem ha
  have sTo : dSlL (foD F) none (some (at_ : Int)) = some (.lst ((F.map frD).take at_)) := by
    show dSlL (.lst (F.map frD)) none _ = _
    rw [slL_l, cut_to]
  have sTo1 : dSlL (foD F) none (some ((at_ : Int) + 1)) = some (.lst ((F.map frD).take (at_ + 1))) := by
    show dSlL (.lst (F.map frD)) none (some ((at_ + 1 : Nat) : Int)) = _
    rw [slL_l, cut_to]
  have sFr : dSlL (foD F) (some (at_ : Int)) none = some (.lst ((F.map frD).drop at_)) := by
    show dSlL (.lst (F.map frD)) _ none = _
    rw [slL_l, cut_from]
  have sFr1 : dSlL (foD F) (some ((at_ : Int) + 1)) none = some (.lst ((F.map frD).drop (at_ + 1))) := by
    show dSlL (.lst (F.map frD)) (some ((at_ + 1 : Nat) : Int)) none = _
    rw [slL_l, cut_from]
  have inT : ∀ (j : Nat) (d : D), d ∈ (F.map frD).take j → Rw d := fun j d hd => rwF d (List.mem_of_mem_take hd)
  have inD : ∀ (j : Nat) (d : D), d ∈ (F.map frD).drop j → Rw d := fun j d hd => rwF d (List.mem_of_mem_drop hd)
  have lT : ∀ j : Nat, ((F.map frD).take j).length ≤ 8 := fun j => by rw [List.length_take]; omega
  have lD : ∀ j : Nat, ((F.map frD).drop j).length ≤ 8 := fun j => by rw [List.length_drop]; omega
  have fT : ∀ j : Nat, D.flats ((F.map frD).take j) = true := fun j => by rw [← List.map_take]; exact flatsR _
  have fD : ∀ j : Nat, D.flats ((F.map frD).drop j) = true := fun j => by rw [← List.map_drop]; exact flatsR _
  have fA : ∀ a b : List D, D.flats a = true → D.flats b = true → D.flats (a ++ b) = true := fun a b ha hb => by
    induction a with
    | nil => exact hb
    | cons x a ih =>
      have ha : (x.flat && D.flats a) = true := ha
      rw [Bool.and_eq_true] at ha
      show (x.flat && D.flats (a ++ b)) = true
      rw [ha.1, ih ha.2]; rfl
  have flR : ∀ σ : List D, flat2 (.ok (frD F[at_]) σ) = .ok (frD F[at_]) σ := fun σ => flat2_o (by
    show ((pwD F[at_].1).flat && ((enc F[at_].2).flat && true)) = true
    rw [flat_pw]; rfl)
  have flx : (frD F[at_]).flat = true := by
    show ((pwD F[at_].1).flat && ((enc F[at_].2).flat && true)) = true
    rw [flat_pw]; rfl
  by_cases h2 : w = 2
  · subst h2
    have c1 : dCat (.lst ((F.map frD).drop at_)) (.lst ((F.map frD).take at_)) = some (.lst ((F.map frD).drop at_ ++ (F.map frD).take at_)) := dCat_ll (by have := lT at_; have := lD at_; omega)
    have fl : ∀ σ : List D, flatL2 (.ok (.lst ((F.map frD).drop at_ ++ (F.map frD).take at_)) σ) = .ok (.lst ((F.map frD).drop at_ ++ (F.map frD).take at_)) σ := fun σ => flatL2_o (fA _ _ (fD _) (fT _))
    refine ⟨_, b2, ?_, th_lst (ds := (F.map frD).drop at_ ++ (F.map frD).take at_) (fun d hd => (List.mem_append.mp hd).elim (inD _ d) (inT _ d)) (by have := lT at_; have := lD at_; rw [List.length_append]; omega), B2.mono (by omega)⟩
    unfold d__law_bent
    simp only [EW, e1, o, e20_, e21_, ln, e2, sFr, sTo, c1, fl]
    done
  by_cases h3 : w = 3
  · subst h3
    have c1 : dCat (.lst ((F.map frD).take at_)) (.lst [frD F[at_]]) = some (.lst ((F.map frD).take at_ ++ [frD F[at_]])) := dCat_ll (by have := lT at_; simp; omega)
    have c2 : dCat (.lst ((F.map frD).take at_ ++ [frD F[at_]])) (.lst ((F.map frD).drop at_)) = some (.lst ((F.map frD).take at_ ++ [frD F[at_]] ++ (F.map frD).drop at_)) := dCat_ll (by simp; omega)
    have fl : ∀ σ : List D, flatL2 (.ok (.lst ((F.map frD).take at_ ++ [frD F[at_]] ++ (F.map frD).drop at_)) σ) = .ok (.lst ((F.map frD).take at_ ++ [frD F[at_]] ++ (F.map frD).drop at_)) σ := fun σ => flatL2_o (fA _ _ (fA _ _ (fT _) (by show ((frD F[at_]).flat && true) = true; rw [flx]; rfl)) (fD _))
    refine ⟨_, b2, ?_, th_lst (ds := (F.map frD).take at_ ++ [frD F[at_]] ++ (F.map frD).drop at_) (fun d hd => (List.mem_append.mp hd).elim (fun hd => (List.mem_append.mp hd).elim (inT _ d) (fun hd => by rw [List.mem_singleton.mp hd]; exact rw_ _ m_)) (inD _ d)) (by have := lT at_; have := lD at_; simp only [List.length_append, List.length_singleton]; omega), B2.mono (by omega)⟩
    unfold d__law_bent
    simp only [EW, e1, o, e30_, e31_, e32_, ln, e2, sFr, sTo, ix, flR, c1, c2, fl]
    done
  by_cases h4 : w = 4
  · subst h4
    obtain ⟨x, hx⟩ : ∃ x, x = F[at_] := ⟨_, rfl⟩
    rw [← hx] at ix m_ flR flx
    have q := h x m_
    have unp : ∀ σ : List D, soO (bindT (.tp [6, 7]) (frD x) σ) = .nxt ((σ.set 6 (pwD x.1)).set 7 (enc x.2)) := fun _ => rfl
    have i0 : dIx (enc x.2) (.int 0) = some (.int x.2.num) := rfl
    have i1 : dIx (enc x.2) (.int 1) = some (.int x.2.den) := rfl
    have z := q.z
    have z11 : (2 : Nat) ^ 11 < 5000 := by decide
    obtain ⟨a1, a2⟩ := ints_s (P := x.1) fun a ha => by have := q.pw a ha; omega
    have nw : Rw (.tup [pwD x.1, .tup [.int (x.2.num + x.2.den), .int x.2.den]]) := by
      have n1 := small_int (i := x.2.num + (x.2.den : Int)) (by have := z.1; have := z.2; omega)
      have n2 := small_int (i := (x.2.den : Int)) (by have := z.2; omega)
      refine pair_rw (q := .tup [.int (x.2.num + x.2.den), .int x.2.den]) a1 (by rw [a2, q.len]; omega) ?_ (by show (3 : Nat) ≤ 20 <;> decide)
      show ((D.int (x.2.num + (x.2.den : Int))).shk && ((D.int (x.2.den : Int)).shk && true)) = true
      rw [n1, n2]; rfl
    have fln : (D.tup [pwD x.1, .tup [.int (x.2.num + x.2.den), .int x.2.den]]).flat = true := by
      show ((pwD x.1).flat && _) = true
      rw [flat_pw]; rfl
    obtain ⟨y, hy⟩ : ∃ y : D, y = .tup [pwD x.1, .tup [.int (x.2.num + x.2.den), .int x.2.den]] := ⟨_, rfl⟩
    rw [← hy] at nw fln
    have c1 : dCat (.lst ((F.map frD).take (at_ + 1))) (.lst [y]) = some (.lst ((F.map frD).take (at_ + 1) ++ [y])) := dCat_ll (by have := lT (at_ + 1); simp; omega)
    have c2 : dCat (.lst ((F.map frD).take (at_ + 1) ++ [y])) (.lst ((F.map frD).drop (at_ + 1))) = some (.lst ((F.map frD).take (at_ + 1) ++ [y] ++ (F.map frD).drop (at_ + 1))) := dCat_ll (by simp; omega)
    have fl : ∀ σ : List D, flatL2 (.ok (.lst ((F.map frD).take (at_ + 1) ++ [y] ++ (F.map frD).drop (at_ + 1))) σ) = .ok (.lst ((F.map frD).take (at_ + 1) ++ [y] ++ (F.map frD).drop (at_ + 1))) σ := fun σ => flatL2_o (fA _ _ (fA _ _ (fT _) (by show (y.flat && true) = true; rw [fln]; rfl)) (fD _))
    have fp : ∀ (p : List Int) (σ : List D), flat2 (.ok (pwD p) σ) = .ok (pwD p) σ := fl2P
    refine ⟨_, b2, ?_, th_lst (ds := (F.map frD).take (at_ + 1) ++ [y] ++ (F.map frD).drop (at_ + 1)) (fun d hd => (List.mem_append.mp hd).elim (fun hd => (List.mem_append.mp hd).elim (inT _ d) (fun hd => by rw [List.mem_singleton.mp hd]; exact nw)) (inD _ d)) (by have := lT (at_ + 1); have := lD (at_ + 1); simp only [List.length_append, List.length_singleton]; omega), B2.mono (by omega)⟩
    unfold d__law_bent
    simp only [EW, e1, o, e40_, e41_, e42_, e43_, ln, e2, sTo1, sFr1, ix, flR, unp, i0, i1, fp, ← hy, c1, c2, fl]
    done
  · obtain ⟨y, b3, e3, ry, B3⟩ := row_bent (h _ m_) n0 hn B2 (by omega)
    have c1 : dCat (.lst ((F.map frD).take at_)) (.lst [y]) = some (.lst ((F.map frD).take at_ ++ [y])) := dCat_ll (by have := lT at_; simp; omega)
    have c2 : dCat (.lst ((F.map frD).take at_ ++ [y])) (.lst ((F.map frD).drop (at_ + 1))) = some (.lst ((F.map frD).take at_ ++ [y] ++ (F.map frD).drop (at_ + 1))) := dCat_ll (by simp; omega)
    refine ⟨_, b3, ?_, th_lst (ds := (F.map frD).take at_ ++ [y] ++ (F.map frD).drop (at_ + 1)) (fun d hd => (List.mem_append.mp hd).elim (fun hd => (List.mem_append.mp hd).elim (inT _ d) (fun hd => by rw [List.mem_singleton.mp hd]; exact ry)) (inD _ d)) (by have := lT at_; have := lD (at_ + 1); simp only [List.length_append, List.length_singleton]; omega), B3.mono (by omega)⟩
    unfold d__law_bent
    simp only [EW, e1, o, ln, e2, hw0, h1, h2, h3, h4, sTo, sFr1, ix, flR, e3, c1, c2]
    done
theorem row16 {n : Nat} {kind : Int} {F : List FRow} (h : FDr n 8 4 kind F) : ∀ x ∈ F, Row16 n x := fun x hx => by
  obtain ⟨p1, p2, p3⟩ := h.pw x hx
  refine ⟨p1, fun a ha => ?_, (h.nk x hx).1⟩
  have h0 := p2 a ha
  have le : ∀ l : List Int, (∀ a ∈ l, 0 ≤ a) → ∀ a ∈ l, a ≤ l.sum := fun l => by
    induction l with
    | nil => intro _ a ha; cases ha
    | cons b l ih =>
      intro hb a ha
      have s0 : ∀ m : List Int, (∀ a ∈ m, 0 ≤ a) → 0 ≤ m.sum := fun m => by
        induction m with
        | nil => intro _; exact Int.le_refl 0
        | cons c m ih => intro h; rw [List.sum_cons]; have := ih fun a ha => h a (List.mem_cons_of_mem _ ha); have := h c (List.mem_cons_self ..); omega
      have t0 := s0 l fun a ha => hb a (List.mem_cons_of_mem _ ha)
      have b0 := hb b (List.mem_cons_self ..)
      rw [List.sum_cons]
      rcases List.mem_cons.mp ha with e | ha
      · rw [e]; omega
      · have := ih (fun a ha => hb a (List.mem_cons_of_mem _ ha)) a ha; omega
  have := le x.1 p2 a ha
  omega
theorem great_eq (p : Int) (hp : p = 0 ∨ p = 60 ∨ p = 61) : d_is_form [.lst [.tup [.tup [.int p], .tup [.int 1, .int 1]]], .int 1] = .ret (.bl (decide (p ≤ 60))) [] := by
  have h := is_form_eq (n := 1) (F := [([p], (1, 1))]) (fun x hx => by
    rw [List.mem_singleton.mp hx]
    exact ⟨rfl, fun a ha => by rw [List.mem_singleton.mp ha]; omega, Int.le_refl 1, by show Int.gcd 1 1 = 1; decide⟩) (by omega) (by simp)
  have e : goodR [([p], (1, 1))] = decide (p ≤ 60) := by
    rcases hp with rfl | rfl | rfl <;> decide +kernel
  rw [e] at h
  exact h
theorem wide_at : d_is_form [.lst [.tup [.tup ((List.replicate 119 (0 : Int) ++ [2]).map D.int), .tup [.int 1, .int 1]], .tup [.tup ((1 :: List.replicate 119 (0 : Int)).map D.int), .tup [.int (-1), .int 3]]], .int 120] = .ret (.bl true) [] := by
  have h := is_form_eq (n := 120) (F := [(List.replicate 119 (0 : Int) ++ [2], (1, 1)), (1 :: List.replicate 119 (0 : Int), (-1, 3))]) (fun x hx => by
    have nn : ∀ a ∈ List.replicate 119 (0 : Int), 0 ≤ a := fun a ha => by rw [(List.mem_replicate.mp ha).2]; exact Int.le_refl 0
    rcases List.mem_cons.mp hx with e | hx
    · rw [e]
      exact ⟨by simp, fun a ha => (List.mem_append.mp ha).elim (nn a) fun ha => by rw [List.mem_singleton.mp ha]; decide, by decide, by decide⟩
    · rw [List.mem_singleton.mp hx]
      exact ⟨by simp, fun a ha => (List.mem_cons.mp ha).elim (fun e => by rw [e]; decide) (nn a), by decide, by decide⟩) (by omega) (by simp)
  have e : goodR [(List.replicate 119 (0 : Int) ++ [2], (1, 1)), (1 :: List.replicate 119 (0 : Int), (-1, 3))] = true := by decide +kernel
  rw [e] at h
  exact h
theorem wide_less : d_is_form [.lst [.tup [.tup ((List.replicate 119 (0 : Int) ++ [2]).map D.int), .tup [.int 1, .int 1]], .tup [.tup ((1 :: List.replicate 119 (0 : Int)).map D.int), .tup [.int (-1), .int 3]]], .int 119] = .ret (.bl false) [] := by
  have hs : (D.lst [.tup [.tup ((List.replicate 119 (0 : Int) ++ [2]).map D.int), .tup [.int 1, .int 1]], .tup [.tup ((1 :: List.replicate 119 (0 : Int)).map D.int), .tup [.int (-1), .int 3]]]).shk = true := by decide +kernel
  have hw : (D.lst [.tup [.tup ((List.replicate 119 (0 : Int) ++ [2]).map D.int), .tup [.int 1, .int 1]], .tup [.tup ((1 :: List.replicate 119 (0 : Int)).map D.int), .tup [.int (-1), .int 3]]]).wt ≤ 10000 := by decide +kernel
  rcases pform_d hs (n := 119) (by omega) hw with ⟨F, e, h, _⟩ | ⟨h, _⟩
  · exfalso
    cases F with
    | nil => cases e
    | cons x F =>
      have e : [D.tup [.tup ((List.replicate 119 (0 : Int) ++ [2]).map D.int), .tup [.int 1, .int 1]], .tup [.tup ((1 :: List.replicate 119 (0 : Int)).map D.int), .tup [.int (-1), .int 3]]] = prodD x :: F.map prodD := D.lst.inj e
      have e := (List.cons.inj e).1
      have e := (List.cons.inj (D.tup.inj e)).1
      have e := congrArg List.length (D.tup.inj e)
      rw [List.length_map, List.length_map, (h x (List.mem_cons_self ..)).len] at e
      simp at e
  · exact h
theorem law_holds : ∀ ns : List Int, ns.length ≤ 63 → (∀ z ∈ ns, Builtin.Int.intBits z ≤ 1048576) → ∃ outs, d_law [.fzl (ns.map D.int)] = .ret (.bl true) outs := by
  intro ns hn _
  obtain ⟨q, hq, er⟩ := cells_rng 4 ns hn (by omega) (by omega)
  unfold d_law
  generalize hG : (sSeq (sSet 2 (eCall d__law_bag [] _)) _) = G
  have body : ∀ (i : Nat) (x2 x3 x4 x5 x6 x7 x8 x9 y0 y1 y2 y3 : D), i ≤ 100 → ∃ u2 u3 u4 u5 u6 u7 u8 u9 v0, G [.fzl (ns.map D.int), .int i, x2, x3, x4, x5, x6, x7, x8, x9, y0, y1, y2, y3] = .nxt [.fzl (ns.map D.int), .int i, u2, u3, u4, u5, u6, u7, u8, u9, v0, y1, y2, y3] := by
    intro i x2 x3 x4 x5 x6 x7 x8 x9 y0 y1 y2 y3 hi
    obtain ⟨b0, e0, B0⟩ := bag_eq ns i hi
    subst hG
    generalize hG1 : (sSeq (sSet 4 (eBin dAdd (eC (.int 1)) (eCall d__law_take [2] _))) _) = G1
    have r6 : gRng [.int 6] = some (rngD 0 6) := rngN 6 (by omega)
    obtain ⟨σ', E, I⟩ := forL_rng (T := .nm 3) (G := G1) 6 (fun t σ => ∃ b x3 x4 x5 x6 x7 x8 x9 y0, σ = [.fzl (ns.map D.int), .int i, b, x3, x4, x5, x6, x7, x8, x9, y0, y1, y2, y3] ∧ Bag (t * 1100) b) [.fzl (ns.map D.int), .int i, b0, x3, x4, x5, x6, x7, x8, x9, y0, y1, y2, y3] ⟨_, _, _, _, _, _, _, _, _, rfl, B0.mono (by omega)⟩ (by
      rintro t σ ht ⟨b, x3, x4, x5, x6, x7, x8, x9, y0, rfl, B⟩
      obtain ⟨n, b1, e1, n0, n1, B1⟩ := take_eq (n := 6) B (by omega) (by omega) (by omega)
      obtain ⟨n, rfl⟩ : ∃ i : Nat, n = i := ⟨n.toNat, by omega⟩
      obtain ⟨kd, b2, e2, k0, k1, B2⟩ := take_eq (n := 3) B1 (by omega) (by omega) (by omega)
      have ik : ∃ kind : Int, dIx (.lst [.int 0, .int 1, .int 2]) (.int kd) = some (.int kind) ∧ 0 ≤ kind ∧ kind < 4 := by
        have : kd = 0 ∨ kd = 1 ∨ kd = 2 := by omega
        rcases this with rfl | rfl | rfl
        · exact ⟨0, ix_lN (n := 0) rfl, by omega, by omega⟩
        · exact ⟨1, ix_lN (n := 1) rfl, by omega, by omega⟩
        · exact ⟨2, ix_lN (n := 2) rfl, by omega, by omega⟩
      obtain ⟨kind, ik, kk0, kk4⟩ := ik
      have eN : (1 : Int) + n = ((1 + n : Nat) : Int) := by omega
      obtain ⟨F, b3, e3, dF, B3⟩ := lform_eq B2 (by omega) (n := 1 + n) (rows := 8) (deg := 4) (kind := kind) (by omega) (by omega) (by omega) (by omega) kk0 kk4
      rw [show ((8 : Nat) : Int) = 8 from rfl, show ((4 : Nat) : Int) = 4 from rfl] at e3
      obtain ⟨d, b4, e4, hd, B4⟩ := bent_eq (row16 dF) dF.len (by omega) (by omega) B3 (by omega)
      have hF : Th (foD F) := th_lst (ds := F.map frD) (fun d hd => by
        obtain ⟨x, hx, rfl⟩ := List.mem_map.mp hd
        exact (row16 dF x hx).rw (by omega)) (by rw [List.length_map]; have := dF.len; omega)
      have eN1 : ((1 + n : Nat) : Int) + 1 = ((1 + n + 1 : Nat) : Int) := by omega
      obtain ⟨b5, hb5⟩ : ∃ b5, b5 = b4 := ⟨_, rfl⟩
      subst hG1
      generalize hG2 : (sSeq (sSet 9 (eCall1 fRepr _)) _) = G2
      have step : ∀ (x : D) (m : Nat) (x7 x8 x9 y0 : D), Th x → m ≤ 1000 → ∃ s c, G2 [.fzl (ns.map D.int), .int i, b4, .int (t : Int), .int ((1 + n : Nat) : Int), foD F, d, x, .int m, x9, y0, y1, y2, y3] = .nxt [.fzl (ns.map D.int), .int i, b4, .int (t : Int), .int ((1 + n : Nat) : Int), foD F, d, x, .int m, .str s, .bl c, y1, y2, y3] := by
        intro x m x7 x8 x9 y0 hx hm
        obtain ⟨s, r1, r2, _⟩ := repr_ok hx.s hx.t (by have := hx.w; omega)
        obtain ⟨b, f1, f2⟩ := lform_d hx.s hm (by have := hx.w; omega)
        have ib : fIs .bool (.bl b) = some (.bl true) := rfl
        have nb : dNe (.bl b) (.bl b) = some (.bl false) := by cases b <;> rfl
        refine ⟨s, b, ?_⟩
        subst hG2
        simp only [EW, r1, f1, f2, ib, nb, r2]
      obtain ⟨s1, c1, E1⟩ := step (foD F) (1 + n) x7 x8 x9 y0 hF (by omega)
      obtain ⟨s2, c2, E2⟩ := step (foD F) (1 + n + 1) x7 x8 (.str s1) (.bl c1) hF (by omega)
      obtain ⟨s3, c3, E3⟩ := step d (1 + n) x7 x8 (.str s2) (.bl c2) hd (by omega)
      have L : forL (.tp [7, 8]) G2 [.tup [foD F, .int ((1 + n : Nat) : Int)], .tup [foD F, .int ((1 + n + 1 : Nat) : Int)], .tup [d, .int ((1 + n : Nat) : Int)]] [.fzl (ns.map D.int), .int i, b4, .int (t : Int), .int ((1 + n : Nat) : Int), foD F, d, x7, x8, x9, y0, y1, y2, y3] = .nxt [.fzl (ns.map D.int), .int i, b4, .int (t : Int), .int ((1 + n : Nat) : Int), foD F, d, d, .int ((1 + n : Nat) : Int), .str s3, .bl c3, y1, y2, y3] := by
        rw [forL_n (σ1 := [.fzl (ns.map D.int), .int i, b4, .int (t : Int), .int ((1 + n : Nat) : Int), foD F, d, foD F, .int ((1 + n : Nat) : Int), x9, y0, y1, y2, y3]) rfl E1]
        rw [forL_n (σ1 := [.fzl (ns.map D.int), .int i, b4, .int (t : Int), .int ((1 + n : Nat) : Int), foD F, d, foD F, .int ((1 + n + 1 : Nat) : Int), .str s1, .bl c1, y1, y2, y3]) rfl E2]
        rw [forL_n (σ1 := [.fzl (ns.map D.int), .int i, b4, .int (t : Int), .int ((1 + n : Nat) : Int), foD F, d, d, .int ((1 + n : Nat) : Int), .str s2, .bl c2, y1, y2, y3]) rfl E3]
        rfl
      have gt : ∀ σ : List D, gtup2 (.ok (.tup [.tup [foD F, .int ((1 + n : Nat) : Int)], .tup [foD F, .int ((1 + n + 1 : Nat) : Int)], .tup [d, .int ((1 + n : Nat) : Int)]]) σ) = .ok [.tup [foD F, .int ((1 + n : Nat) : Int)], .tup [foD F, .int ((1 + n + 1 : Nat) : Int)], .tup [d, .int ((1 + n : Nat) : Int)]] σ := fun _ => rfl
      refine ⟨_, [.fzl (ns.map D.int), .int i, b4, .int t, .int ((1 + n : Nat) : Int), foD F, d, d, .int ((1 + n : Nat) : Int), .str s3, .bl c3, y1, y2, y3], rfl, ?_, _, _, _, _, _, _, _, _, _, rfl, B4.mono (by omega)⟩
      simp only [EW, e1, eN, e2, ik, e3, e4, eN1, gt, L])
    obtain ⟨b, z3, z4, z5, z6, z7, z8, z9, z10, rfl, _⟩ := I
    refine ⟨b, z3, z4, z5, z6, z7, z8, z9, z10, ?_⟩
    simp only [EW, e0, r6, E]
  obtain ⟨σ', E, I⟩ := forL_rng (T := .nm 1) (G := G) q (fun _ σ => ∃ x1 x2 x3 x4 x5 x6 x7 x8 x9 y0, σ = [.fzl (ns.map D.int), x1, x2, x3, x4, x5, x6, x7, x8, x9, y0, .non, .non, .non]) [.fzl (ns.map D.int), .non, .non, .non, .non, .non, .non, .non, .non, .non, .non, .non, .non, .non] ⟨_, _, _, _, _, _, _, _, _, _, rfl⟩ (by
    rintro t σ ht ⟨x1, x2, x3, x4, x5, x6, x7, x8, x9, y0, rfl⟩
    obtain ⟨u2, u3, u4, u5, u6, u7, u8, u9, v0, ee⟩ := body t x2 x3 x4 x5 x6 x7 x8 x9 y0 .non .non .non (by omega)
    exact ⟨_, _, rfl, ee, _, _, _, _, _, _, _, _, _, _, rfl⟩)
  obtain ⟨x1, x2, x3, x4, x5, x6, x7, x8, x9, y0, rfl⟩ := I
  have c1 : ∃ z, lcL (.nm 13) tYesD (eCall d_is_form [] (aCons (eLst (aCons (eTup (aCons (eTup (aCons (eFlat (eVar 13)) aNil)) (aCons (eTup (aCons (eC (.int 1)) (aCons (eC (.int 1)) aNil))) aNil))) aNil)) (aCons (eC (.int 1)) aNil))) ([0, 60, 61].map D.int) [] [.fzl (ns.map D.int), x1, x2, x3, x4, x5, x6, x7, x8, x9, y0, .non, .non, .non] = .ok ([0, 60, 61].map fun p : Int => D.bl (decide (p ≤ 60))) [.fzl (ns.map D.int), x1, x2, x3, x4, x5, x6, x7, x8, x9, y0,   .non, .non, z] := by
    have g := fun (p : Int) (hp : p = 0 ∨ p = 60 ∨ p = 61) => great_eq p hp
    obtain ⟨_, c, z, hz⟩ := lcL_mapG (T := .nm 13) (ge := eCall d_is_form [] (aCons (eLst (aCons (eTup (aCons (eTup (aCons (eFlat (eVar 13)) aNil)) (aCons (eTup (aCons (eC (.int 1)) (aCons (eC (.int 1)) aNil))) aNil))) aNil)) (aCons (eC (.int 1)) aNil))) D.int (fun p : Int => D.bl (decide (p ≤ 60))) (fun σ => ∃ z, σ = [.fzl (ns.map D.int), x1, x2, x3, x4, x5, x6, x7, x8, x9, y0, .non, .non, z]) [0, 60, 61] [.fzl (ns.map D.int), x1, x2, x3, x4, x5, x6, x7, x8, x9, y0, .non, .non, .non] ⟨_, rfl⟩ (by
      rintro p hp σ ⟨z, rfl⟩
      have hp : p = 0 ∨ p = 60 ∨ p = 61 := by simpa using hp
      refine ⟨[.fzl (ns.map D.int), x1, x2, x3, x4, x5, x6, x7, x8, x9, y0, .non, .non, .int p], [.fzl (ns.map D.int), x1, x2, x3, x4, x5, x6, x7, x8, x9, y0, .non, .non, .int p], rfl, ?_, _, rfl⟩
      simp only [EW, g p hp])
    exact ⟨z, by rw [hz] at c; exact c⟩
  obtain ⟨z, c1⟩ := c1
  have c1 : lcL (.nm 13) tYesD _ [.int 0, .int 60, .int 61] [] _ = .ok [.bl true, .bl true, .bl false] _ := c1
  have hz : ([.int 0, .int 60, .int 61] : List D).length ≤ sizeLine := lcN (by simp)
  have gt : ∀ σ : List D, gtup2 (.ok (.tup [.int 0, .int 60, .int 61]) σ) = .ok [.int 0, .int 60, .int 61] σ := fun _ => rfl
  have rp : dRepT (.tup [.int 0]) (.int 119) = some (pwD (List.replicate 119 0)) := repT_0 (n := 119) (by omega) (by omega)
  have t1 : dCatT (pwD (List.replicate 119 0)) (.tup [.int 2]) = some (pwD (List.replicate 119 0 ++ [2])) := by
    show dCatT (.tup ((List.replicate 119 (0 : Int)).map D.int)) (.tup [.int 2]) = some (.tup ((List.replicate 119 (0 : Int) ++ [2]).map D.int))
    rw [catT_ll (by simp), List.map_append]; rfl
  have t2 : dCatT (.tup [.int 1]) (pwD (List.replicate 119 0)) = some (pwD (1 :: List.replicate 119 0)) := catT_ll (by simp)
  have fl : ∀ (p : List Int) (σ : List D), flat2 (.ok (pwD p) σ) = .ok (pwD p) σ := fl2P
  have ng : dNeg (.int 1) = some (.int (-1)) := rfl
  have wa : d_is_form [.lst [.tup [pwD (List.replicate 119 (0 : Int) ++ [2]), .tup [.int 1, .int 1]], .tup [pwD (1 :: List.replicate 119 (0 : Int)), .tup [.int (-1), .int 3]]], .int 120] = .ret (.bl true) [] := wide_at
  have wl : d_is_form [.lst [.tup [pwD (List.replicate 119 (0 : Int) ++ [2]), .tup [.int 1, .int 1]], .tup [pwD (1 :: List.replicate 119 (0 : Int)), .tup [.int (-1), .int 3]]], .int 119] = .ret (.bl false) [] := wide_less
  have w0 : d_is_form [.lst [], .int 1] = .ret (.bl true) [] := is_form_eq (n := 1) (F := []) (fun x hx => (by cases hx)) (by omega) (by simp)
  have q3 : dEq (.lst [.bl true, .bl true, .bl false]) (.lst [.bl true, .bl true, .bl false]) = some (.bl true) := by rfl
  generalize List.replicate 119 (0 : Int) = L at rp t1 t2 wa wl
  exact ⟨_, by simp only [EW, er, E, gt, lc2_0 hz, c1, rp, t1, t2, fl, ng, wa, wl, w0, isB_bl, isNB_bl, q3]; with_reducible rfl⟩
end Law


namespace Law
open PySem PySem.Spec PySem.SeqAt PyProof.Rows L2 Ow
def top (i : Nat) : Stmt := PySem.Challenge.pw_rolldiscs_k16_what_is_a_form.main.body.getD i (.Pass ⟨0, 0, 0, 0⟩)
def dd (i : Nat) (x : Str) : He.DefD := ⟨(x, none), x, x, defArgs (top i), defBody (top i), defScope (top i), [], []⟩
def topm (i j : Nat) : Stmt := match top i with
  | .ClassDef _ _ _ b _ _ _ _ _ _ _ => b.getD j (.Pass ⟨0, 0, 0, 0⟩)
  | _ => .Pass ⟨0, 0, 0, 0⟩
def ddm (i j : Nat) (c m q : Str) : He.DefD := ⟨(c, some m), m, q, defArgs (topm i j), defBody (topm i j), defScope (topm i j), [], []⟩
def ddA (i : Nat) (x y : Str) : He.DefD := ⟨(x, none), y, y, defArgs (top i), defBody (top i), defScope (top i), [], []⟩
def fn : List He.DefD := [dd 12 "_law_bag", dd 13 "_law_take", dd 20 "_law_odd", dd 21 "_law_odd_number", dd 22 "_law_row_bent", dd 23 "_law_bent", dd 14 "_law_low", dd 15 "_law_number", dd 16 "_law_form", dd 17 "_law_whole", dd 18 "_law_is_number", dd 19 "_law_is_form", dd 2 "is_whole", dd 3 "shared", dd 4 "is_number", dd 8 "is_powers", dd 9 "is_row", dd 10 "is_form", dd 24 "law"]
def fa : List He.Fa := [.glo "_law_bag", .glo "_law_take", .glo "_law_odd", .glo "_law_odd_number", .glo "_law_row_bent", .glo "_law_bent", .glo "_law_low", .glo "_law_number", .glo "_law_form", .glo "_law_whole", .glo "_law_is_number", .glo "_law_is_form", .glo "is_whole", .glo "shared", .glo "is_number", .glo "is_powers", .glo "is_row", .glo "is_form", .glo "law", .free "len", .free "abs", .free "int", .free "list", .free "range", .free "tuple", .free "sorted", .free "isinstance", .free "bool", .free "all", .free "zip", .free "min", .free "max", .free "repr"]
def cs : List (Str × D) := [("MOST_POWER", .int 60), ("NOUGHT", .tup [.int 0, .int 1]), ("MOST_ROWS", .int 60)]
def loose0 : List Str := ["NOUGHT", "MOST_ROWS", "MOST_POWER", "is_whole", "shared", "is_number", "is_powers", "is_row", "is_form", "_law_bag", "_law_take", "_law_low"]
def loose1 : List Str := ["_law_number", "_law_form", "_law_whole", "_law_is_number", "_law_is_form", "_law_odd", "_law_odd_number", "_law_row_bent", "_law_bent"]
def loose : List Str := loose0 ++ loose1
variable {P : Program} {w : World} {K : PySem.W.Frag} {mg : Str → Option Value} {base : Heap}
theorem sc__law_bag : FnScope ["_law_script", "_law_at", "_law_cell"] ["_law_script", "_law_at"] (defScope (top 12)) := ⟨rfl, rfl, rfl, by decide +kernel, rfl, by decide +kernel, by decide +kernel⟩
theorem c__law_bag (c : Faz fa fn cs K mg) : Fnc P w K mg base "_law_bag" 1 2 [] true d__law_bag :=
  fnc_of c.toFax 0 0 (Γ' := ctxIo 3 []) rfl rfl sc__law_bag rfl rfl (by decide) (by decide) (by decide) (fun _ _ _ _ _ _ us hl => match us, hl with | [_, _], _ => rfl) fun cdv A outer s H E hr =>
  (bj_cons (sj_weak (Γ2 := [some (.bor [.prm]), some (.bor [.prm]), some (.own)]) (sj_set (i := 2) sc__law_bag.nd rfl (ej_add (ej_mul ej_int (ej_var (i := 1) (k := .bor [.prm]) rfl (pv 1))) ej_int)))
(bj_cons (sj_if (Γ' := [some (.bor [.prm]), some (.bor [.prm]), some (.own)]) (tj_lt (ej_var (i := 1) (k := .bor [.prm]) rfl (pv 1)) (ej_len (c.free 19 rfl) (aj_cons (ej_var (i := 0) (k := .bor [.prm]) rfl (pv 0)) aj_nil)))
(bj_weak (bj_one (sj_weak (Γ2 := [some (.bor [.prm]), some (.bor [.prm]), some (.own)]) (sj_set (i := 2) sc__law_bag.nd rfl (ej_flat (ej_ix (ej_var (i := 0) (k := .bor [.prm]) rfl (pv 0)) (ej_var (i := 1) (k := .bor [.prm]) rfl (pv 1))))))))
(bj_weak bj_nil))
(bj_one (sj_ret (ej_lst (aj_cons (ej_mul (ej_abs (c.free 20 rfl) (aj_cons (ej_var (i := 2) (k := .own) rfl (pv 2)) aj_nil)) (ej_intc (c.free 21 rfl) (aj_cons (ej_ge (ej_abs (c.free 20 rfl) (aj_cons (ej_var (i := 2) (k := .own) rfl (pv 2)) aj_nil)) (ej_pow ej_int ej_int)) aj_nil))) (aj_cons (ej_add (ej_mod (ej_var (i := 2) (k := .own) rfl (pv 2)) ej_int) (ej_mul ej_int (ej_var (i := 1) (k := .bor [.prm]) rfl (pv 1)))) (aj_cons ej_int aj_nil))))))))
theorem sc__law_take : FnScope ["_law_bag_here", "_law_many", "_law_digit", "_law_primes", "_law_step", "_law_base", "_law_here"] ["_law_bag_here", "_law_many"] (defScope (top 13)) := ⟨rfl, rfl, rfl, by decide +kernel, rfl, by decide +kernel, by decide +kernel⟩
theorem c__law_take (c : Faz fa fn cs K mg) : Fnc P w K mg base "_law_take" 1 2 [0] true d__law_take :=
  fnc_of c.toFax 1 1 (Γ' := ctxIo 7 [0]) rfl rfl sc__law_take rfl rfl (by decide) (by decide) (by decide) (fun _ _ _ _ _ _ us hl => match us, hl with | [_, _], _ => rfl) fun cdv A outer s H E hr =>
  (bj_cons (sj_if (Γ' := [some (.own), some (.bor [.prm]), none, none, none, none, none]) (tj_gt (ej_ix (ej_var (i := 0) (k := .own) rfl (pv 0)) ej_int) ej_int)
(bj_cons (sj_weak (Γ2 := [some (.own), some (.bor [.prm]), some (.own), none, none, none, none]) (sj_set (i := 2) sc__law_take.nd rfl (ej_mod (ej_ix (ej_var (i := 0) (k := .own) rfl (pv 0)) ej_int) (ej_var (i := 1) (k := .bor [.prm]) rfl (pv 1)))))
(bj_cons (sj_setix (r := 0) (pv 0) (ej_div (ej_ix (ej_var (i := 0) (k := .own) rfl (pv 0)) ej_int) (ej_var (i := 1) (k := .bor [.prm]) rfl (pv 1))) ej_int)
(bj_one (sj_ret (ej_flat (ej_var (i := 2) (k := .own) rfl (pv 2)))))))
(bj_weak bj_nil))
(bj_cons (sj_weak (Γ2 := [some (.own), some (.bor [.prm]), none, some (.own), none, none, none]) (sj_set (i := 3) sc__law_take.nd rfl (ej_tup (aj_cons ej_int (aj_cons ej_int (aj_cons ej_int (aj_cons ej_int (aj_cons ej_int (aj_cons ej_int (aj_cons ej_int (aj_cons ej_int aj_nil)))))))))))
(bj_cons (sj_setix (r := 0) (pv 0) (ej_add (ej_ix (ej_var (i := 0) (k := .own) rfl (pv 0)) ej_int) ej_int) ej_int)
(bj_cons (sj_weak (Γ2 := [some (.own), some (.bor [.prm]), none, some (.own), some (.own), none, none]) (sj_set (i := 4) sc__law_take.nd rfl (ej_flat (ej_ix (ej_var (i := 0) (k := .own) rfl (pv 0)) ej_int))))
(bj_cons (sj_weak (Γ2 := [some (.own), some (.bor [.prm]), none, some (.own), some (.own), some (.own), none]) (sj_set (i := 5) sc__law_take.nd rfl (ej_add (ej_mul (ej_add (ej_ix (ej_var (i := 0) (k := .own) rfl (pv 0)) ej_int) ej_int) (ej_add (ej_mul ej_int (ej_var (i := 4) (k := .own) rfl (pv 4))) ej_int)) (ej_mul (ej_mul ej_int (ej_var (i := 4) (k := .own) rfl (pv 4))) (ej_var (i := 4) (k := .own) rfl (pv 4))))))
(bj_cons (sj_weak (Γ2 := [some (.own), some (.bor [.prm]), none, some (.own), some (.own), some (.own), some (.own)]) (sj_set (i := 6) sc__law_take.nd rfl (ej_mod (ej_pow (ej_var (i := 5) (k := .own) rfl (pv 5)) ej_int) (ej_ix (ej_var (i := 3) (k := .own) rfl (pv 3)) (ej_mod (ej_var (i := 4) (k := .own) rfl (pv 4)) ej_int)))))
(bj_one (sj_ret (ej_mod (ej_div (ej_mod (ej_mul (ej_var (i := 6) (k := .own) rfl (pv 6)) (ej_add (ej_div (ej_var (i := 6) (k := .own) rfl (pv 6)) ej_int) ej_int)) (ej_ix (ej_var (i := 3) (k := .own) rfl (pv 3)) (ej_mod (ej_add (ej_var (i := 4) (k := .own) rfl (pv 4)) ej_int) ej_int))) ej_int) (ej_var (i := 1) (k := .bor [.prm]) rfl (pv 1)))))))))))
theorem sc__law_odd : FnScope ["_law_bag_here"] ["_law_bag_here"] (defScope (top 20)) := ⟨rfl, rfl, rfl, by decide +kernel, rfl, by decide +kernel, by decide +kernel⟩
theorem c__law_odd (c : Faz fa fn cs K mg) : Fnc P w K mg base "_law_odd" 2 1 [0] true d__law_odd :=
  fnc_of c.toFax 2 2 (Γ' := ctxIo 1 [0]) rfl rfl sc__law_odd rfl rfl (by decide) (by decide) (by decide) (fun _ _ _ _ _ _ us hl => match us, hl with | [_], _ => rfl) fun cdv A outer s H E hr =>
  (bj_one (sj_ret (ej_ix (ej_lst (aj_cons (ej_neg ej_int) (aj_cons ej_int (aj_cons ej_bl (aj_cons ej_non (aj_cons ej_str (aj_cons (ej_tup (aj_cons ej_int aj_nil)) (aj_cons ej_int (aj_cons (ej_lst aj_nil) aj_nil))))))))) (ej_callC (rs := [0]) (c__law_take c) rfl (hr.mono (by decide)) takes_c (aj_slot (r := 0) rfl (pv 0) (aj_cons ej_int aj_nil)) ⟨by decide, by decide, rfl, by decide, by decide, by decide, by decide, by decide, by decide, by decide⟩))))
theorem sc__law_odd_number : FnScope ["_law_bag_here", "_law_some"] ["_law_bag_here"] (defScope (top 21)) := ⟨rfl, rfl, rfl, by decide +kernel, rfl, by decide +kernel, by decide +kernel⟩
theorem c__law_odd_number (c : Faz fa fn cs K mg) : Fnc P w K mg base "_law_odd_number" 2 1 [0] false d__law_odd_number :=
  fnc_of c.toFax 3 3 (Γ' := ctxIo 2 [0]) rfl rfl sc__law_odd_number rfl rfl (by decide) (by decide) (by decide) (fun _ _ _ _ _ _ us hl => match us, hl with | [_], _ => rfl) fun cdv A outer s H E hr =>
  (bj_cons (sj_weak (Γ2 := [some (.own), some (.own)]) (sj_set (i := 1) sc__law_odd_number.nd rfl (ej_lst (aj_cons (ej_tup (aj_cons ej_int (aj_cons ej_int aj_nil))) (aj_cons (ej_tup (aj_cons ej_int (aj_cons ej_int aj_nil))) (aj_cons (ej_tup (aj_cons ej_int (aj_cons (ej_neg ej_int) aj_nil))) (aj_cons (ej_tup (aj_cons ej_int (aj_cons ej_int aj_nil))) (aj_cons (ej_tup (aj_cons ej_bl (aj_cons ej_int aj_nil))) (aj_cons (ej_lst (aj_cons ej_int (aj_cons ej_int aj_nil))) (aj_cons (ej_tup (aj_cons ej_int aj_nil)) (aj_cons ej_non (aj_cons ej_int (aj_cons (ej_tup (aj_cons ej_int (aj_cons ej_int aj_nil))) aj_nil)))))))))))))
(bj_one (sj_retB (ej_ix (ej_cat (ej_var (i := 1) (k := .own) rfl (pv 1)) (ej_lst (aj_cons (ej_tup (aj_cons ej_int (aj_cons ej_bl aj_nil))) (aj_cons (ej_tup (aj_cons ej_int (aj_cons ej_int aj_nil))) (aj_cons (ej_tup (aj_cons ej_int (aj_cons ej_int aj_nil))) (aj_cons (ej_tup (aj_cons (ej_neg ej_int) (aj_cons (ej_neg ej_int) aj_nil))) aj_nil)))))) (ej_callC (rs := [0]) (c__law_take c) rfl (hr.mono (by decide)) takes_c (aj_slot (r := 0) rfl (pv 0) (aj_cons ej_int aj_nil)) ⟨by decide, by decide, rfl, by decide, by decide, by decide, by decide, by decide, by decide, by decide⟩)))))
theorem sc__law_row_bent : FnScope ["_law_bag_here", "_law_row", "_law_n", "_law_powers", "_law_number_here", "_law_at", "_law_way"] ["_law_bag_here", "_law_row", "_law_n"] (defScope (top 22)) := ⟨rfl, rfl, rfl, by decide +kernel, rfl, by decide +kernel, by decide +kernel⟩
theorem c__law_row_bent (c : Faz fa fn cs K mg) : Fnc P w K mg base "_law_row_bent" 3 3 [0] false d__law_row_bent :=
  fnc_of c.toFax 4 4 (Γ' := ctxIo 7 [0]) rfl rfl sc__law_row_bent rfl rfl (by decide) (by decide) (by decide) (fun _ _ _ _ _ _ us hl => match us, hl with | [_, _, _], _ => rfl) fun cdv A outer s H E hr =>
  (bj_cons (sj_weak (Γ2 := [some (.own), some (.bor [.prm]), some (.bor [.prm]), some (.bor []), some (.bor []), none, none]) (sj_unp (T := .tp [3, 4]) (ej_bor (R := []) (ej_flat (ej_var (i := 1) (k := .bor [.prm]) rfl (pv 1)))) (pg_tup rfl (pgs_cons (pg_name sc__law_row_bent.nd rfl (.inl rfl)) (pgs_cons (pg_name sc__law_row_bent.nd rfl (.inl rfl)) pgs_nil)))))
(bj_cons (sj_weak (Γ2 := [some (.own), some (.bor [.prm]), some (.bor [.prm]), some (.bor []), some (.bor []), some (.own), none]) (sj_set (i := 5) sc__law_row_bent.nd rfl (ej_callC (rs := [0]) (c__law_take c) rfl (hr.mono (by decide)) takes_c (aj_slot (r := 0) rfl (pv 0) (aj_cons (ej_var (i := 2) (k := .bor [.prm]) rfl (pv 2)) aj_nil)) ⟨by decide, by decide, rfl, by decide, by decide, by decide, by decide, by decide, by decide, by decide⟩)))
(bj_cons (sj_weak (Γ2 := [some (.own), some (.bor [.prm]), some (.bor [.prm]), some (.bor []), some (.bor []), some (.own), some (.own)]) (sj_set (i := 6) sc__law_row_bent.nd rfl (ej_callC (rs := [0]) (c__law_take c) rfl (hr.mono (by decide)) takes_c (aj_slot (r := 0) rfl (pv 0) (aj_cons ej_int aj_nil)) ⟨by decide, by decide, rfl, by decide, by decide, by decide, by decide, by decide, by decide, by decide⟩)))
(bj_cons (sj_if (Γ' := [some (.own), some (.bor [.prm]), some (.bor [.prm]), some (.bor []), some (.bor []), some (.own), some (.own)]) (tj_eq (hu64 hr) (ej_var (i := 6) (k := .own) rfl (pv 6)) ej_int)
(bj_one (sj_retB (ej_tupM (aj_cons (ej_flat (ej_var (i := 3) (k := .bor []) rfl (pv 3))) (aj_cons (ej_callC (rs := [0]) (c__law_odd_number c) rfl (hr.mono (by decide)) takes_c (aj_slot (r := 0) rfl (pv 0) aj_nil) ⟨by decide, by decide, rfl, by decide, by decide, by decide, by decide, by decide, by decide, by decide⟩) aj_nil)))))
(bj_weak bj_nil))
(bj_cons (sj_if (Γ' := [some (.own), some (.bor [.prm]), some (.bor [.prm]), some (.bor []), some (.bor []), some (.own), some (.own)]) (tj_eq (hu64 hr) (ej_var (i := 6) (k := .own) rfl (pv 6)) ej_int)
(bj_one (sj_retB (ej_tupM (aj_cons (ej_catT (ej_catT (ej_slT (ej_var (i := 3) (k := .bor []) rfl (pv 3)) oj_none (oj_some (ej_var (i := 5) (k := .own) rfl (pv 5)))) (ej_tup (aj_cons (ej_callC (rs := [0]) (c__law_odd c) rfl (hr.mono (by decide)) takes_c (aj_slot (r := 0) rfl (pv 0) aj_nil) ⟨by decide, by decide, rfl, by decide, by decide, by decide, by decide, by decide, by decide, by decide⟩) aj_nil))) (ej_slT (ej_var (i := 3) (k := .bor []) rfl (pv 3)) (oj_some (ej_add (ej_var (i := 5) (k := .own) rfl (pv 5)) ej_int)) oj_none)) (aj_cons (ej_flat (ej_var (i := 4) (k := .bor []) rfl (pv 4))) aj_nil)))))
(bj_weak bj_nil))
(bj_cons (sj_if (Γ' := [some (.own), some (.bor [.prm]), some (.bor [.prm]), some (.bor []), some (.bor []), some (.own), some (.own)]) (tj_eq (hu64 hr) (ej_var (i := 6) (k := .own) rfl (pv 6)) ej_int)
(bj_one (sj_retB (ej_bor (R := []) (ej_tup (aj_cons (ej_flat (ej_catT (ej_catT (ej_slT (ej_var (i := 3) (k := .bor []) rfl (pv 3)) oj_none (oj_some (ej_var (i := 5) (k := .own) rfl (pv 5)))) (ej_tup (aj_cons (ej_add (ej_ix (ej_var (i := 3) (k := .bor []) rfl (pv 3)) (ej_var (i := 5) (k := .own) rfl (pv 5))) ej_int) aj_nil))) (ej_slT (ej_var (i := 3) (k := .bor []) rfl (pv 3)) (oj_some (ej_add (ej_var (i := 5) (k := .own) rfl (pv 5)) ej_int)) oj_none))) (aj_cons (ej_flat (ej_var (i := 4) (k := .bor []) rfl (pv 4))) aj_nil))))))
(bj_weak bj_nil))
(bj_cons (sj_if (Γ' := [some (.own), some (.bor [.prm]), some (.bor [.prm]), some (.bor []), some (.bor []), some (.own), some (.own)]) (tj_eq (hu64 hr) (ej_var (i := 6) (k := .own) rfl (pv 6)) ej_int)
(bj_one (sj_retB (ej_bor (R := []) (ej_tup (aj_cons (ej_flat (ej_catT (ej_slT (ej_var (i := 3) (k := .bor []) rfl (pv 3)) oj_none (oj_some (ej_var (i := 5) (k := .own) rfl (pv 5)))) (ej_slT (ej_var (i := 3) (k := .bor []) rfl (pv 3)) (oj_some (ej_add (ej_var (i := 5) (k := .own) rfl (pv 5)) ej_int)) oj_none))) (aj_cons (ej_flat (ej_var (i := 4) (k := .bor []) rfl (pv 4))) aj_nil))))))
(bj_weak bj_nil))
(bj_one (sj_retB (ej_bor (R := []) (ej_ix (ej_lst (aj_cons (ej_lst (aj_cons (ej_flat (ej_var (i := 3) (k := .bor []) rfl (pv 3))) (aj_cons (ej_flat (ej_var (i := 4) (k := .bor []) rfl (pv 4))) aj_nil))) (aj_cons (ej_tup (aj_cons (ej_flatL (ej_listOf (c.free 22 rfl) (aj_cons (ej_var (i := 3) (k := .bor []) rfl (pv 3)) aj_nil))) (aj_cons (ej_flat (ej_var (i := 4) (k := .bor []) rfl (pv 4))) aj_nil))) (aj_cons (ej_tup (aj_cons (ej_flat (ej_var (i := 3) (k := .bor []) rfl (pv 3))) (aj_cons (ej_flat (ej_var (i := 4) (k := .bor []) rfl (pv 4))) (aj_cons (ej_flat (ej_var (i := 4) (k := .bor []) rfl (pv 4))) aj_nil)))) aj_nil)))) (ej_sub (ej_var (i := 6) (k := .own) rfl (pv 6)) ej_int))))))))))))
theorem sc__law_bent : FnScope ["_law_bag_here", "_law_form_here", "_law_n", "_law_way", "_law_many", "_law_at", "_law_powers", "_law_number_here", "_law_k"] ["_law_bag_here", "_law_form_here", "_law_n"] (defScope (top 23)) := ⟨rfl, rfl, rfl, by decide +kernel, rfl, by decide +kernel, by decide +kernel⟩
theorem c__law_bent (c : Faz fa fn cs K mg) : Fnc P w K mg base "_law_bent" 4 3 [0] false d__law_bent :=
  fnc_of c.toFax 5 5 (Γ' := ctxIo 9 [0]) rfl rfl sc__law_bent rfl rfl (by decide) (by decide) (by decide) (fun _ _ _ _ _ _ us hl => match us, hl with | [_, _, _], _ => rfl) fun cdv A outer s H E hr =>
  (bj_cons (sj_weak (Γ2 := [some (.own), some (.bor [.prm]), some (.bor [.prm]), some (.own), none, none, none, none, none]) (sj_set (i := 3) sc__law_bent.nd rfl (ej_callC (rs := [0]) (c__law_take c) rfl (hr.mono (by decide)) takes_c (aj_slot (r := 0) rfl (pv 0) (aj_cons ej_int aj_nil)) ⟨by decide, by decide, rfl, by decide, by decide, by decide, by decide, by decide, by decide, by decide⟩)))
(bj_cons (sj_if (Γ' := [some (.own), some (.bor [.prm]), some (.bor [.prm]), some (.own), none, none, none, none, none]) (tj_eq (hu64 hr) (ej_var (i := 3) (k := .own) rfl (pv 3)) ej_int)
(bj_cons (sj_weak (Γ2 := [some (.own), some (.bor [.prm]), some (.bor [.prm]), some (.own), some (.own), none, none, none, none]) (sj_set (i := 4) sc__law_bent.nd rfl (ej_add ej_int (ej_callC (rs := [0]) (c__law_take c) rfl (hr.mono (by decide)) takes_c (aj_slot (r := 0) rfl (pv 0) (aj_cons ej_int aj_nil)) ⟨by decide, by decide, rfl, by decide, by decide, by decide, by decide, by decide, by decide, by decide⟩))))
(bj_one (sj_retB (ej_bor (R := []) (ej_lc (own := [("_law_k", 8)]) (T := .nm 8) (vr := []) (Γ' := [some (.own), some (.bor [.prm]), some (.bor [.prm]), some (.own), some (.own), none, none, none, some (.bor [])]) rfl sc__law_bent.nd (ij_range1 (c.free 23 rfl) (aj_cons (ej_flat (ej_var (i := 4) (k := .own) rfl (pv 4))) aj_nil)) (blkOk_by (N := ["_law_bag_here", "_law_form_here", "_law_n", "_law_way", "_law_many", "_law_at", "_law_powers", "_law_number_here", "_law_k"]) (sc := defScope (top 23)) (by decide +kernel)) (fun _ _ _ _ _ => (pg_name sc__law_bent.nd rfl (.inl rfl))) (fun _ _ _ _ _ => ptj_nil) (fun _ _ _ _ _ => (ej_tup (aj_cons (ej_flat (ej_catT (ej_tup (aj_cons (ej_flat (ej_var (i := 8) (k := .bor []) rfl (pv 8))) aj_nil)) (ej_repT0 (ej_tup (aj_cons ej_int aj_nil)) (ej_sub (ej_var (i := 2) (k := .bor [.prm]) rfl (pv 2)) ej_int)))) (aj_cons (ej_tup (aj_cons ej_int (aj_cons ej_int aj_nil))) aj_nil)))) ⟨by decide, by decide, by decide, by decide, by decide, by decide, by decide, by decide⟩)))))
(bj_weak bj_nil))
(bj_cons (sj_if (Γ' := [some (.own), some (.bor [.prm]), some (.bor [.prm]), some (.own), none, none, none, none, none]) (tj_of_w (wj_or (tj_eq (hu64 hr) (ej_var (i := 3) (k := .own) rfl (pv 3)) ej_int) (wj_or1 (tj_eq (hu64 hr) (ej_var (i := 1) (k := .bor [.prm]) rfl (pv 1)) (ej_lst aj_nil)))))
(bj_one (sj_retB (ej_bor (R := []) (ej_ix (ej_lst (aj_cons (ej_flat (ej_tupOf (c.free 24 rfl) (aj_cons (ej_var (i := 1) (k := .bor [.prm]) rfl (pv 1)) aj_nil))) (aj_cons ej_non (aj_cons ej_int (aj_cons ej_str (aj_cons (ej_tup aj_nil) (aj_cons ej_int (aj_cons (ej_lst (aj_cons (ej_tup aj_nil) aj_nil)) (aj_cons (ej_lst (aj_cons ej_non aj_nil)) (aj_cons (ej_lst (aj_cons (ej_lst aj_nil) aj_nil)) (aj_cons ej_bl aj_nil))))))))))) (ej_callC (rs := [0]) (c__law_take c) rfl (hr.mono (by decide)) takes_c (aj_slot (r := 0) rfl (pv 0) (aj_cons ej_int aj_nil)) ⟨by decide, by decide, rfl, by decide, by decide, by decide, by decide, by decide, by decide, by decide⟩)))))
(bj_weak bj_nil))
(bj_cons (sj_weak (Γ2 := [some (.own), some (.bor [.prm]), some (.bor [.prm]), some (.own), none, some (.own), none, none, none]) (sj_set (i := 5) sc__law_bent.nd rfl (ej_callC (rs := [0]) (c__law_take c) rfl (hr.mono (by decide)) takes_c (aj_slot (r := 0) rfl (pv 0) (aj_cons (ej_len (c.free 19 rfl) (aj_cons (ej_var (i := 1) (k := .bor [.prm]) rfl (pv 1)) aj_nil)) aj_nil)) ⟨by decide, by decide, rfl, by decide, by decide, by decide, by decide, by decide, by decide, by decide⟩)))
(bj_cons (sj_if (Γ' := [some (.own), some (.bor [.prm]), some (.bor [.prm]), some (.own), none, some (.own), none, none, none]) (tj_eq (hu64 hr) (ej_var (i := 3) (k := .own) rfl (pv 3)) ej_int)
(bj_one (sj_retB (ej_bor (R := []) (ej_flatL (ej_cat (ej_slL (ej_var (i := 1) (k := .bor [.prm]) rfl (pv 1)) (oj_some (ej_var (i := 5) (k := .own) rfl (pv 5))) oj_none) (ej_slL (ej_var (i := 1) (k := .bor [.prm]) rfl (pv 1)) oj_none (oj_some (ej_var (i := 5) (k := .own) rfl (pv 5)))))))))
(bj_weak bj_nil))
(bj_cons (sj_if (Γ' := [some (.own), some (.bor [.prm]), some (.bor [.prm]), some (.own), none, some (.own), none, none, none]) (tj_eq (hu64 hr) (ej_var (i := 3) (k := .own) rfl (pv 3)) ej_int)
(bj_one (sj_retB (ej_bor (R := []) (ej_flatL (ej_cat (ej_cat (ej_slL (ej_var (i := 1) (k := .bor [.prm]) rfl (pv 1)) oj_none (oj_some (ej_var (i := 5) (k := .own) rfl (pv 5)))) (ej_lst (aj_cons (ej_flat (ej_ix (ej_var (i := 1) (k := .bor [.prm]) rfl (pv 1)) (ej_var (i := 5) (k := .own) rfl (pv 5)))) aj_nil))) (ej_slL (ej_var (i := 1) (k := .bor [.prm]) rfl (pv 1)) (oj_some (ej_var (i := 5) (k := .own) rfl (pv 5))) oj_none))))))
(bj_weak bj_nil))
(bj_cons (sj_if (Γ' := [some (.own), some (.bor [.prm]), some (.bor [.prm]), some (.own), none, some (.own), none, none, none]) (tj_eq (hu64 hr) (ej_var (i := 3) (k := .own) rfl (pv 3)) ej_int)
(bj_cons (sj_weak (Γ2 := [some (.own), some (.bor [.prm]), some (.bor [.prm]), some (.own), none, some (.own), some (.bor []), some (.bor []), none]) (sj_unp (T := .tp [6, 7]) (ej_bor (R := []) (ej_flat (ej_ix (ej_var (i := 1) (k := .bor [.prm]) rfl (pv 1)) (ej_var (i := 5) (k := .own) rfl (pv 5))))) (pg_tup rfl (pgs_cons (pg_name sc__law_bent.nd rfl (.inl rfl)) (pgs_cons (pg_name sc__law_bent.nd rfl (.inl rfl)) pgs_nil)))))
(bj_one (sj_retB (ej_bor (R := []) (ej_flatL (ej_cat (ej_cat (ej_slL (ej_var (i := 1) (k := .bor [.prm]) rfl (pv 1)) oj_none (oj_some (ej_add (ej_var (i := 5) (k := .own) rfl (pv 5)) ej_int))) (ej_lst (aj_cons (ej_tup (aj_cons (ej_flat (ej_var (i := 6) (k := .bor []) rfl (pv 6))) (aj_cons (ej_tup (aj_cons (ej_add (ej_ix (ej_var (i := 7) (k := .bor []) rfl (pv 7)) ej_int) (ej_ix (ej_var (i := 7) (k := .bor []) rfl (pv 7)) ej_int)) (aj_cons (ej_flat (ej_ix (ej_var (i := 7) (k := .bor []) rfl (pv 7)) ej_int)) aj_nil))) aj_nil))) aj_nil))) (ej_slL (ej_var (i := 1) (k := .bor [.prm]) rfl (pv 1)) (oj_some (ej_add (ej_var (i := 5) (k := .own) rfl (pv 5)) ej_int)) oj_none)))))))
(bj_weak bj_nil))
(bj_one (sj_retB (ej_spnB (ej_cat (ej_cat (ej_slL (ej_var (i := 1) (k := .bor [.prm]) rfl (pv 1)) oj_none (oj_some (ej_var (i := 5) (k := .own) rfl (pv 5)))) (ej_lstM (aj_cons (ej_callC (rs := [0]) (c__law_row_bent c) rfl (hr.mono (by decide)) takes_c (aj_slot (r := 0) rfl (pv 0) (aj_cons (ej_flat (ej_ix (ej_var (i := 1) (k := .bor [.prm]) rfl (pv 1)) (ej_var (i := 5) (k := .own) rfl (pv 5)))) (aj_cons (ej_flat (ej_var (i := 2) (k := .bor [.prm]) rfl (pv 2))) aj_nil))) ⟨by decide, by decide, rfl, by decide, by decide, by decide, by decide, by decide, by decide, by decide⟩) aj_nil))) (ej_slL (ej_var (i := 1) (k := .bor [.prm]) rfl (pv 1)) (oj_some (ej_add (ej_var (i := 5) (k := .own) rfl (pv 5)) ej_int)) oj_none))))))))))))
theorem sc__law_low : FnScope ["_law_top", "_law_below", "_law_one", "_law_other"] ["_law_top", "_law_below"] (defScope (top 14)) := ⟨rfl, rfl, rfl, by decide +kernel, rfl, by decide +kernel, by decide +kernel⟩
theorem c__law_low (c : Faz fa fn cs K mg) : Fnc P w K mg base "_law_low" 1 2 [] true d__law_low :=
  fnc_of c.toFax 6 6 (Γ' := ctxIo 4 []) rfl rfl sc__law_low rfl rfl (by decide) (by decide) (by decide) (fun _ _ _ _ _ _ us hl => match us, hl with | [_, _], _ => rfl) fun cdv A outer s H E hr =>
  (bj_cons (sj_weak (Γ2 := [some (.bor [.prm]), some (.bor [.prm]), some (.own), some (.bor [.prm])]) (sj_par (i := 2) (j := 3) rfl sc__law_low.nd rfl rfl (aj_cons (ej_abs (c.free 20 rfl) (aj_cons (ej_var (i := 0) (k := .bor [.prm]) rfl (pv 0)) aj_nil)) (aj_cons (ej_var (i := 1) (k := .bor [.prm]) rfl (pv 1)) aj_nil))))
(bj_cons (sj_pre (Γ1 := [some (.bor [.prm]), some (.bor [.prm]), some (.bor [.prm, .slt 2]), some (.bor [.prm, .slt 3])]) (sj_while passes_c (tj_gt (ej_var (i := 3) (k := .bor [.prm, .slt 3]) rfl (pv 3)) ej_int)
(bj_weak (bj_one (sj_weak (Γ2 := [some (.bor [.prm]), some (.bor [.prm]), some (.bor [.prm]), some (.own)]) (sj_par (i := 2) (j := 3) rfl sc__law_low.nd rfl rfl (aj_cons (ej_var (i := 3) (k := .bor [.prm, .slt 3]) rfl (pv 3)) (aj_cons (ej_mod (ej_var (i := 2) (k := .bor [.prm, .slt 2]) rfl (pv 2)) (ej_var (i := 3) (k := .bor [.prm, .slt 3]) rfl (pv 3))) aj_nil))))))))
(bj_one (sj_ret (ej_tup (aj_cons (ej_div (ej_var (i := 0) (k := .bor [.prm]) rfl (pv 0)) (ej_var (i := 2) (k := .bor [.prm, .slt 2]) rfl (pv 2))) (aj_cons (ej_div (ej_var (i := 1) (k := .bor [.prm]) rfl (pv 1)) (ej_var (i := 2) (k := .bor [.prm, .slt 2]) rfl (pv 2))) aj_nil)))))))
theorem sc__law_number : FnScope ["_law_bag_here", "_law_kind"] ["_law_bag_here", "_law_kind"] (defScope (top 15)) := ⟨rfl, rfl, rfl, by decide +kernel, rfl, by decide +kernel, by decide +kernel⟩
theorem c__law_number (c : Faz fa fn cs K mg) : Fnc P w K mg base "_law_number" 2 2 [0] true d__law_number :=
  fnc_of c.toFax 7 7 (Γ' := ctxIo 2 [0]) rfl rfl sc__law_number rfl rfl (by decide) (by decide) (by decide) (fun _ _ _ _ _ _ us hl => match us, hl with | [_, _], _ => rfl) fun cdv A outer s H E hr =>
  (bj_cons (sj_if (Γ' := [some (.own), some (.bor [.prm])]) (tj_eq (hu64 hr) (ej_var (i := 1) (k := .bor [.prm]) rfl (pv 1)) ej_int)
(bj_one (sj_ret (ej_tup (aj_cons (ej_sub (ej_callC (rs := [0]) (c__law_take c) rfl (hr.mono (by decide)) takes_c (aj_slot (r := 0) rfl (pv 0) (aj_cons ej_int aj_nil)) ⟨by decide, by decide, rfl, by decide, by decide, by decide, by decide, by decide, by decide, by decide⟩) ej_int) (aj_cons ej_int aj_nil)))))
(bj_weak bj_nil))
(bj_cons (sj_if (Γ' := [some (.own), some (.bor [.prm])]) (tj_eq (hu64 hr) (ej_var (i := 1) (k := .bor [.prm]) rfl (pv 1)) ej_int)
(bj_one (sj_ret (ej_callC (rs := []) (c__law_low c) rfl (hr.mono (by decide)) takes_c (aj_cons (ej_sub (ej_callC (rs := [0]) (c__law_take c) rfl (hr.mono (by decide)) takes_c (aj_slot (r := 0) rfl (pv 0) (aj_cons ej_int aj_nil)) ⟨by decide, by decide, rfl, by decide, by decide, by decide, by decide, by decide, by decide, by decide⟩) ej_int) (aj_cons (ej_add ej_int (ej_callC (rs := [0]) (c__law_take c) rfl (hr.mono (by decide)) takes_c (aj_slot (r := 0) rfl (pv 0) (aj_cons ej_int aj_nil)) ⟨by decide, by decide, rfl, by decide, by decide, by decide, by decide, by decide, by decide, by decide⟩)) aj_nil)) ⟨by decide, by decide, rfl, by decide, by decide, by decide, by decide, by decide, by decide, by decide⟩)))
(bj_weak bj_nil))
(bj_cons (sj_if (Γ' := [some (.own), some (.bor [.prm])]) (tj_eq (hu64 hr) (ej_var (i := 1) (k := .bor [.prm]) rfl (pv 1)) ej_int)
(bj_one (sj_ret (ej_callC (rs := []) (c__law_low c) rfl (hr.mono (by decide)) takes_c (aj_cons (ej_sub (ej_callC (rs := [0]) (c__law_take c) rfl (hr.mono (by decide)) takes_c (aj_slot (r := 0) rfl (pv 0) (aj_cons ej_int aj_nil)) ⟨by decide, by decide, rfl, by decide, by decide, by decide, by decide, by decide, by decide, by decide⟩) ej_int) (aj_cons (ej_add ej_int (ej_callC (rs := [0]) (c__law_take c) rfl (hr.mono (by decide)) takes_c (aj_slot (r := 0) rfl (pv 0) (aj_cons ej_int aj_nil)) ⟨by decide, by decide, rfl, by decide, by decide, by decide, by decide, by decide, by decide, by decide⟩)) aj_nil)) ⟨by decide, by decide, rfl, by decide, by decide, by decide, by decide, by decide, by decide, by decide⟩)))
(bj_weak bj_nil))
(bj_one (sj_ret (ej_tup (aj_cons (ej_sub (ej_callC (rs := [0]) (c__law_take c) rfl (hr.mono (by decide)) takes_c (aj_slot (r := 0) rfl (pv 0) (aj_cons ej_int aj_nil)) ⟨by decide, by decide, rfl, by decide, by decide, by decide, by decide, by decide, by decide, by decide⟩) ej_int) (aj_cons ej_int aj_nil))))))))
theorem sc__law_form : FnScope ["_law_bag_here", "_law_n", "_law_rows", "_law_degree", "_law_kind", "_law_found", "_law_turn", "_law_powers", "_law_step", "_law_place", "_law_number_here", "_law_own", "_law_far"] ["_law_bag_here", "_law_n", "_law_rows", "_law_degree", "_law_kind"] (defScope (top 16)) := ⟨rfl, rfl, rfl, by decide +kernel, rfl, by decide +kernel, by decide +kernel⟩
theorem c__law_form (c : Faz fa fn cs K mg) : Fnc P w K mg base "_law_form" 3 5 [0] true d__law_form :=
  fnc_of c.toFax 8 8 (Γ' := ctxIo 13 [0]) rfl rfl sc__law_form rfl rfl (by decide) (by decide) (by decide) (fun _ _ _ _ _ _ us hl => match us, hl with | [_, _, _, _, _], _ => rfl) fun cdv A outer s H E hr =>
  (bj_cons (sj_weak (Γ2 := [some (.own), some (.bor [.prm]), some (.bor [.prm]), some (.bor [.prm]), some (.bor [.prm]), some (.own), none, none, none, none, none, none, none]) (sj_set (i := 5) sc__law_form.nd rfl (ej_lst aj_nil)))
(bj_cons (sj_pre (Γ1 := [some (.own), some (.bor [.prm]), some (.bor [.prm]), some (.bor [.prm]), some (.bor [.prm]), some (.own), none, none, none, none, none, none, none]) (sj_for (T := .nm 6) (Γ' := [some (.own), some (.bor [.prm]), some (.bor [.prm]), some (.bor [.prm]), some (.bor [.prm]), some (.own), none, none, none, none, none, none, none]) passes_c rfl (ij_range1 (c.free 23 rfl) (aj_cons (ej_callC (rs := [0]) (c__law_take c) rfl (hr.mono (by decide)) takes_c (aj_slot (r := 0) rfl (pv 0) (aj_cons (ej_add (ej_var (i := 2) (k := .bor [.prm]) rfl (pv 2)) ej_int) aj_nil)) ⟨by decide, by decide, rfl, by decide, by decide, by decide, by decide, by decide, by decide, by decide⟩) aj_nil)) (pg_name sc__law_form.nd rfl (.inl rfl))
(bj_weak (bj_cons (sj_weak (Γ2 := [some (.own), some (.bor [.prm]), some (.bor [.prm]), some (.bor [.prm]), some (.bor [.prm]), some (.own), some (.bor []), some (.own), none, none, none, none, none]) (sj_set (i := 7) sc__law_form.nd rfl (ej_rep (ej_lst (aj_cons ej_int aj_nil)) (ej_var (i := 1) (k := .bor [.prm]) rfl (pv 1)))))
(bj_cons (sj_pre (Γ1 := [some (.own), some (.bor [.prm]), some (.bor [.prm]), some (.bor [.prm]), some (.bor [.prm]), some (.own), some (.bor []), some (.own), none, none, none, none, none]) (sj_for (T := .nm 8) (Γ' := [some (.own), some (.bor [.prm]), some (.bor [.prm]), some (.bor [.prm]), some (.bor [.prm]), some (.own), some (.bor []), some (.own), none, none, none, none, none]) passes_c rfl (ij_range1 (c.free 23 rfl) (aj_cons (ej_callC (rs := [0]) (c__law_take c) rfl (hr.mono (by decide)) takes_c (aj_slot (r := 0) rfl (pv 0) (aj_cons (ej_add (ej_var (i := 3) (k := .bor [.prm]) rfl (pv 3)) ej_int) aj_nil)) ⟨by decide, by decide, rfl, by decide, by decide, by decide, by decide, by decide, by decide, by decide⟩) aj_nil)) (pg_name sc__law_form.nd rfl (.inl rfl))
(bj_weak (bj_cons (sj_weak (Γ2 := [some (.own), some (.bor [.prm]), some (.bor [.prm]), some (.bor [.prm]), some (.bor [.prm]), some (.own), some (.bor []), some (.own), some (.bor []), some (.own), none, none, none]) (sj_set (i := 9) sc__law_form.nd rfl (ej_callC (rs := [0]) (c__law_take c) rfl (hr.mono (by decide)) takes_c (aj_slot (r := 0) rfl (pv 0) (aj_cons (ej_var (i := 1) (k := .bor [.prm]) rfl (pv 1)) aj_nil)) ⟨by decide, by decide, rfl, by decide, by decide, by decide, by decide, by decide, by decide, by decide⟩)))
(bj_one (sj_setix (r := 7) (pv 7) (ej_add (ej_ix (ej_var (i := 7) (k := .own) rfl (pv 7)) (ej_var (i := 9) (k := .own) rfl (pv 9))) ej_int) (ej_var (i := 9) (k := .own) rfl (pv 9))))))))
(bj_cons (sj_weak (Γ2 := [some (.own), some (.bor [.prm]), some (.bor [.prm]), some (.bor [.prm]), some (.bor [.prm]), some (.own), some (.bor []), some (.own), none, none, some (.own), none, none]) (sj_set (i := 10) sc__law_form.nd rfl (ej_callC (rs := [0]) (c__law_number c) rfl (hr.mono (by decide)) takes_c (aj_slot (r := 0) rfl (pv 0) (aj_cons (ej_var (i := 4) (k := .bor [.prm]) rfl (pv 4)) aj_nil)) ⟨by decide, by decide, rfl, by decide, by decide, by decide, by decide, by decide, by decide, by decide⟩)))
(bj_one (sj_if (Γ' := [some (.own), some (.bor [.prm]), some (.bor [.prm]), some (.bor [.prm]), some (.bor [.prm]), some (.own), some (.bor []), some (.own), none, none, some (.own), none, none]) (tj_of_w (wj_and (tj_ne (hu64 hr) (ej_var (i := 10) (k := .own) rfl (pv 10)) (ej_tup (aj_cons ej_int (aj_cons ej_int aj_nil)))) (wj_and1 (tj_notin (hu65 hr) (ej_tupOf (c.free 24 rfl) (aj_cons (ej_var (i := 7) (k := .own) rfl (pv 7)) aj_nil)) (ej_lc (own := [("_law_own", 11), ("_law_far", 12)]) (T := .tp [11, 12]) (vr := []) (Γ' := [some (.own), some (.bor [.prm]), some (.bor [.prm]), some (.bor [.prm]), some (.bor [.prm]), some (.own), some (.bor []), some (.own), none, none, some (.own), some (.bor [.slt 5]), some (.bor [.slt 5])]) rfl sc__law_form.nd (ij_list (ej_var (i := 5) (k := .own) rfl (pv 5))) (blkOk_by (N := ["_law_bag_here", "_law_n", "_law_rows", "_law_degree", "_law_kind", "_law_found", "_law_turn", "_law_powers", "_law_step", "_law_place", "_law_number_here", "_law_own", "_law_far"]) (sc := defScope (top 16)) (by decide +kernel)) (fun _ _ _ _ _ => (pg_tup rfl (pgs_cons (pg_name sc__law_form.nd rfl (.inl rfl)) (pgs_cons (pg_name sc__law_form.nd rfl (.inl rfl)) pgs_nil)))) (fun _ _ _ _ _ => ptj_nil) (fun _ _ _ _ _ => (ej_flat (ej_var (i := 11) (k := .bor [.slt 5]) rfl (pv 11)))) ⟨by decide, by decide, by decide, by decide, by decide, by decide, by decide, by decide⟩)))))
(bj_weak (bj_one (sj_expr (ej_append (r := 5) (pv 5) (aj_cons (ej_tup (aj_cons (ej_flat (ej_tupOf (c.free 24 rfl) (aj_cons (ej_var (i := 7) (k := .own) rfl (pv 7)) aj_nil))) (aj_cons (ej_flat (ej_var (i := 10) (k := .own) rfl (pv 10))) aj_nil))) aj_nil)))))
(bj_weak bj_nil)))))))))
(bj_one (sj_ret (ej_sortedR rfl (c.free 25 rfl) (hu64 hr) (aj_cons (ej_var (i := 5) (k := .own) rfl (pv 5)) aj_nil))))))
theorem sc__law_whole : FnScope ["_law_thing"] ["_law_thing"] (defScope (top 17)) := ⟨rfl, rfl, rfl, by decide +kernel, rfl, by decide +kernel, by decide +kernel⟩
theorem c__law_whole (c : Faz fa fn cs K mg) : Fnc P w K mg base "_law_whole" 1 1 [] true d__law_whole :=
  fnc_of c.toFax 9 9 (Γ' := ctxIo 1 []) rfl rfl sc__law_whole rfl rfl (by decide) (by decide) (by decide) (fun _ _ _ _ _ _ us hl => match us, hl with | [_], _ => rfl) fun cdv A outer s H E hr =>
  (bj_one (sj_ret (ej_and (ej_is (T := .int) (by decide) (c.free 26 rfl) (c.free 21 rfl) (by decide +kernel) (ej_var (i := 0) (k := .bor [.prm]) rfl (pv 0))) (ej_one (ej_notB (ej_is (T := .bool) (by decide) (c.free 26 rfl) (c.free 27 rfl) (by decide +kernel) (ej_var (i := 0) (k := .bor [.prm]) rfl (pv 0))))))))
theorem sc__law_is_number : FnScope ["_law_thing"] ["_law_thing"] (defScope (top 18)) := ⟨rfl, rfl, rfl, by decide +kernel, rfl, by decide +kernel, by decide +kernel⟩
theorem c__law_is_number (c : Faz fa fn cs K mg) : Fnc P w K mg base "_law_is_number" 2 1 [] true d__law_is_number :=
  fnc_of c.toFax 10 10 (Γ' := ctxIo 1 []) rfl rfl sc__law_is_number rfl rfl (by decide) (by decide) (by decide) (fun _ _ _ _ _ _ us hl => match us, hl with | [_], _ => rfl) fun cdv A outer s H E hr =>
  (bj_cons (sj_if (Γ' := [some (.bor [.prm])]) (tj_of_w (wj_or (tj_not (tj_truth (ej_is (T := .tuple) (by decide) (c.free 26 rfl) (c.free 24 rfl) (by decide +kernel) (ej_var (i := 0) (k := .bor [.prm]) rfl (pv 0))))) (wj_or (tj_ne (hu64 hr) (ej_len (c.free 19 rfl) (aj_cons (ej_var (i := 0) (k := .bor [.prm]) rfl (pv 0)) aj_nil)) ej_int) (wj_or (tj_not (tj_truth (ej_callC (rs := []) (c__law_whole c) rfl (hr.mono (by decide)) takes_c (aj_cons (ej_ix (ej_var (i := 0) (k := .bor [.prm]) rfl (pv 0)) ej_int) aj_nil) ⟨by decide, by decide, rfl, by decide, by decide, by decide, by decide, by decide, by decide, by decide⟩))) (wj_or1 (tj_not (tj_truth (ej_callC (rs := []) (c__law_whole c) rfl (hr.mono (by decide)) takes_c (aj_cons (ej_ix (ej_var (i := 0) (k := .bor [.prm]) rfl (pv 0)) ej_int) aj_nil) ⟨by decide, by decide, rfl, by decide, by decide, by decide, by decide, by decide, by decide, by decide⟩))))))))
(bj_one (sj_ret ej_bl))
(bj_weak bj_nil))
(bj_one (sj_ret (ej_and (ej_gt (ej_ix (ej_var (i := 0) (k := .bor [.prm]) rfl (pv 0)) ej_int) ej_int) (ej_one (ej_eq (hu64 hr) (ej_callC (rs := []) (c__law_low c) rfl (hr.mono (by decide)) takes_c (aj_cons (ej_ix (ej_var (i := 0) (k := .bor [.prm]) rfl (pv 0)) ej_int) (aj_cons (ej_ix (ej_var (i := 0) (k := .bor [.prm]) rfl (pv 0)) ej_int) aj_nil)) ⟨by decide, by decide, rfl, by decide, by decide, by decide, by decide, by decide, by decide, by decide⟩) (ej_var (i := 0) (k := .bor [.prm]) rfl (pv 0))))))))
theorem sc__law_is_form : FnScope ["_law_thing", "_law_n", "_law_row", "_law_one", "_law_other", "_law_power"] ["_law_thing", "_law_n"] (defScope (top 19)) := ⟨rfl, rfl, rfl, by decide +kernel, rfl, by decide +kernel, by decide +kernel⟩
theorem c__law_is_form (c : Faz fa fn cs K mg) : Fnc P w K mg base "_law_is_form" 3 2 [] true d__law_is_form :=
  fnc_of c.toFax 11 11 (Γ' := ctxIo 6 []) rfl rfl sc__law_is_form rfl rfl (by decide) (by decide) (by decide) (fun _ _ _ _ _ _ us hl => match us, hl with | [_, _], _ => rfl) fun cdv A outer s H E hr =>
  (bj_cons (sj_if (Γ' := [some (.bor [.prm]), some (.bor [.prm]), none, none, none, none]) (tj_of_w (wj_or (tj_not (tj_truth (ej_is (T := .list) (by decide) (c.free 26 rfl) (c.free 22 rfl) (by decide +kernel) (ej_var (i := 0) (k := .bor [.prm]) rfl (pv 0))))) (wj_or1 (tj_gt (ej_len (c.free 19 rfl) (aj_cons (ej_var (i := 0) (k := .bor [.prm]) rfl (pv 0)) aj_nil)) ej_int))))
(bj_one (sj_ret ej_bl))
(bj_weak bj_nil))
(bj_cons (sj_pre (Γ1 := [some (.bor [.prm]), some (.bor [.prm]), none, none, none, none]) (sj_for (T := .nm 2) (Γ' := [some (.bor [.prm]), some (.bor [.prm]), none, none, none, none]) passes_c rfl (ij_list (ej_var (i := 0) (k := .bor [.prm]) rfl (pv 0))) (pg_name sc__law_is_form.nd rfl (.inl rfl))
(bj_weak (bj_cons (sj_if (Γ' := [some (.bor [.prm]), some (.bor [.prm]), some (.bor [.prm]), none, none, none]) (tj_of_w (wj_or (tj_not (tj_truth (ej_is (T := .tuple) (by decide) (c.free 26 rfl) (c.free 24 rfl) (by decide +kernel) (ej_var (i := 2) (k := .bor [.prm]) rfl (pv 2))))) (wj_or (tj_ne (hu64 hr) (ej_len (c.free 19 rfl) (aj_cons (ej_var (i := 2) (k := .bor [.prm]) rfl (pv 2)) aj_nil)) ej_int) (wj_or (tj_not (tj_truth (ej_is (T := .tuple) (by decide) (c.free 26 rfl) (c.free 24 rfl) (by decide +kernel) (ej_ix (ej_var (i := 2) (k := .bor [.prm]) rfl (pv 2)) ej_int)))) (wj_or1 (tj_ne (hu64 hr) (ej_len (c.free 19 rfl) (aj_cons (ej_ix (ej_var (i := 2) (k := .bor [.prm]) rfl (pv 2)) ej_int) aj_nil)) (ej_var (i := 1) (k := .bor [.prm]) rfl (pv 1))))))))
(bj_one (sj_ret ej_bl))
(bj_weak bj_nil))
(bj_cons (sj_if (Γ' := [some (.bor [.prm]), some (.bor [.prm]), some (.bor [.prm]), none, none, none]) (tj_not (tj_truth (ej_all rfl (c.free 28 rfl) (aj_cons (ej_lc (own := [("_law_power", 5)]) (T := .nm 5) (vr := []) (Γ' := [some (.bor [.prm]), some (.bor [.prm]), some (.bor [.prm]), none, none, some (.bor [.prm])]) rfl sc__law_is_form.nd (ij_tup (ej_ix (ej_var (i := 2) (k := .bor [.prm]) rfl (pv 2)) ej_int)) (blkOk_by (N := ["_law_thing", "_law_n", "_law_row", "_law_one", "_law_other", "_law_power"]) (sc := defScope (top 19)) (by decide +kernel)) (fun _ _ _ _ _ => (pg_name sc__law_is_form.nd rfl (.inl rfl))) (fun _ _ _ _ _ => ptj_nil) (fun _ _ _ _ _ => (ej_and (ej_callC (rs := []) (c__law_whole c) rfl (hr.mono (by decide)) takesN (aj_cons (ej_var (i := 5) (k := .bor [.prm]) rfl (pv 5)) aj_nil) ⟨by decide, by decide, rfl, by decide, by decide, by decide, by decide, by decide, by decide, by decide⟩) (ej_one (ej_chain so_le so_le op_le op_le ej_int (ej_var (i := 5) (k := .bor [.prm]) rfl (pv 5)) ej_int)))) ⟨by decide, by decide, by decide, by decide, by decide, by decide, by decide, by decide⟩) aj_nil))))
(bj_one (sj_ret ej_bl))
(bj_weak bj_nil))
(bj_one (sj_if (Γ' := [some (.bor [.prm]), some (.bor [.prm]), some (.bor [.prm]), none, none, none]) (tj_of_w (wj_or (tj_not (tj_truth (ej_callC (rs := []) (c__law_is_number c) rfl (hr.mono (by decide)) takes_c (aj_cons (ej_ix (ej_var (i := 2) (k := .bor [.prm]) rfl (pv 2)) ej_int) aj_nil) ⟨by decide, by decide, rfl, by decide, by decide, by decide, by decide, by decide, by decide, by decide⟩))) (wj_or1 (tj_eq (hu64 hr) (ej_ix (ej_var (i := 2) (k := .bor [.prm]) rfl (pv 2)) ej_int) (ej_tup (aj_cons ej_int (aj_cons ej_int aj_nil)))))))
(bj_one (sj_ret ej_bl))
(bj_weak bj_nil))))))))
(bj_one (sj_ret (ej_all rfl (c.free 28 rfl) (aj_cons (ej_lc (own := [("_law_one", 3), ("_law_other", 4)]) (T := .tp [3, 4]) (vr := []) (Γ' := [some (.bor [.prm]), some (.bor [.prm]), none, some (.bor [.tmp 0, .prm, .prm]), some (.bor [.tmp 0, .prm, .prm]), none]) rfl sc__law_is_form.nd (ij_zip (c.free 29 rfl) (aj_cons (ej_var (i := 0) (k := .bor [.prm]) rfl (pv 0)) (aj_cons (ej_slL (ej_var (i := 0) (k := .bor [.prm]) rfl (pv 0)) (oj_some ej_int) oj_none) aj_nil))) (blkOk_by (N := ["_law_thing", "_law_n", "_law_row", "_law_one", "_law_other", "_law_power"]) (sc := defScope (top 19)) (by decide +kernel)) (fun _ _ _ _ _ => (pg_tup rfl (pgs_cons (pg_name sc__law_is_form.nd rfl (.inl rfl)) (pgs_cons (pg_name sc__law_is_form.nd rfl (.inl rfl)) pgs_nil)))) (fun _ _ _ _ _ => ptj_nil) (fun _ _ _ _ _ => (ej_cmpG (op_ltT (Nat.lt_of_succ_lt (hu1 hr))) dLtT_ok (ej_ix (ej_var (i := 3) (k := .bor [.tmp 0, .prm, .prm]) rfl (pv 3)) ej_int) (ej_ix (ej_var (i := 4) (k := .bor [.tmp 0, .prm, .prm]) rfl (pv 4)) ej_int))) ⟨by decide, by decide, by decide, by decide, by decide, by decide, by decide, by decide⟩) aj_nil))))))
theorem sc_is_whole : FnScope ["thing"] ["thing"] (defScope (top 2)) := ⟨rfl, rfl, rfl, by decide +kernel, rfl, by decide +kernel, by decide +kernel⟩
theorem c_is_whole (c : Faz fa fn cs K mg) : Fnc P w K mg base "is_whole" 1 1 [] true d_is_whole :=
  fnc_of c.toFax 12 12 (Γ' := ctxIo 1 []) rfl rfl sc_is_whole rfl rfl (by decide) (by decide) (by decide) (fun _ _ _ _ _ _ us hl => match us, hl with | [_], _ => rfl) fun cdv A outer s H E hr =>
  (bj_one (sj_ret (ej_and (ej_is (T := .int) (by decide) (c.free 26 rfl) (c.free 21 rfl) (by decide +kernel) (ej_var (i := 0) (k := .bor [.prm]) rfl (pv 0))) (ej_one (ej_notB (ej_is (T := .bool) (by decide) (c.free 26 rfl) (c.free 27 rfl) (by decide +kernel) (ej_var (i := 0) (k := .bor [.prm]) rfl (pv 0))))))))
theorem sc_shared : FnScope ["one", "other"] ["one", "other"] (defScope (top 3)) := ⟨rfl, rfl, rfl, by decide +kernel, rfl, by decide +kernel, by decide +kernel⟩
theorem c_shared (c : Faz fa fn cs K mg) : Fnc P w K mg base "shared" 1 2 [] false d_shared :=
  fnc_of c.toFax 13 13 (Γ' := ctxIo 2 []) rfl rfl sc_shared rfl rfl (by decide) (by decide) (by decide) (fun _ _ _ _ _ _ us hl => match us, hl with | [_, _], _ => rfl) fun cdv A outer s H E hr =>
  (bj_cons (sj_weak (Γ2 := [some (.own), some (.own)]) (sj_par (i := 0) (j := 1) rfl sc_shared.nd rfl rfl (aj_cons (ej_abs (c.free 20 rfl) (aj_cons (ej_var (i := 0) (k := .bor [.prm]) rfl (pv 0)) aj_nil)) (aj_cons (ej_abs (c.free 20 rfl) (aj_cons (ej_var (i := 1) (k := .bor [.prm]) rfl (pv 1)) aj_nil)) aj_nil))))
(bj_cons (sj_pre (Γ1 := [some (.bor [.slt 0]), some (.own)]) (sj_while passes_c (tj_gt (ej_var (i := 1) (k := .own) rfl (pv 1)) ej_int)
(bj_weak (bj_one (sj_weak (Γ2 := [some (.bor []), some (.own)]) (sj_par (i := 0) (j := 1) rfl sc_shared.nd rfl rfl (aj_cons (ej_var (i := 1) (k := .own) rfl (pv 1)) (aj_cons (ej_mod (ej_var (i := 0) (k := .bor [.slt 0]) rfl (pv 0)) (ej_var (i := 1) (k := .own) rfl (pv 1))) aj_nil))))))))
(bj_one (sj_retB (ej_var (i := 0) (k := .bor [.slt 0]) rfl (pv 0))))))
theorem sc_is_number : FnScope ["thing"] ["thing"] (defScope (top 4)) := ⟨rfl, rfl, rfl, by decide +kernel, rfl, by decide +kernel, by decide +kernel⟩
theorem c_is_number (c : Faz fa fn cs K mg) : Fnc P w K mg base "is_number" 2 1 [] true d_is_number :=
  fnc_of c.toFax 14 14 (Γ' := ctxIo 1 []) rfl rfl sc_is_number rfl rfl (by decide) (by decide) (by decide) (fun _ _ _ _ _ _ us hl => match us, hl with | [_], _ => rfl) fun cdv A outer s H E hr =>
  (bj_cons (sj_if (Γ' := [some (.bor [.prm])]) (tj_of_w (wj_or (tj_not (tj_truth (ej_is (T := .tuple) (by decide) (c.free 26 rfl) (c.free 24 rfl) (by decide +kernel) (ej_var (i := 0) (k := .bor [.prm]) rfl (pv 0))))) (wj_or (tj_ne (hu64 hr) (ej_len (c.free 19 rfl) (aj_cons (ej_var (i := 0) (k := .bor [.prm]) rfl (pv 0)) aj_nil)) ej_int) (wj_or (tj_not (tj_truth (ej_callC (rs := []) (c_is_whole c) rfl (hr.mono (by decide)) takes_c (aj_cons (ej_ix (ej_var (i := 0) (k := .bor [.prm]) rfl (pv 0)) ej_int) aj_nil) ⟨by decide, by decide, rfl, by decide, by decide, by decide, by decide, by decide, by decide, by decide⟩))) (wj_or1 (tj_not (tj_truth (ej_callC (rs := []) (c_is_whole c) rfl (hr.mono (by decide)) takes_c (aj_cons (ej_ix (ej_var (i := 0) (k := .bor [.prm]) rfl (pv 0)) ej_int) aj_nil) ⟨by decide, by decide, rfl, by decide, by decide, by decide, by decide, by decide, by decide, by decide⟩))))))))
(bj_one (sj_ret ej_bl))
(bj_weak bj_nil))
(bj_one (sj_ret (ej_and (ej_ge (ej_ix (ej_var (i := 0) (k := .bor [.prm]) rfl (pv 0)) ej_int) ej_int) (ej_one (ej_eq (hu64 hr) (ej_callC (rs := []) (c_shared c) rfl (hr.mono (by decide)) takes_c (aj_cons (ej_ix (ej_var (i := 0) (k := .bor [.prm]) rfl (pv 0)) ej_int) (aj_cons (ej_ix (ej_var (i := 0) (k := .bor [.prm]) rfl (pv 0)) ej_int) aj_nil)) ⟨by decide, by decide, rfl, by decide, by decide, by decide, by decide, by decide, by decide, by decide⟩) ej_int))))))
theorem sc_is_powers : FnScope ["thing", "n", "power"] ["thing", "n"] (defScope (top 8)) := ⟨rfl, rfl, rfl, by decide +kernel, rfl, by decide +kernel, by decide +kernel⟩
theorem c_is_powers (c : Faz fa fn cs K mg) : Fnc P w K mg base "is_powers" 2 2 [] true d_is_powers :=
  fnc_of c.toFax 15 15 (Γ' := ctxIo 3 []) rfl rfl sc_is_powers rfl rfl (by decide) (by decide) (by decide) (fun _ _ _ _ _ _ us hl => match us, hl with | [_, _], _ => rfl) fun cdv A outer s H E hr =>
  (bj_cons (sj_if (Γ' := [some (.bor [.prm]), some (.bor [.prm]), none]) (tj_of_w (wj_or (tj_not (tj_truth (ej_is (T := .tuple) (by decide) (c.free 26 rfl) (c.free 24 rfl) (by decide +kernel) (ej_var (i := 0) (k := .bor [.prm]) rfl (pv 0))))) (wj_or1 (tj_ne (hu64 hr) (ej_len (c.free 19 rfl) (aj_cons (ej_var (i := 0) (k := .bor [.prm]) rfl (pv 0)) aj_nil)) (ej_var (i := 1) (k := .bor [.prm]) rfl (pv 1))))))
(bj_one (sj_ret ej_bl))
(bj_weak bj_nil))
(bj_one (sj_ret (ej_all rfl (c.free 28 rfl) (aj_cons (ej_lc (own := [("power", 2)]) (T := .nm 2) (vr := []) (Γ' := [some (.bor [.prm]), some (.bor [.prm]), some (.bor [.prm])]) rfl sc_is_powers.nd (ij_tup (ej_var (i := 0) (k := .bor [.prm]) rfl (pv 0))) (blkOk_by (N := ["thing", "n", "power"]) (sc := defScope (top 8)) (by decide +kernel)) (fun _ _ _ _ _ => (pg_name sc_is_powers.nd rfl (.inl rfl))) (fun _ _ _ _ _ => ptj_nil) (fun _ _ _ _ _ => (ej_and (ej_callC (rs := []) (c_is_whole c) rfl (hr.mono (by decide)) takesN (aj_cons (ej_var (i := 2) (k := .bor [.prm]) rfl (pv 2)) aj_nil) ⟨by decide, by decide, rfl, by decide, by decide, by decide, by decide, by decide, by decide, by decide⟩) (ej_one (ej_chain so_le so_le op_le op_le ej_int (ej_var (i := 2) (k := .bor [.prm]) rfl (pv 2)) (ej_cst (c.cst 0 rfl)))))) ⟨by decide, by decide, by decide, by decide, by decide, by decide, by decide, by decide⟩) aj_nil)))))
theorem sc_is_row : FnScope ["thing", "n"] ["thing", "n"] (defScope (top 9)) := ⟨rfl, rfl, rfl, by decide +kernel, rfl, by decide +kernel, by decide +kernel⟩
theorem c_is_row (c : Faz fa fn cs K mg) : Fnc P w K mg base "is_row" 3 2 [] true d_is_row :=
  fnc_of c.toFax 16 16 (Γ' := ctxIo 2 []) rfl rfl sc_is_row rfl rfl (by decide) (by decide) (by decide) (fun _ _ _ _ _ _ us hl => match us, hl with | [_, _], _ => rfl) fun cdv A outer s H E hr =>
  (bj_cons (sj_if (Γ' := [some (.bor [.prm]), some (.bor [.prm])]) (tj_of_w (wj_or (tj_not (tj_truth (ej_is (T := .tuple) (by decide) (c.free 26 rfl) (c.free 24 rfl) (by decide +kernel) (ej_var (i := 0) (k := .bor [.prm]) rfl (pv 0))))) (wj_or (tj_ne (hu64 hr) (ej_len (c.free 19 rfl) (aj_cons (ej_var (i := 0) (k := .bor [.prm]) rfl (pv 0)) aj_nil)) ej_int) (wj_or1 (tj_not (tj_truth (ej_callC (rs := []) (c_is_powers c) rfl (hr.mono (by decide)) takes_c (aj_cons (ej_ix (ej_var (i := 0) (k := .bor [.prm]) rfl (pv 0)) ej_int) (aj_cons (ej_var (i := 1) (k := .bor [.prm]) rfl (pv 1)) aj_nil)) ⟨by decide, by decide, rfl, by decide, by decide, by decide, by decide, by decide, by decide, by decide⟩)))))))
(bj_one (sj_ret ej_bl))
(bj_weak bj_nil))
(bj_one (sj_ret (ej_and (ej_callC (rs := []) (c_is_number c) rfl (hr.mono (by decide)) takes_c (aj_cons (ej_ix (ej_var (i := 0) (k := .bor [.prm]) rfl (pv 0)) ej_int) aj_nil) ⟨by decide, by decide, rfl, by decide, by decide, by decide, by decide, by decide, by decide, by decide⟩) (ej_one (ej_ne (hu64 hr) (ej_ix (ej_var (i := 0) (k := .bor [.prm]) rfl (pv 0)) ej_int) (ej_cst (c.cst 1 rfl))))))))
theorem sc_is_form : FnScope ["thing", "n", "one", "other", "row"] ["thing", "n"] (defScope (top 10)) := ⟨rfl, rfl, rfl, by decide +kernel, rfl, by decide +kernel, by decide +kernel⟩
theorem c_is_form (c : Faz fa fn cs K mg) : Fnc P w K mg base "is_form" 4 2 [] true d_is_form :=
  fnc_of c.toFax 17 17 (Γ' := ctxIo 5 []) rfl rfl sc_is_form rfl rfl (by decide) (by decide) (by decide) (fun _ _ _ _ _ _ us hl => match us, hl with | [_, _], _ => rfl) fun cdv A outer s H E hr =>
  (bj_cons (sj_if (Γ' := [some (.bor [.prm]), some (.bor [.prm]), none, none, none]) (tj_of_w (wj_or (tj_not (tj_truth (ej_is (T := .list) (by decide) (c.free 26 rfl) (c.free 22 rfl) (by decide +kernel) (ej_var (i := 0) (k := .bor [.prm]) rfl (pv 0))))) (wj_or (tj_gt (ej_len (c.free 19 rfl) (aj_cons (ej_var (i := 0) (k := .bor [.prm]) rfl (pv 0)) aj_nil)) (ej_cst (c.cst 2 rfl))) (wj_or1 (tj_not (tj_truth (ej_all rfl (c.free 28 rfl) (aj_cons (ej_lc (own := [("row", 4)]) (T := .nm 4) (vr := []) (Γ' := [some (.bor [.prm]), some (.bor [.prm]), none, none, some (.bor [.prm])]) rfl sc_is_form.nd (ij_list (ej_var (i := 0) (k := .bor [.prm]) rfl (pv 0))) (blkOk_by (N := ["thing", "n", "one", "other", "row"]) (sc := defScope (top 10)) (by decide +kernel)) (fun _ _ _ _ _ => (pg_name sc_is_form.nd rfl (.inl rfl))) (fun _ _ _ _ _ => ptj_nil) (fun _ _ _ _ _ => (ej_callC (rs := []) (c_is_row c) rfl (hr.mono (by decide)) takesN (aj_cons (ej_var (i := 4) (k := .bor [.prm]) rfl (pv 4)) (aj_cons (ej_var (i := 1) (k := .bor [.prm]) rfl (pv 1)) aj_nil)) ⟨by decide, by decide, rfl, by decide, by decide, by decide, by decide, by decide, by decide, by decide⟩)) ⟨by decide, by decide, by decide, by decide, by decide, by decide, by decide, by decide⟩) aj_nil))))))))
(bj_one (sj_ret ej_bl))
(bj_weak bj_nil))
(bj_one (sj_ret (ej_all rfl (c.free 28 rfl) (aj_cons (ej_lc (own := [("one", 2), ("other", 3)]) (T := .tp [2, 3]) (vr := []) (Γ' := [some (.bor [.prm]), some (.bor [.prm]), some (.bor [.tmp 0, .prm, .prm]), some (.bor [.tmp 0, .prm, .prm]), none]) rfl sc_is_form.nd (ij_zip (c.free 29 rfl) (aj_cons (ej_var (i := 0) (k := .bor [.prm]) rfl (pv 0)) (aj_cons (ej_slL (ej_var (i := 0) (k := .bor [.prm]) rfl (pv 0)) (oj_some ej_int) oj_none) aj_nil))) (blkOk_by (N := ["thing", "n", "one", "other", "row"]) (sc := defScope (top 10)) (by decide +kernel)) (fun _ _ _ _ _ => (pg_tup rfl (pgs_cons (pg_name sc_is_form.nd rfl (.inl rfl)) (pgs_cons (pg_name sc_is_form.nd rfl (.inl rfl)) pgs_nil)))) (fun _ _ _ _ _ => ptj_nil) (fun _ _ _ _ _ => (ej_cmpG (op_ltT (Nat.lt_of_succ_lt (hu1 hr))) dLtT_ok (ej_ix (ej_var (i := 2) (k := .bor [.tmp 0, .prm, .prm]) rfl (pv 2)) ej_int) (ej_ix (ej_var (i := 3) (k := .bor [.tmp 0, .prm, .prm]) rfl (pv 3)) ej_int))) ⟨by decide, by decide, by decide, by decide, by decide, by decide, by decide, by decide⟩) aj_nil)))))
theorem sc_law : FnScope ["_law_script", "_law_at", "_law_bag_here", "_law_turn", "_law_n", "_law_form_here", "_law_thing", "_law_one", "_law_letters", "_law_before", "_law_told", "_law_great", "_law_wide", "_law_power"] ["_law_script"] (defScope (top 24)) := ⟨rfl, rfl, rfl, by decide +kernel, rfl, by decide +kernel, by decide +kernel⟩
theorem l_law (c : Faz fa fn cs K mg) {f : Addr} (hm : mg "law" = some (.ref f)) : ∃ fd : FuncData, (∀ (s : Shared) (u : Value), BindsTo s fd ⟨[u], []⟩ [("_law_script", u)]) ∧ ∀ base : Heap, FnG P w K mg base (L2N.CX P w) 5 f fd ["_law_script"] (spD K (clM mg) 1 [] [] true d_law) :=
  law_ofG c.toFax 18 18 (Γ' := ctxIo 14 []) hm rfl rfl sc_law rfl (by decide) (by decide) (fun _ _ _ _ _ _ us hl => match us, hl with | [_], _ => rfl) fun base cdv A outer s H E quiet hr =>
  (bj_cons (sj_pre (Γ1 := [some (.bor [.prm]), none, none, none, none, none, none, none, none, none, none, none, none, none]) (sj_for (T := .nm 1) (Γ' := [some (.bor [.prm]), none, none, none, none, none, none, none, none, none, none, none, none, none]) passes_c rfl (ij_range1 (c.free 23 rfl) (aj_cons (ej_max2 rfl (c.free 31 rfl) (aj_cons ej_int (aj_cons (ej_min2 rfl (c.free 30 rfl) (aj_cons ej_int (aj_cons (ej_len (c.free 19 rfl) (aj_cons (ej_var (i := 0) (k := .bor [.prm]) rfl (pv 0)) aj_nil)) aj_nil))) aj_nil))) aj_nil)) (pg_name sc_law.nd rfl (.inl rfl))
(bj_weak (bj_cons (sj_weak (Γ2 := [some (.bor [.prm]), some (.bor []), some (.own), none, none, none, none, none, none, none, none, none, none, none]) (sj_set (i := 2) sc_law.nd rfl (ej_callC (rs := []) (c__law_bag c) rfl (hr.mono (by decide)) takes_c (aj_cons (ej_var (i := 0) (k := .bor [.prm]) rfl (pv 0)) (aj_cons (ej_var (i := 1) (k := .bor []) rfl (pv 1)) aj_nil)) ⟨by decide, by decide, rfl, by decide, by decide, by decide, by decide, by decide, by decide, by decide⟩)))
(bj_one (sj_pre (Γ1 := [some (.bor [.prm]), some (.bor []), some (.own), none, none, none, none, none, none, none, none, none, none, none]) (sj_for (T := .nm 3) (Γ' := [some (.bor [.prm]), some (.bor []), some (.own), none, none, none, none, none, none, none, none, none, none, none]) passes_c rfl (ij_range1 (c.free 23 rfl) (aj_cons ej_int aj_nil)) (pg_name sc_law.nd rfl (.inl rfl))
(bj_weak (bj_cons (sj_weak (Γ2 := [some (.bor [.prm]), some (.bor []), some (.own), some (.bor []), some (.own), none, none, none, none, none, none, none, none, none]) (sj_set (i := 4) sc_law.nd rfl (ej_add ej_int (ej_callC (rs := [2]) (c__law_take c) rfl (hr.mono (by decide)) takes_c (aj_slot (r := 2) rfl (pv 2) (aj_cons ej_int aj_nil)) ⟨by decide, by decide, rfl, by decide, by decide, by decide, by decide, by decide, by decide, by decide⟩))))
(bj_cons (sj_weak (Γ2 := [some (.bor [.prm]), some (.bor []), some (.own), some (.bor []), some (.own), some (.own), none, none, none, none, none, none, none, none]) (sj_set (i := 5) sc_law.nd rfl (ej_callC (rs := [2]) (c__law_form c) rfl (hr.mono (by decide)) takes_c (aj_slot (r := 2) rfl (pv 2) (aj_cons (ej_var (i := 4) (k := .own) rfl (pv 4)) (aj_cons ej_int (aj_cons ej_int (aj_cons (ej_ix (ej_lst (aj_cons ej_int (aj_cons ej_int (aj_cons ej_int aj_nil)))) (ej_callC (rs := [2]) (c__law_take c) rfl (hr.mono (by decide)) takes_c (aj_slot (r := 2) rfl (pv 2) (aj_cons ej_int aj_nil)) ⟨by decide, by decide, rfl, by decide, by decide, by decide, by decide, by decide, by decide, by decide⟩)) aj_nil))))) ⟨by decide, by decide, rfl, by decide, by decide, by decide, by decide, by decide, by decide, by decide⟩)))
(bj_cons (sj_weak (Γ2 := [some (.bor [.prm]), some (.bor []), some (.own), some (.bor []), some (.own), some (.own), some (.bor [.slt 5]), none, none, none, none, none, none, none]) (sj_set (i := 6) sc_law.nd rfl (ej_callC (rs := [2]) (c__law_bent c) rfl (hr.mono (by decide)) takes_c (aj_slot (r := 2) rfl (pv 2) (aj_cons (ej_var (i := 5) (k := .own) rfl (pv 5)) (aj_cons (ej_flat (ej_var (i := 4) (k := .own) rfl (pv 4))) aj_nil))) ⟨by decide, by decide, rfl, by decide, by decide, by decide, by decide, by decide, by decide, by decide⟩)))
(bj_one (sj_pre (Γ1 := [some (.bor [.prm]), some (.bor []), some (.own), some (.bor []), some (.own), some (.own), some (.bor [.slt 5]), none, none, none, none, none, none, none]) (sj_for (T := .tp [7, 8]) (Γ' := [some (.bor [.prm]), some (.bor []), some (.own), some (.bor []), some (.own), some (.own), some (.bor [.slt 5]), none, none, none, none, none, none, none]) passes_c rfl (ij_tup (ej_tupM (aj_cons (ej_tupM (aj_cons (ej_var (i := 5) (k := .own) rfl (pv 5)) (aj_cons (ej_flat (ej_var (i := 4) (k := .own) rfl (pv 4))) aj_nil))) (aj_cons (ej_tupM (aj_cons (ej_var (i := 5) (k := .own) rfl (pv 5)) (aj_cons (ej_add (ej_var (i := 4) (k := .own) rfl (pv 4)) ej_int) aj_nil))) (aj_cons (ej_tupM (aj_cons (ej_var (i := 6) (k := .bor [.slt 5]) rfl (pv 6)) (aj_cons (ej_flat (ej_var (i := 4) (k := .own) rfl (pv 4))) aj_nil))) aj_nil))))) (pg_tup rfl (pgs_cons (pg_name sc_law.nd rfl (.inl rfl)) (pgs_cons (pg_name sc_law.nd rfl (.inl rfl)) pgs_nil)))
(bj_weak (bj_cons (sj_weak (Γ2 := [some (.bor [.prm]), some (.bor []), some (.own), some (.bor []), some (.own), some (.own), some (.bor [.slt 5]), some (.bor [.slt 5, .slt 5, .slt 5]), some (.bor [.slt 5, .slt 5, .slt 5]), some (.own), none, none, none, none]) (sj_set (i := 9) sc_law.nd rfl (ej_repr quiet (hu66 hr) (c.free 32 rfl) (aj_cons (ej_var (i := 7) (k := .bor [.slt 5, .slt 5, .slt 5]) rfl (pv 7)) aj_nil))))
(bj_cons (sj_weak (Γ2 := [some (.bor [.prm]), some (.bor []), some (.own), some (.bor []), some (.own), some (.own), some (.bor [.slt 5]), some (.bor [.slt 5, .slt 5, .slt 5]), some (.bor [.slt 5, .slt 5, .slt 5]), some (.own), some (.own), none, none, none]) (sj_set (i := 10) sc_law.nd rfl (ej_callC (rs := []) (c_is_form c) rfl (hr.mono (by decide)) takes_c (aj_cons (ej_var (i := 7) (k := .bor [.slt 5, .slt 5, .slt 5]) rfl (pv 7)) (aj_cons (ej_var (i := 8) (k := .bor [.slt 5, .slt 5, .slt 5]) rfl (pv 8)) aj_nil)) ⟨by decide, by decide, rfl, by decide, by decide, by decide, by decide, by decide, by decide, by decide⟩)))
(bj_one (sj_if (Γ' := [some (.bor [.prm]), some (.bor []), some (.own), some (.bor []), some (.own), some (.own), some (.bor [.slt 5]), some (.bor [.slt 5, .slt 5, .slt 5]), some (.bor [.slt 5, .slt 5, .slt 5]), some (.own), some (.own), none, none, none]) (tj_of_w (wj_or (tj_not (tj_truth (ej_is (T := .bool) (by decide) (c.free 26 rfl) (c.free 27 rfl) (by decide +kernel) (ej_var (i := 10) (k := .own) rfl (pv 10))))) (wj_or (tj_ne (hu64 hr) (ej_var (i := 10) (k := .own) rfl (pv 10)) (ej_callC (rs := []) (c__law_is_form c) rfl (hr.mono (by decide)) takes_c (aj_cons (ej_var (i := 7) (k := .bor [.slt 5, .slt 5, .slt 5]) rfl (pv 7)) (aj_cons (ej_var (i := 8) (k := .bor [.slt 5, .slt 5, .slt 5]) rfl (pv 8)) aj_nil)) ⟨by decide, by decide, rfl, by decide, by decide, by decide, by decide, by decide, by decide, by decide⟩)) (wj_or1 (tj_ne (hu64 hr) (ej_repr quiet (hu66 hr) (c.free 32 rfl) (aj_cons (ej_var (i := 7) (k := .bor [.slt 5, .slt 5, .slt 5]) rfl (pv 7)) aj_nil)) (ej_var (i := 9) (k := .own) rfl (pv 9)))))))
(bj_one (sj_ret ej_bl))
(bj_weak bj_nil))))))))))))))))))))
(bj_cons (sj_weak (Γ2 := [some (.bor [.prm]), none, none, none, none, none, none, none, none, none, none, some (.own), none, none]) (sj_setLc (own := [("_law_power", 13)]) (T := .nm 13) (vr := []) (Γ' := [some (.bor [.prm]), none, none, none, none, none, none, none, none, none, none, none, none, some (.bor [.tmp 0])]) rfl sc_law.nd rfl (ij_tup (ej_tup (aj_cons ej_int (aj_cons ej_int (aj_cons ej_int aj_nil))))) (blkOk_by (N := ["_law_script", "_law_at", "_law_bag_here", "_law_turn", "_law_n", "_law_form_here", "_law_thing", "_law_one", "_law_letters", "_law_before", "_law_told", "_law_great", "_law_wide", "_law_power"]) (sc := defScope (top 24)) (by decide +kernel)) (fun _ _ _ _ _ => (pg_name sc_law.nd rfl (.inl rfl))) (fun _ _ _ _ _ => ptj_nil) (fun _ _ _ _ _ => (ej_callC (rs := []) (c_is_form c) rfl (hr.mono (by decide)) takesN (aj_cons (ej_lst (aj_cons (ej_tup (aj_cons (ej_tup (aj_cons (ej_flat (ej_var (i := 13) (k := .bor [.tmp 0]) rfl (pv 13))) aj_nil)) (aj_cons (ej_tup (aj_cons ej_int (aj_cons ej_int aj_nil))) aj_nil))) aj_nil)) (aj_cons ej_int aj_nil)) ⟨by decide, by decide, rfl, by decide, by decide, by decide, by decide, by decide, by decide, by decide⟩)) ⟨by decide, by decide, by decide, by decide, by decide, by decide, by decide, by decide⟩))
(bj_cons (sj_weak (Γ2 := [some (.bor [.prm]), none, none, none, none, none, none, none, none, none, none, some (.own), some (.own), none]) (sj_set (i := 12) sc_law.nd rfl (ej_lst (aj_cons (ej_tup (aj_cons (ej_flat (ej_catT (ej_repT (ej_tup (aj_cons ej_int aj_nil)) ej_int) (ej_tup (aj_cons ej_int aj_nil)))) (aj_cons (ej_tup (aj_cons ej_int (aj_cons ej_int aj_nil))) aj_nil))) (aj_cons (ej_tup (aj_cons (ej_flat (ej_catT (ej_tup (aj_cons ej_int aj_nil)) (ej_repT (ej_tup (aj_cons ej_int aj_nil)) ej_int))) (aj_cons (ej_tup (aj_cons (ej_neg ej_int) (aj_cons ej_int aj_nil))) aj_nil))) aj_nil)))))
(bj_cons (sj_if (Γ' := [some (.bor [.prm]), none, none, none, none, none, none, none, none, none, none, some (.own), some (.own), none]) (tj_of_w (wj_or (tj_cmpG op_notBl dIsNotB_ok (ej_callC (rs := []) (c_is_form c) rfl (hr.mono (by decide)) takes_c (aj_cons (ej_var (i := 12) (k := .own) rfl (pv 12)) (aj_cons ej_int aj_nil)) ⟨by decide, by decide, rfl, by decide, by decide, by decide, by decide, by decide, by decide, by decide⟩) ej_bl) (wj_or1 (tj_cmpG op_notBl dIsNotB_ok (ej_callC (rs := []) (c_is_form c) rfl (hr.mono (by decide)) takes_c (aj_cons (ej_var (i := 12) (k := .own) rfl (pv 12)) (aj_cons ej_int aj_nil)) ⟨by decide, by decide, rfl, by decide, by decide, by decide, by decide, by decide, by decide, by decide⟩) ej_bl))))
(bj_one (sj_ret ej_bl))
(bj_weak bj_nil))
(bj_one (sj_ret (ej_and (ej_cmpG op_isBl dIsB_ok (ej_callC (rs := []) (c_is_form c) rfl (hr.mono (by decide)) takes_c (aj_cons (ej_lst aj_nil) (aj_cons ej_int aj_nil)) ⟨by decide, by decide, rfl, by decide, by decide, by decide, by decide, by decide, by decide, by decide⟩) ej_bl) (ej_one (ej_eq (hu64 hr) (ej_var (i := 11) (k := .own) rfl (pv 11)) (ej_lst (aj_cons ej_bl (aj_cons ej_bl (aj_cons ej_bl aj_nil)))))))))))))
end Law

namespace Law
open PySem PySem.Spec PySem.SeqAt PyProof.Rows L2 Ow
abbrev R : PySem.W.OpenRow := PySem.W.OpenLaw.row PySem.Challenge.rw_rolldiscs_k16_what_is_a_form
abbrev hk : PySem.W.Hook := He.hookX 6 fa fn [] [] (mB cs)
def ob (s : PySem.W.SharedT) : He.AlX := He.obsX 6 fa fn [] [] (mB cs) (HandSHeadRun.getT s)
theorem ob_eq (s : PySem.W.SharedT) : ob s = hk.obs s.abs := He.obsX_eq (HandSHeadRun.getT_eq s)
theorem run (w : World) : HandSHeadRun.RunEq R (PySem.W.view R.prog [24]) hk ob 15000 loose w := by
  intro os
  kernel_rfl
end Law
open PySem PySem.W PySem.Calls PyProof.Rows
theorem PySem.Challenge.cw_rolldiscs_k16_what_is_a_form_holds : PySem.Challenge.rw_rolldiscs_k16_what_is_a_form.Holds := by
  w_on; o_law
  refine HandSHeadRun.head_any (r := Law.R) (q := view Law.R.prog [24]) (H := Law.hk) (ob := Law.ob) (M := 15000) (loose := Law.loose) (d := HandSHeadRun.topDef Law.R.prog 24) (kwd := []) Law.ob_eq
    (by kernel_rfl) (fun s => by kernel_rfl) Law.run (by kernel_rfl) (by kernel_rfl) (by kernel_rfl) (by rfl) (by first | assumption | decide +kernel) (by decide +kernel) ⟨rfl, rfl, rfl, rfl, rfl, by decide +kernel⟩ ?hw ?hc
  case hw => w_witness2
  case hc =>
    refine Ow.walk_owG (l := PySem.Challenge.rw_rolldiscs_k16_what_is_a_form) (n := 63) (k := 5) (x := "_law_script") (own := true) (Fd := Law.d_law) rfl (by decide) (by kernel_rfl) ⟨rfl, by decide, by decide⟩ ?F Law.law_holds
    intro w mg fa h Y G hmg0
    obtain ⟨K, KX, c⟩ := Y
    have hmg : mg ("law" : PySem.Str) = some (.ref fa) := by
      have e : (HandSHeadRun.topDef Law.R.prog 24).name = ("law" : PySem.Str) := by kernel_rfl
      rw [← e]
      exact hmg0
    obtain ⟨fd, h1, h2⟩ := Law.l_law (P := Law.R.prog) (w := w) (Ow.faz_of KX G c) hmg
    exact ⟨K, fd, KX, h1, fun base _ _ => h2 base⟩
